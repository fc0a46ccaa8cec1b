import PyProof.Rows.All
import Wide.All
import OpenK.AllK
import Wide.FinOn
import HandS.ForMost
import HandS.Flow
import HandS.Style
import HandS.Wide
import HandS.TupAny
import HandS.TupMul
import HandS.Zip
import HandS.Deep
import HandS.IsInst
import HandS.Walk
import HandS.Star
import KE.GoesEnum
import HandS.Strs
import HandS.SortKw
import HandS.SetFor
import HandS.Sort
import HandS.TupSets
import KE.DatumOrd
import PySem.Challenge.RW_growback_k97_whole_readings_beside_runs
/-! Mini: a small language with a plain semantics (core Lean only). Data Da; a def's slots are cells: frozen data, or a list that is one's own (or lent). -/
namespace Mini

inductive Da where
  | non | bl (b : Bool) | int (i : Int) | str (s : List Nat) | tup (l : List Da) | lst (l : List Da)
  deriving Inhabited

/-- a slot: unset, frozen data, a list that may be changed (m: mine; else lent) -/
inductive Cell where
  | un | fz (d : Da) | ow (m : Bool) (l : List Da)
  deriving Inhabited

/-- what a def hands back: frozen data, or a fresh list -/
inductive Ret where
  | fz (d : Da) | ow (l : List Da)

abbrev L := List Cell

inductive Op where | add | sub | mul | fdiv | mod | pow
  deriving DecidableEq
inductive Cop where | lt | le | gt | ge | eq | ne | isN | notN | inn | nin
  deriving DecidableEq
/-- built-ins by name -/
inductive Bi where | len | abs | int | str | max | min | sum | all | any | tuple
  deriving DecidableEq
inductive Ty where | int | bool | str | list | tuple | dict
  deriving DecidableEq

/-- targets: a name's slot, a tuple of targets -/
inductive Tg where | nm (i : Nat) | t2 (a b : Tg) | t3 (a b c : Tg)

mutual
inductive E where
  | var (i : Nat) | cst (x : List Nat) (d : Da) | lit (d : Da)
  | bin (op : Op) (a b : E) | neg (a : E) | not (a : E)
  | and (a b : E) | or (a b : E) | ife (t a b : E)
  | cmp (op : Cop) (a b : E) | chn (o p : Cop) (a b c : E)
  | tup (es : As) | ix (a i : E) | sl (a : E) (lo hi : Pt)
  | call (f : Nat) (es : As) | bi (b : Bi) (es : As) | isi (a : E) (ts : List Ty) | fr (o : O)
  | oix (x : Nat) (i : E) | olen (x : Nat) | otup (x : Nat) | calO (f : Nat) (o : O) | mind (a : E)
/-- items: plain, starred, lent -/
inductive As where
  | nil | e (a : E) (r : As) | st (a : E) (r : As) | ln (x : Nat) (r : As)
inductive Pt where
  | no | so (a : E)
/-- what makes a fresh list -/
inductive O where
  | dis (es : As) | lc (elt : E) (t : Tg) (own : List Nat) (it : I) (f : Pt) | lis (a : E) | cat (a b : O) | rep (a : O) (b : E) | sl (a : E) (lo hi : Pt)
  | osl (x : Nat) (lo hi : Pt) | call (f : Nat) (es : As) | mv (x : Nat) | orr (a b : O) | sst (a : E) | srt (a : E)
/-- what a for walks -/
inductive I where
  | it (a : E) | r1 (a : E) | r2 (a b : E) | en (a : E) | zp (a b : E)
end

mutual
inductive S where
  | asg (t : Tg) (a : E) | par2 (i j : Nat) (a b : E) | par3 (i j k : Nat) (a b c : E)
  | own (x : Nat) (o : O) | app (x : Nat) (a : E) | set (x : Nat) (i a : E) | exp (a : E)
  | ret (a : E) | retO (o : O) | ife (t : E) (a b : Ss) | whl (t : E) (b : Ss) | for_ (t : Tg) (it : I) (b : Ss)
  | never | frz (x : Nat)
inductive Ss where
  | nil | cons (s : S) (r : Ss)
end

/-! ### operations on data -/
mutual
def eqv : Da → Da → Bool
  | .non, .non => true
  | .bl a, .bl b => a == b
  | .bl a, .int j => (if a then 1 else 0) == j
  | .int i, .bl b => i == (if b then 1 else 0)
  | .int i, .int j => i == j
  | .str x, .str y => x == y
  | .lst xs, .lst ys => eqvL xs ys
  | .tup xs, .tup ys => eqvL xs ys
  | _, _ => false
def eqvL : List Da → List Da → Bool
  | [], [] => true
  | x :: xs, y :: ys => eqv x y && eqvL xs ys
  | _, _ => false
end
mutual
/-- nested at most n deep, texts of true signs -/
def sh : Nat → Da → Bool
  | _, .non => true
  | _, .bl _ => true
  | _, .int _ => true
  | _, .str s => s.all (fun c => decide (c < 1114112))
  | 0, _ => false
  | n + 1, .tup l => shL n l
  | n + 1, .lst l => shL n l
def shL : Nat → List Da → Bool
  | _, [] => true
  | n, x :: r => sh n x && shL n r
end
def sm (i : Int) : Bool := decide (-(2 ^ 64) < i ∧ i < 2 ^ 64)
def mulOk (i j : Int) : Bool := sm i || sm j || decide (i.natAbs.log2 + j.natAbs.log2 < 1000000)
def divOk (j : Int) : Bool := (decide (j ≠ 0) && decide (j.natAbs < 1073741824)) || (decide (0 < j) && decide (j.natAbs.log2 < 9000))
def powOk (i j : Int) : Bool := decide (0 ≤ j) && decide (j ≤ 1000000) && decide (i.natAbs < 2 ^ 64)
def most : Nat := 100000
def opF : Op → Da → Da → Option Da
  | .add, .int i, .int j => some (.int (i + j))
  | .sub, .int i, .int j => some (.int (i - j))
  | .mul, .int i, .int j => if mulOk i j then some (.int (i * j)) else none
  | .fdiv, .int i, .int j => if divOk j then some (.int (i.fdiv j)) else none
  | .mod, .int i, .int j => if j ≠ 0 then some (.int (i.fmod j)) else none
  | .pow, .int i, .int j => if powOk i j then some (.int (i ^ j.toNat)) else none
  | .add, .str s, .str t => if s.length + t.length ≤ most then some (.str (s ++ t)) else none
  | .add, .tup s, .tup t => if s.length + t.length ≤ most then some (.tup (s ++ t)) else none
  | .mul, .tup s, .int k => if s.length ≤ 1000 ∧ 0 < s.length ∧ 1 ≤ k ∧ k ≤ 1000 then some (.tup (List.replicate k.toNat s).flatten) else none
  | _, _, _ => none
/-- flat data: nothing within -/
def flat : Da → Bool
  | .non => true | .bl _ => true | .int _ => true | .str _ => true | _ => false
def isInfix (s t : List Nat) : Bool := (List.range (t.length + 1)).any fun i => (t.drop i).take s.length == s
def inF (x : Da) : Da → Option Bool
  | .tup l => if sh 8 x && shL 8 l then some (l.any fun y => eqv y x) else none
  | .lst l => if sh 8 x && shL 8 l then some (l.any fun y => eqv y x) else none
  | .str t => match x with
    | .str [c] => some (t.contains c)
    | _ => none
  | _ => none
def isNon : Da → Bool
  | .non => true | _ => false
def cmpF : Cop → Da → Da → Option Bool
  | .lt, .int i, .int j => some (decide (i < j))
  | .le, .int i, .int j => some (decide (i ≤ j))
  | .gt, .int i, .int j => some (decide (j < i))
  | .ge, .int i, .int j => some (decide (j ≤ i))
  | .eq, x, y => if sh 8 x && sh 8 y then some (eqv x y) else none
  | .ne, x, y => if sh 8 x && sh 8 y then some (!eqv x y) else none
  | .isN, x, .non => some (isNon x)
  | .notN, x, .non => some (!isNon x)
  | .inn, x, y => inF x y
  | .nin, x, y => (inF x y).map not
  | _, _, _ => none
/-- a value as a test -/
def truth : Da → Option Bool
  | .non => some false
  | .bl b => some b
  | .int i => some (i != 0)
  | .str s => if s.length ≤ most then some (!s.isEmpty) else none
  | .tup l => some (!l.isEmpty)
  | .lst l => some (!l.isEmpty)
def bool? : Da → Option Bool
  | .bl b => some b
  | _ => none
def int? : Da → Option Int
  | .int i => some i
  | _ => none
def ints? : List Da → Option (List Int)
  | [] => some []
  | .int i :: r => (ints? r).map (i :: ·)
  | _ :: _ => none
def bools? : List Da → Option (List Bool)
  | [] => some []
  | .bl b :: r => (bools? r).map (b :: ·)
  | _ :: _ => none
def sumI : List Int → Int
  | [] => 0
  | x :: r => x + sumI r
def maxI : List Int → Int
  | [] => 0
  | [x] => x
  | x :: r => if maxI r > x then maxI r else x
def minI : List Int → Int
  | [] => 0
  | [x] => x
  | x :: r => if minI r < x then minI r else x
/-- ints ascending, none twice -/
def insI (z : Int) : List Int → List Int
  | [] => [z]
  | x :: r => if z < x then z :: x :: r else if z = x then x :: r else x :: insI z r
def sortI : List Int → List Int
  | [] => []
  | x :: r => insI x (sortI r)
def sortD (ns : List Int) : List Da := (sortI ns).map .int
def lints? : Da → Option (List Int)
  | .lst l => ints? l
  | _ => none
/-- at most one pair of ints -/
def few? : Da → Option (List Da)
  | .lst [] => some []
  | .lst [.tup [.int i, .int j]] => if 0 ≤ i ∧ 0 ≤ j then some [.tup [.int i, .int j]] else none
  | _ => none
/-- the decimal digits of a number -/
def digitsN : Nat → Nat → List Nat
  | 0, _ => []
  | f + 1, n => if n < 10 then [48 + n] else digitsN f (n / 10) ++ [48 + n % 10]
def digits (i : Int) : List Nat := if i < 0 then 45 :: digitsN (i.natAbs + 1) i.natAbs else digitsN (i.natAbs + 1) i.natAbs
def biF : Bi → List Da → Option Da
  | .len, [.lst l] => some (.int l.length)
  | .len, [.tup l] => some (.int l.length)
  | .len, [.str s] => if s.length ≤ most then some (.int s.length) else none
  | .abs, [.int i] => some (.int (if i < 0 then -i else i))
  | .int, [.int i] => some (.int i)
  | .int, [.bl b] => some (.int (if b then 1 else 0))
  | .max, [.int i, .int j] => some (.int (if j > i then j else i))
  | .min, [.int i, .int j] => some (.int (if j < i then j else i))
  | .max, [.lst l] => (ints? l).bind fun ns => if ns.isEmpty then none else some (.int (maxI ns))
  | .min, [.lst l] => (ints? l).bind fun ns => if ns.isEmpty then none else some (.int (minI ns))
  | .sum, [.lst l] => (ints? l).map fun ns => .int (sumI ns)
  | .sum, [.tup l] => (ints? l).map fun ns => .int (sumI ns)
  | .all, [.lst l] => (bools? l).map fun bs => .bl (bs.all id)
  | .any, [.lst l] => (bools? l).map fun bs => .bl (bs.any id)
  | .tuple, [.lst l] => some (.tup l)
  | .tuple, [.tup l] => some (.tup l)
  | _, _ => none
def isTy : Da → Ty → Bool
  | .bl _, .bool => true
  | .bl _, .int => true
  | .int _, .int => true
  | .str _, .str => true
  | .lst _, .list => true
  | .tup _, .tuple => true
  | _, _ => false
/-- an item's place, counted from the end below 0 -/
def ixN (n : Nat) (i : Int) : Option Nat := if 0 ≤ i then (if i < n then some i.toNat else none) else if -(n : Int) ≤ i then some (i + n).toNat else none
def at? {α : Type} (l : List α) (i : Int) : Option α := (ixN l.length i).bind fun j => l[j]?
def ixF : Da → Da → Option Da
  | .lst l, .int i => at? l i
  | .tup l, .int i => at? l i
  | .str s, .int i => if s.length ≤ most then (at? s i).map fun c => .str [c] else none
  | _, _ => none
/-- a slice's end within 0 .. n -/
def cutAt (n d : Nat) : Option Int → Nat
  | none => d
  | some i => if i < 0 then (i + n).toNat else min i.toNat n
def cut {α : Type} (l : List α) (lo hi : Option Int) : List α := (l.drop (cutAt l.length 0 lo)).take (cutAt l.length l.length hi - cutAt l.length 0 lo)
def slF : Da → Option Int → Option Int → Option Da
  | .tup l, lo, hi => some (.tup (cut l lo hi))
  | .str s, lo, hi => if s.length ≤ most then some (.str (cut s lo hi)) else none
  | _, _, _ => none
def items? : Da → Option (List Da)
  | .lst l => some l
  | .tup l => some l
  | _ => none
def rangeL (lo : Int) (n : Nat) : List Da := (List.range n).map fun i => .int (lo + (i : Nat))
def rngOk (i : Int) : Bool := decide (-(2 ^ 62) ≤ i) && decide (i < 2 ^ 62)
def enumL : Nat → List Da → List Da
  | _, [] => []
  | k, x :: r => .tup [.int k, x] :: enumL (k + 1) r
def zipL : List Da → List Da → List Da
  | x :: xs, y :: ys => .tup [x, y] :: zipL xs ys
  | _, _ => []

/-! ### slots -/
def getZ (l : L) (i : Nat) : Option Da := match l[i]? with
  | some (.fz d) => some d
  | _ => none
def getO (l : L) (i : Nat) : Option (List Da) := match l[i]? with
  | some (.ow _ xs) => some xs
  | _ => none
def isMine : Cell → Bool
  | .ow true _ => true
  | _ => false
def isOw : Cell → Bool
  | .ow _ _ => true
  | _ => false
def isLent : Cell → Bool
  | .ow false _ => true
  | _ => false
/-- a cell stored (not over a lent list) -/
def putC (i : Nat) (c : Cell) (l : L) : Option L := if (l.getD i .un |> isLent) then none else some (l.set i c)
/-- an owned list changed -/
def updO (i : Nat) (xs : List Da) (l : L) : L := match l[i]? with
  | some (.ow m _) => l.set i (.ow m xs)
  | _ => l
def setT : Tg → Da → L → Option L
  | .nm i, d, l => putC i (.fz d) l
  | .t2 a b, .tup [x, y], l => (setT a x l).bind fun l1 => setT b y l1
  | .t3 a b c, .tup [x, y, z], l => (setT a x l).bind fun l1 => (setT b y l1).bind fun l2 => setT c z l2
  | _, _, _ => none
/-- the slots of a comprehension's own names forgotten; put back -/
def wipeC (l : L) : List Nat → L
  | [] => l
  | v :: vs => (wipeC l vs).set v .un
def backC (old new : L) : List Nat → L
  | [] => new
  | v :: vs => (backC old new vs).set v (old.getD v .un)
def noOw (l : L) (vs : List Nat) : Bool := vs.all fun v => !isOw (l.getD v .un)

/-! ### what a call is handed: values, and which slots are lent -/
inductive AV where
  | v (d : Da) | ln (x : Nat)
def avCells (l : L) : List AV → Option (List Cell)
  | [] => some []
  | .v d :: r => (avCells l r).map (.fz d :: ·)
  | .ln x :: r => (getO l x).bind fun xs => (avCells l r).map (.ow false xs :: ·)
def lentOf : List AV → List Nat
  | [] => []
  | .v _ :: r => lentOf r
  | .ln x :: r => x :: lentOf r
def putBack : List AV → List Cell → L → L
  | .ln x :: r, .ow _ xs :: cs, l => putBack r cs (updO x xs l)
  | _ :: r, _ :: cs, l => putBack r cs l
  | _, _, l => l
def vals? : List AV → Option (List Da)
  | [] => some []
  | .v d :: r => (vals? r).map (d :: ·)
  | .ln _ :: _ => none
abbrev Call := Nat → List Cell → Option (Ret × List Cell)
def callV (C : Call) (f : Nat) (as : List AV) (l : L) : Option (Ret × L) :=
  if (lentOf as).Nodup then (avCells l as).bind fun cs => (C f cs).map fun p => (p.1, putBack as p.2 l) else none

/-- a loop over items, the slots handed on -/
def mapL (step : Da → L → Option (Option Da × L)) : List Da → L → Option (List Da × L)
  | [], l => some ([], l)
  | x :: r, l => (step x l).bind fun p => (mapL step r p.2).map fun q => (match p.1 with | some d => d :: q.1 | none => q.1, q.2)

/-- a comprehension's turn, a for's turn -/
def lcG (ee : L → Option (Da × L)) (ff : L → Option (Bool × L)) (t : Tg) (own : List Nat) (x : Da) (l : L) : Option (Option Da × L) :=
  (setT t x l).bind fun l1 => (ff l1).bind fun q => if q.1 then (ee q.2).map fun q => (some q.1, wipeC q.2 own) else some (none, wipeC q.2 own)
mutual
def evE (C : Call) : E → L → Option (Da × L)
  | .var i, l => (getZ l i).map fun d => (d, l)
  | .cst _ d, l => some (d, l)
  | .lit d, l => some (d, l)
  | .bin op a b, l => (evE C a l).bind fun p => (evE C b p.2).bind fun q => (opF op p.1 q.1).map fun d => (d, q.2)
  | .neg a, l => (evE C a l).bind fun p => (int? p.1).map fun i => (.int (-i), p.2)
  | .not a, l => (evE C a l).bind fun p => (truth p.1).map fun b => (.bl (!b), p.2)
  | .and a b, l => (evE C a l).bind fun p => (bool? p.1).bind fun c => if c then evE C b p.2 else some (.bl false, p.2)
  | .or a b, l => (evE C a l).bind fun p => (bool? p.1).bind fun c => if c then some (.bl true, p.2) else evE C b p.2
  | .ife t a b, l => (evE C t l).bind fun p => (truth p.1).bind fun c => if c then evE C a p.2 else evE C b p.2
  | .cmp op a b, l => (evE C a l).bind fun p => (evE C b p.2).bind fun q => (cmpF op p.1 q.1).map fun c => (.bl c, q.2)
  | .chn o o' a b c, l => (evE C a l).bind fun p => (evE C b p.2).bind fun q => (cmpF o p.1 q.1).bind fun k =>
      if k then (evE C c q.2).bind fun r => (cmpF o' q.1 r.1).map fun k => (.bl k, r.2) else some (.bl false, q.2)
  | .tup es, l => (evAs C es l).bind fun p => (vals? p.1).bind fun ds => if ds.length ≤ most then some (.tup ds, p.2) else none
  | .ix a i, l => (evE C a l).bind fun p => (evE C i p.2).bind fun q => (ixF p.1 q.1).map fun d => (d, q.2)
  | .sl a lo hi, l => (evE C a l).bind fun p => (evP C lo p.2).bind fun q => (evP C hi q.2).bind fun r => (slF p.1 q.1 r.1).map fun d => (d, r.2)
  | .call f es, l => (evAs C es l).bind fun p => (callV C f p.1 p.2).map fun q => (match q.1 with | .fz d => d | .ow xs => .lst xs, q.2)
  | .bi b es, l => (evAs C es l).bind fun p => (vals? p.1).bind fun ds => (biF b ds).map fun d => (d, p.2)
  | .isi a ts, l => (evE C a l).map fun p => (.bl (ts.any (isTy p.1)), p.2)
  | .fr o, l => (evO C o l).map fun p => (.lst p.1, p.2)
  | .oix x i, l => (getO l x).bind fun _ => (evE C i l).bind fun p => (getO p.2 x).bind fun xs => (int? p.1).bind fun i => (at? xs i).map fun d => (d, p.2)
  | .olen x, l => (getO l x).map fun xs => (.int xs.length, l)
  | .otup x, l => (getO l x).map fun xs => (.tup xs, l)
  | .mind a, l => (evE C a l).bind fun p => (lints? p.1).map fun ns => (if ns.isEmpty then .non else .int (minI ns), p.2)
  | .calO f o, l => (evO C o l).bind fun p => (C f [.ow false p.1]).map fun q => (match q.1 with | .fz d => d | .ow xs => .lst xs, p.2)
def evAs (C : Call) : As → L → Option (List AV × L)
  | .nil, l => some ([], l)
  | .e a r, l => (evE C a l).bind fun p => (evAs C r p.2).map fun q => (.v p.1 :: q.1, q.2)
  | .st a r, l => (evE C a l).bind fun p => (items? p.1).bind fun xs => (evAs C r p.2).map fun q => (xs.map AV.v ++ q.1, q.2)
  | .ln x r, l => (getO l x).bind fun _ => (evAs C r l).map fun q => (.ln x :: q.1, q.2)
def evP (C : Call) : Pt → L → Option (Option Int × L)
  | .no, l => some (none, l)
  | .so a, l => (evE C a l).bind fun p => (int? p.1).map fun i => (some i, p.2)
/-- a comprehension's test -/
def evF (C : Call) : Pt → L → Option (Bool × L)
  | .no, l => some (true, l)
  | .so a, l => (evE C a l).bind fun p => (truth p.1).map fun b => (b, p.2)
def evO (C : Call) : O → L → Option (List Da × L)
  | .dis es, l => (evAs C es l).bind fun p => (vals? p.1).bind fun ds => if ds.length ≤ most then some (ds, p.2) else none
  | .lc elt t own it f, l => (evI C it l).bind fun p => if noOw p.2 own && decide (p.1.length ≤ most) then
      (mapL (lcG (evE C elt) (evF C f) t own) p.1 (wipeC p.2 own)).map fun q => (q.1, backC p.2 q.2 own) else none
  | .lis a, l => (evE C a l).bind fun p => (items? p.1).map fun xs => (xs, p.2)
  | .cat a b, l => (evO C a l).bind fun p => (evO C b p.2).bind fun q => if p.1.length + q.1.length ≤ most then some (p.1 ++ q.1, q.2) else none
  | .rep a b, l => (evO C a l).bind fun p => (evE C b p.2).bind fun q => (int? q.1).bind fun k => if p.1.length ≤ 1000 ∧ 0 ≤ k ∧ k ≤ 1000 then some ((List.replicate k.toNat p.1).flatten, q.2) else none
  | .sl a lo hi, l => (evE C a l).bind fun p => (evP C lo p.2).bind fun q => (evP C hi q.2).bind fun r => match p.1 with
      | .lst xs => some (cut xs q.1 r.1, r.2)
      | _ => none
  | .osl x lo hi, l => (getO l x).bind fun _ => (evP C lo l).bind fun q => (evP C hi q.2).bind fun r => (getO r.2 x).map fun xs => (cut xs q.1 r.1, r.2)
  | .call f es, l => (evAs C es l).bind fun p => (callV C f p.1 p.2).bind fun q => match q.1 with
      | .ow xs => some (xs, q.2)
      | .fz _ => none
  | .mv x, l => if (l.getD x .un |> isMine) then (getO l x).map fun xs => (xs, l.set x .un) else none
  | .orr a b, l => (evO C a l).bind fun p => if p.1.isEmpty then evO C b p.2 else some p
  | .sst a, l => (evE C a l).bind fun p => (lints? p.1).bind fun ns => if ns.length < 64 then some (sortD ns, p.2) else none
  | .srt a, l => (evE C a l).bind fun p => (few? p.1).map fun xs => (xs, p.2)
def evI (C : Call) : I → L → Option (List Da × L)
  | .it a, l => (evE C a l).bind fun p => (items? p.1).map fun xs => (xs, p.2)
  | .r1 a, l => (evE C a l).bind fun p => (int? p.1).bind fun i => if rngOk i then some (rangeL 0 i.toNat, p.2) else none
  | .r2 a b, l => (evE C a l).bind fun p => (evE C b p.2).bind fun q => (int? p.1).bind fun i => (int? q.1).bind fun j => if rngOk i && rngOk j then some (rangeL i (j - i).toNat, q.2) else none
  | .en a, l => (evE C a l).bind fun p => match p.1 with
      | .lst xs => some (enumL 0 xs, p.2)
      | .tup xs => some (enumL 0 xs, p.2)
      | _ => none
  | .zp a b, l => (evE C a l).bind fun p => (evE C b p.2).bind fun q => match p.1, q.1 with
      | .lst xs, .lst ys => some (zipL xs ys, q.2)
      | .tup xs, .tup ys => some (zipL xs ys, q.2)
      | _, _ => none
end

/-! ### statements -/
inductive Out where
  | nx (l : L) | rt (r : Ret) (l : L)
def fuel : Nat := 5000
def forS (step : Da → L → Option Out) : List Da → L → Option Out
  | [], l => some (.nx l)
  | x :: r, l => (step x l).bind fun o => match o with
    | .nx l1 => forS step r l1
    | .rt v l1 => some (.rt v l1)
def forG (bb : L → Option Out) (t : Tg) (x : Da) (l : L) : Option Out := (setT t x l).bind bb
def whileS (test : L → Option (Bool × L)) (step : L → Option Out) : Nat → L → Option Out
  | 0, _ => none
  | n + 1, l => (test l).bind fun p => if p.1 then (step p.2).bind fun o => match o with
    | .nx l1 => whileS test step n l1
    | .rt v l1 => some (.rt v l1)
    else some (.nx p.2)
def evT (C : Call) (t : E) (l : L) : Option (Bool × L) := (evE C t l).bind fun p => (truth p.1).map fun b => (b, p.2)
mutual
def exS (C : Call) : S → L → Option Out
  | .asg t a, l => (evE C a l).bind fun p => (setT t p.1 p.2).map .nx
  | .par2 i j a b, l => (evE C a l).bind fun p => (evE C b p.2).bind fun q => (putC i (.fz p.1) q.2).bind fun l1 => (putC j (.fz q.1) l1).map .nx
  | .par3 i j k a b c, l => (evE C a l).bind fun p => (evE C b p.2).bind fun q => (evE C c q.2).bind fun r =>
      (putC i (.fz p.1) r.2).bind fun l1 => (putC j (.fz q.1) l1).bind fun l2 => (putC k (.fz r.1) l2).map .nx
  | .own x o, l => (evO C o l).bind fun p => (putC x (.ow true p.1) p.2).map .nx
  | .app x a, l => (getO l x).bind fun _ => (evE C a l).bind fun p => (getO p.2 x).bind fun xs => if xs.length < most then some (.nx (updO x (xs ++ [p.1]) p.2)) else none
  | .set x i a, l => (evE C a l).bind fun p => (getO p.2 x).bind fun _ => (evE C i p.2).bind fun q => (getO q.2 x).bind fun xs => (int? q.1).bind fun k => (ixN xs.length k).map fun j => .nx (updO x (xs.set j p.1) q.2)
  | .exp a, l => (evE C a l).map fun p => .nx p.2
  | .ret a, l => (evE C a l).map fun p => .rt (.fz p.1) p.2
  | .retO o, l => (evO C o l).map fun p => .rt (.ow p.1) p.2
  | .ife t a b, l => (evT C t l).bind fun p => if p.1 then exSs C a p.2 else exSs C b p.2
  | .whl t b, l => whileS (evT C t) (exSs C b) fuel l
  | .for_ t it b, l => (evI C it l).bind fun p => forS (forG (exSs C b) t) p.1 p.2
  | .never, _ => none
  | .frz x, l => if (l.getD x .un |> isMine) then (getO l x).map fun xs => .nx (l.set x (.fz (.lst xs))) else none
def exSs (C : Call) : Ss → L → Option Out
  | .nil, l => some (.nx l)
  | .cons s r, l => (exS C s l).bind fun o => match o with
    | .nx l1 => exSs C r l1
    | .rt v l1 => some (.rt v l1)
end

/-! ### defs -/
structure Def where
  np : Nat
  nl : Nat
  body : Ss
/-- the lent lists as they are behind a call; all else as it was -/
def outs : List Cell → L → List Cell
  | .ow m _ :: r, .ow _ ys :: l => .ow m ys :: outs r l
  | c :: r, _ :: l => c :: outs r l
  | r, [] => r
  | [], _ => []
def lentC : Cell → Cell
  | .ow _ l => .ow false l
  | c => c
def runDef (C : Call) (d : Def) (args : List Cell) : Option (Ret × List Cell) :=
  if args.length = d.np then (exSs C d.body (args.map lentC ++ List.replicate d.nl .un)).map fun o => match o with
    | .nx l => (.fz .non, outs args l)
    | .rt r l => (r, outs args l)
  else none
def callF (prog : Nat → Option Def) : Nat → Call
  | 0 => fun _ _ => none
  | n + 1 => fun f args => (prog f).bind fun d => runDef (callF prog n) d args
end Mini

set_option linter.all false
set_option maxRecDepth 100000
/-! MiniEq: the clauses of the mini semantics as equations. -/
namespace Mini
/-- hung on a function it keeps simp out of that function (a later argument leans on it) -/
inductive Tag {α : Type} (a : α) : Type where | mk
def _root_.Option.bd {α β : Type} (x : Option α) (f : α → Option β) (_t : Tag f := .mk) : Option β := x.bind f
def _root_.Option.mpo {α β : Type} (x : Option α) (f : α → β) (_t : Tag f := .mk) : Option β := x.map f
theorem bd_some {α β : Type} (a : α) (f : α → Option β) (t : Tag f) : (some a).bd f t = f a := (rfl)
theorem bd_none {α β : Type} (f : α → Option β) (t : Tag f) : (none : Option α).bd f t = none := (rfl)
theorem mpo_some {α β : Type} (a : α) (f : α → β) (t : Tag f) : (some a).mpo f t = some (f a) := (rfl)
theorem mpo_none {α β : Type} (f : α → β) (t : Tag f) : (none : Option α).mpo f t = none := (rfl)
theorem callV_eq (C : Call) (f : Nat) (as : List AV) (l : L) : callV C f as l = if (lentOf as).Nodup then (avCells l as).bd fun cs => (C f cs).mpo fun p => (p.1, putBack as p.2 l) else none := (rfl)
theorem forG_eq (bb : L → Option Out) (t : Tg) (x : Da) (l : L) : forG bb t x l = (setT t x l).bd bb := (rfl)
theorem lcG_eq (ee : L → Option (Da × L)) (ff : L → Option (Bool × L)) (t : Tg) (own : List Nat) (x : Da) (l : L) : lcG ee ff t own x l = (setT t x l).bd fun l1 => (ff l1).bd fun q => if q.1 then (ee q.2).mpo fun q => (some q.1, wipeC q.2 own) else some (none, wipeC q.2 own) := (rfl)
theorem evT_eq (C : Call) (t : E) (l : L) : evT C t l = (evE C t l).bd fun p => (truth p.1).mpo fun b => (b, p.2) := (rfl)
theorem evE_var (C : Call) {i} {l} : evE C (E.var i) l = ( (getZ l i).mpo fun d => (d, l)) := (rfl)
theorem evE_cst (C : Call) {u0 d} {l} : evE C (E.cst u0 d) l = ( some (d, l)) := (rfl)
theorem evE_lit (C : Call) {d} {l} : evE C (E.lit d) l = ( some (d, l)) := (rfl)
theorem evE_bin (C : Call) {op a b} {l} : evE C (E.bin op a b) l = ( (evE C a l).bd fun p => (evE C b p.2).bd fun q => (opF op p.1 q.1).mpo fun d => (d, q.2)) := (rfl)
theorem evE_neg (C : Call) {a} {l} : evE C (E.neg a) l = ( (evE C a l).bd fun p => (int? p.1).mpo fun i => (.int (-i), p.2)) := (rfl)
theorem evE_not (C : Call) {a} {l} : evE C (E.not a) l = ( (evE C a l).bd fun p => (truth p.1).mpo fun b => (.bl (!b), p.2)) := (rfl)
theorem evE_and (C : Call) {a b} {l} : evE C (E.and a b) l = ( (evE C a l).bd fun p => (bool? p.1).bd fun c => if c then evE C b p.2 else some (.bl false, p.2)) := (rfl)
theorem evE_or (C : Call) {a b} {l} : evE C (E.or a b) l = ( (evE C a l).bd fun p => (bool? p.1).bd fun c => if c then some (.bl true, p.2) else evE C b p.2) := (rfl)
theorem evE_ife (C : Call) {t a b} {l} : evE C (E.ife t a b) l = ( (evE C t l).bd fun p => (truth p.1).bd fun c => if c then evE C a p.2 else evE C b p.2) := (rfl)
theorem evE_cmp (C : Call) {op a b} {l} : evE C (E.cmp op a b) l = ( (evE C a l).bd fun p => (evE C b p.2).bd fun q => (cmpF op p.1 q.1).mpo fun c => (.bl c, q.2)) := (rfl)
theorem evE_chn (C : Call) {o o' a b c} {l} : evE C (E.chn o o' a b c) l = ( (evE C a l).bd fun p => (evE C b p.2).bd fun q => (cmpF o p.1 q.1).bd fun k =>
      if k then (evE C c q.2).bd fun r => (cmpF o' q.1 r.1).mpo fun k => (.bl k, r.2) else some (.bl false, q.2)) := (rfl)
theorem evE_tup (C : Call) {es} {l} : evE C (E.tup es) l = ( (evAs C es l).bd fun p => (vals? p.1).bd fun ds => if ds.length ≤ most then some (.tup ds, p.2) else none) := (rfl)
theorem evE_ix (C : Call) {a i} {l} : evE C (E.ix a i) l = ( (evE C a l).bd fun p => (evE C i p.2).bd fun q => (ixF p.1 q.1).mpo fun d => (d, q.2)) := (rfl)
theorem evE_sl (C : Call) {a lo hi} {l} : evE C (E.sl a lo hi) l = ( (evE C a l).bd fun p => (evP C lo p.2).bd fun q => (evP C hi q.2).bd fun r => (slF p.1 q.1 r.1).mpo fun d => (d, r.2)) := (rfl)
theorem evE_call (C : Call) {f es} {l} : evE C (E.call f es) l = ( (evAs C es l).bd fun p => (callV C f p.1 p.2).mpo fun q => (match q.1 with | .fz d => d | .ow xs => .lst xs, q.2)) := (rfl)
theorem evE_bi (C : Call) {b es} {l} : evE C (E.bi b es) l = ( (evAs C es l).bd fun p => (vals? p.1).bd fun ds => (biF b ds).mpo fun d => (d, p.2)) := (rfl)
theorem evE_isi (C : Call) {a ts} {l} : evE C (E.isi a ts) l = ( (evE C a l).mpo fun p => (.bl (ts.any (isTy p.1)), p.2)) := (rfl)
theorem evE_fr (C : Call) {o} {l} : evE C (E.fr o) l = ( (evO C o l).mpo fun p => (.lst p.1, p.2)) := (rfl)
theorem evE_oix (C : Call) {x i} {l} : evE C (E.oix x i) l = ( (getO l x).bd fun _ => (evE C i l).bd fun p => (getO p.2 x).bd fun xs => (int? p.1).bd fun i => (at? xs i).mpo fun d => (d, p.2)) := (rfl)
theorem evE_olen (C : Call) {x} {l} : evE C (E.olen x) l = ( (getO l x).mpo fun xs => (.int xs.length, l)) := (rfl)
theorem evE_otup (C : Call) {x} {l} : evE C (E.otup x) l = ( (getO l x).mpo fun xs => (.tup xs, l)) := (rfl)
theorem evE_mind (C : Call) {a} {l} : evE C (E.mind a) l = ( (evE C a l).bd fun p => (lints? p.1).mpo fun ns => (if ns.isEmpty then .non else .int (minI ns), p.2)) := (rfl)
theorem evE_calO (C : Call) {f o} {l} : evE C (E.calO f o) l = ( (evO C o l).bd fun p => (C f [.ow false p.1]).mpo fun q => (match q.1 with | .fz d => d | .ow xs => .lst xs, p.2)) := (rfl)
theorem evAs_nil (C : Call)  {l} : evAs C (As.nil) l = ( some ([], l)) := (rfl)
theorem evAs_e (C : Call) {a r} {l} : evAs C (As.e a r) l = ( (evE C a l).bd fun p => (evAs C r p.2).mpo fun q => (.v p.1 :: q.1, q.2)) := (rfl)
theorem evAs_st (C : Call) {a r} {l} : evAs C (As.st a r) l = ( (evE C a l).bd fun p => (items? p.1).bd fun xs => (evAs C r p.2).mpo fun q => (xs.map AV.v ++ q.1, q.2)) := (rfl)
theorem evAs_ln (C : Call) {x r} {l} : evAs C (As.ln x r) l = ( (getO l x).bd fun _ => (evAs C r l).mpo fun q => (.ln x :: q.1, q.2)) := (rfl)
theorem evP_no (C : Call)  {l} : evP C (Pt.no) l = ( some (none, l)) := (rfl)
theorem evP_so (C : Call) {a} {l} : evP C (Pt.so a) l = ( (evE C a l).bd fun p => (int? p.1).mpo fun i => (some i, p.2)) := (rfl)
theorem evF_no (C : Call)  {l} : evF C (Pt.no) l = ( some (true, l)) := (rfl)
theorem evF_so (C : Call) {a} {l} : evF C (Pt.so a) l = ( (evE C a l).bd fun p => (truth p.1).mpo fun b => (b, p.2)) := (rfl)
theorem evO_dis (C : Call) {es} {l} : evO C (O.dis es) l = ( (evAs C es l).bd fun p => (vals? p.1).bd fun ds => if ds.length ≤ most then some (ds, p.2) else none) := (rfl)
theorem evO_lc (C : Call) {elt t own it f} {l} : evO C (O.lc elt t own it f) l = ( (evI C it l).bd fun p => if noOw p.2 own && decide (p.1.length ≤ most) then
      (mapL (lcG (evE C elt) (evF C f) t own) p.1 (wipeC p.2 own)).mpo fun q => (q.1, backC p.2 q.2 own) else none) := (rfl)
theorem evO_lis (C : Call) {a} {l} : evO C (O.lis a) l = ( (evE C a l).bd fun p => (items? p.1).mpo fun xs => (xs, p.2)) := (rfl)
theorem evO_cat (C : Call) {a b} {l} : evO C (O.cat a b) l = ( (evO C a l).bd fun p => (evO C b p.2).bd fun q => if p.1.length + q.1.length ≤ most then some (p.1 ++ q.1, q.2) else none) := (rfl)
theorem evO_rep (C : Call) {a b} {l} : evO C (O.rep a b) l = ( (evO C a l).bd fun p => (evE C b p.2).bd fun q => (int? q.1).bd fun k => if p.1.length ≤ 1000 ∧ 0 ≤ k ∧ k ≤ 1000 then some ((List.replicate k.toNat p.1).flatten, q.2) else none) := (rfl)
theorem evO_sl (C : Call) {a lo hi} {l} : evO C (O.sl a lo hi) l = ( (evE C a l).bd fun p => (evP C lo p.2).bd fun q => (evP C hi q.2).bd fun r => match p.1 with
      | .lst xs => some (cut xs q.1 r.1, r.2)
      | _ => none) := (rfl)
theorem evO_osl (C : Call) {x lo hi} {l} : evO C (O.osl x lo hi) l = ( (getO l x).bd fun _ => (evP C lo l).bd fun q => (evP C hi q.2).bd fun r => (getO r.2 x).mpo fun xs => (cut xs q.1 r.1, r.2)) := (rfl)
theorem evO_call (C : Call) {f es} {l} : evO C (O.call f es) l = ( (evAs C es l).bd fun p => (callV C f p.1 p.2).bd fun q => match q.1 with
      | .ow xs => some (xs, q.2)
      | .fz _ => none) := (rfl)
theorem evO_mv (C : Call) {x} {l} : evO C (O.mv x) l = ( if (l.getD x .un |> isMine) then (getO l x).mpo fun xs => (xs, l.set x .un) else none) := (rfl)
theorem evO_orr (C : Call) {a b} {l} : evO C (O.orr a b) l = ( (evO C a l).bd fun p => if p.1.isEmpty then evO C b p.2 else some p) := (rfl)
theorem evO_sst (C : Call) {a} {l} : evO C (O.sst a) l = ( (evE C a l).bd fun p => (lints? p.1).bd fun ns => if ns.length < 64 then some (sortD ns, p.2) else none) := (rfl)
theorem evO_srt (C : Call) {a} {l} : evO C (O.srt a) l = ( (evE C a l).bd fun p => (few? p.1).mpo fun xs => (xs, p.2)) := (rfl)
theorem evI_it (C : Call) {a} {l} : evI C (I.it a) l = ( (evE C a l).bd fun p => (items? p.1).mpo fun xs => (xs, p.2)) := (rfl)
theorem evI_r1 (C : Call) {a} {l} : evI C (I.r1 a) l = ( (evE C a l).bd fun p => (int? p.1).bd fun i => if rngOk i then some (rangeL 0 i.toNat, p.2) else none) := (rfl)
theorem evI_r2 (C : Call) {a b} {l} : evI C (I.r2 a b) l = ( (evE C a l).bd fun p => (evE C b p.2).bd fun q => (int? p.1).bd fun i => (int? q.1).bd fun j => if rngOk i && rngOk j then some (rangeL i (j - i).toNat, q.2) else none) := (rfl)
theorem evI_en (C : Call) {a} {l} : evI C (I.en a) l = ( (evE C a l).bd fun p => match p.1 with
      | .lst xs => some (enumL 0 xs, p.2)
      | .tup xs => some (enumL 0 xs, p.2)
      | _ => none) := (rfl)
theorem evI_zp (C : Call) {a b} {l} : evI C (I.zp a b) l = ( (evE C a l).bd fun p => (evE C b p.2).bd fun q => match p.1, q.1 with
      | .lst xs, .lst ys => some (zipL xs ys, q.2)
      | .tup xs, .tup ys => some (zipL xs ys, q.2)
      | _, _ => none) := (rfl)
theorem exS_asg (C : Call) {t a} {l} : exS C (S.asg t a) l = ( (evE C a l).bd fun p => (setT t p.1 p.2).mpo .nx) := (rfl)
theorem exS_par2 (C : Call) {i j a b} {l} : exS C (S.par2 i j a b) l = ( (evE C a l).bd fun p => (evE C b p.2).bd fun q => (putC i (.fz p.1) q.2).bd fun l1 => (putC j (.fz q.1) l1).mpo .nx) := (rfl)
theorem exS_par3 (C : Call) {i j k a b c} {l} : exS C (S.par3 i j k a b c) l = ( (evE C a l).bd fun p => (evE C b p.2).bd fun q => (evE C c q.2).bd fun r =>
      (putC i (.fz p.1) r.2).bd fun l1 => (putC j (.fz q.1) l1).bd fun l2 => (putC k (.fz r.1) l2).mpo .nx) := (rfl)
theorem exS_own (C : Call) {x o} {l} : exS C (S.own x o) l = ( (evO C o l).bd fun p => (putC x (.ow true p.1) p.2).mpo .nx) := (rfl)
theorem exS_app (C : Call) {x a} {l} : exS C (S.app x a) l = ( (getO l x).bd fun _ => (evE C a l).bd fun p => (getO p.2 x).bd fun xs => if xs.length < most then some (.nx (updO x (xs ++ [p.1]) p.2)) else none) := (rfl)
theorem exS_set (C : Call) {x i a} {l} : exS C (S.set x i a) l = ( (evE C a l).bd fun p => (getO p.2 x).bd fun _ => (evE C i p.2).bd fun q => (getO q.2 x).bd fun xs => (int? q.1).bd fun k => (ixN xs.length k).mpo fun j => .nx (updO x (xs.set j p.1) q.2)) := (rfl)
theorem exS_exp (C : Call) {a} {l} : exS C (S.exp a) l = ( (evE C a l).mpo fun p => .nx p.2) := (rfl)
theorem exS_ret (C : Call) {a} {l} : exS C (S.ret a) l = ( (evE C a l).mpo fun p => .rt (.fz p.1) p.2) := (rfl)
theorem exS_retO (C : Call) {o} {l} : exS C (S.retO o) l = ( (evO C o l).mpo fun p => .rt (.ow p.1) p.2) := (rfl)
theorem exS_ife (C : Call) {t a b} {l} : exS C (S.ife t a b) l = ( (evT C t l).bd fun p => if p.1 then exSs C a p.2 else exSs C b p.2) := (rfl)
theorem exS_whl (C : Call) {t b} {l} : exS C (S.whl t b) l = ( whileS (evT C t) (exSs C b) fuel l) := (rfl)
theorem exS_for_ (C : Call) {t it b} {l} : exS C (S.for_ t it b) l = ( (evI C it l).bd fun p => forS (forG (exSs C b) t) p.1 p.2) := (rfl)
theorem exS_never (C : Call)  {l} : exS C (S.never) l = ( none) := (rfl)
theorem exS_frz (C : Call) {x} {l} : exS C (S.frz x) l = ( if (l.getD x .un |> isMine) then (getO l x).mpo fun xs => .nx (l.set x (.fz (.lst xs))) else none) := (rfl)
theorem exSs_nil (C : Call)  {l} : exSs C (Ss.nil) l = ( some (.nx l)) := (rfl)
theorem exSs_cons (C : Call) {s r} {l} : exSs C (Ss.cons s r) l = ( (exS C s l).bd fun o => match o with
    | .nx l1 => exSs C r l1
    | .rt v l1 => some (.rt v l1)) := (rfl)
end Mini

set_option linter.all false
set_option maxRecDepth 100000
/-! Lib: loops and lists of the mini language, whatever the program. -/
namespace Mini
theorem callF_succ (prog : Nat → Option Def) (n f : Nat) (args : List Cell) : callF prog (n + 1) f args = (prog f).bind fun d => runDef (callF prog n) d args := (rfl)
theorem forS_list {step : Da → L → Option Out} (inv : Nat → L) : ∀ (ds : List Da) (k : Nat), (∀ i d, ds[i]? = some d → step d (inv (k + i)) = some (.nx (inv (k + i + 1)))) → forS step ds (inv k) = some (.nx (inv (k + ds.length)))
  | [], k, _ => rfl
  | d :: r, k, h => by
    have h0 := h 0 d rfl
    rw [forS, Nat.add_zero] at *
    rw [h0]
    simp only [Option.bind_some]
    have := forS_list inv r (k + 1) fun i e hi => by
      have := h (i + 1) e (by simpa using hi)
      have e1 : k + 1 + i = k + (i + 1) := by omega
      rw [e1]
      exact this
    rw [this]
    simp only [List.length_cons]
    have e1 : k + 1 + r.length = k + (r.length + 1) := by omega
    rw [e1]
theorem rangeL_get {lo : Int} {n i : Nat} {d : Da} (h : (rangeL lo n)[i]? = some d) : i < n ∧ d = .int (lo + (i : Nat)) := by
  unfold rangeL at h
  rw [List.getElem?_map] at h
  cases q : (List.range n)[i]? with
  | none => rw [q] at h; cases h
  | some j =>
    rw [q] at h
    have hj := List.getElem?_eq_some_iff.mp q
    obtain ⟨h1, h2⟩ := hj
    rw [List.getElem_range] at h2
    subst h2
    rw [List.length_range] at h1
    cases h
    exact ⟨h1, rfl⟩
theorem rangeL_len (lo : Int) (n : Nat) : (rangeL lo n).length = n := by simp [rangeL]
theorem forS_range {step : Da → L → Option Out} (inv : Nat → L) (n : Nat) (h : ∀ i, i < n → step (.int (i : Nat)) (inv i) = some (.nx (inv (i + 1)))) : forS step (rangeL 0 n) (inv 0) = some (.nx (inv n)) := by
  have := forS_list inv (rangeL 0 n) 0 fun i d hd => by
    obtain ⟨h1, h2⟩ := rangeL_get hd
    subst h2
    simpa using h i h1
  rw [rangeL_len] at this
  simpa using this
theorem whileS_to {test : L → Option (Bool × L)} {step : L → Option Out} (inv : Nat → L) (n : Nat) (ht : ∀ i, i < n → test (inv i) = some (true, inv i)) (hs : ∀ i, i < n → step (inv i) = some (.nx (inv (i + 1)))) (he : test (inv n) = some (false, inv n)) :
    ∀ m k : Nat, k ≤ n → n < k + m → whileS test step m (inv k) = some (.nx (inv n))
  | 0, k, h1, h2 => by omega
  | m + 1, k, h1, h2 => by
    rw [whileS]
    by_cases e : k = n
    · subst e
      rw [he]
      simp
    · have lt : k < n := by omega
      rw [ht k lt]
      simp only [Option.bind_some, if_true]
      rw [hs k lt]
      exact whileS_to inv n ht hs he m (k + 1) (by omega) (by omega)
theorem mapL_const {step : Da → L → Option (Option Da × L)} {l : L} (f : Da → Option Da) : ∀ ds : List Da, (∀ d, d ∈ ds → step d l = some (f d, l)) → mapL step ds l = some (ds.filterMap f, l)
  | [], _ => rfl
  | d :: r, h => by
    rw [mapL, h d List.mem_cons_self]
    simp only [Option.bind_some]
    rw [mapL_const f r fun e he => h e (List.mem_cons_of_mem _ he)]
    cases q : f d <;> simp [q]
/-- a comprehension whose turns change the slots -/
theorem mapL_run {step : Da → L → Option (Option Da × L)} (inv : Nat → L) (out : Nat → Da) : ∀ (ds : List Da) (k : Nat), (∀ i d, ds[i]? = some d → step d (inv (k + i)) = some (some (out (k + i)), inv (k + i + 1))) →
    mapL step ds (inv k) = some ((List.range ds.length).map (fun i => out (k + i)), inv (k + ds.length))
  | [], k, _ => rfl
  | d :: r, k, h => by
    have h0 := h 0 d rfl
    rw [mapL, Nat.add_zero] at *
    rw [h0]
    simp only [Option.bind_some]
    have := mapL_run inv out r (k + 1) fun i e hi => by
      have := h (i + 1) e (by simpa using hi)
      have e1 : k + 1 + i = k + (i + 1) := by omega
      rw [e1]
      exact this
    rw [this]
    simp only [List.length_cons, Option.map_some, List.range_succ_eq_map, List.map_cons, List.map_map, Nat.add_zero]
    have e1 : k + 1 + r.length = k + (r.length + 1) := by omega
    rw [e1]
    congr 1
    congr 1
    congr 1
    apply List.map_congr_left
    intro i _
    show out (k + 1 + i) = out (k + (i + 1))
    congr 1
    omega
def retOf (args : List Cell) : Out → Ret × List Cell
  | .nx l => (.fz .non, outs args l)
  | .rt r l => (r, outs args l)
theorem call_body {prog : Nat → Option Def} {n f : Nat} {d : Def} {args : List Cell} (hp : prog f = some d) (hl : args.length = d.np) : callF prog (n + 1) f args = (exSs (callF prog n) d.body (args.map lentC ++ List.replicate d.nl .un)).mpo (retOf args) := by
  rw [callF_succ, hp]
  simp only [Option.bind_some]
  unfold runDef
  rw [if_pos hl]
  unfold Option.mpo
  congr 1
/-- a for's name over range: unset, then the last -/
def lastI : Nat → Cell
  | 0 => .un
  | j + 1 => .fz (.int (j : Nat))
theorem lastI_succ (i : Nat) : lastI (i + 1) = .fz (.int (i : Nat)) := (rfl)
theorem lastI_lent (i : Nat) : isLent (lastI i) = false := by cases i <;> rfl
theorem lastI_ow (i : Nat) : isOw (lastI i) = false := by cases i <;> rfl
theorem isLent_un : isLent .un = false := (rfl)
theorem isLent_fz (d : Da) : isLent (.fz d) = false := (rfl)
theorem isLent_ow (m : Bool) (l : List Da) : isLent (.ow m l) = !m := by cases m <;> rfl
theorem isMine_un : isMine .un = false := (rfl)
theorem isMine_fz (d : Da) : isMine (.fz d) = false := (rfl)
theorem isMine_ow (m : Bool) (l : List Da) : isMine (.ow m l) = m := by cases m <;> rfl
theorem isOw_un : isOw .un = false := (rfl)
theorem isOw_fz (d : Da) : isOw (.fz d) = false := (rfl)
theorem isOw_ow (m : Bool) (l : List Da) : isOw (.ow m l) = true := (rfl)
/-- a slot that each turn fills with an int -/
def cellI (f : Nat → Int) : Nat → Cell
  | 0 => .un
  | j + 1 => .fz (.int (f j))
theorem cellI_zero (f : Nat → Int) : cellI f 0 = .un := (rfl)
theorem cellI_succ (f : Nat → Int) (i : Nat) : cellI f (i + 1) = .fz (.int (f i)) := (rfl)
theorem cellI_lent (f : Nat → Int) (i : Nat) : isLent (cellI f i) = false := by cases i <;> rfl
theorem m_lt0 : 0 < most := by decide
theorem m_le1 : 1 ≤ most := by decide
theorem m_le2 : 2 ≤ most := by decide
theorem m_le3 : 3 ≤ most := by decide
theorem m_le4 : 4 ≤ most := by decide
theorem m_le5 : 5 ≤ most := by decide
theorem m_le6 : 6 ≤ most := by decide
theorem m_le7 : 7 ≤ most := by decide
theorem m_le8 : 8 ≤ most := by decide
theorem cmp_eq_int (i j : Int) : cmpF .eq (.int i) (.int j) = some (i == j) := by simp [cmpF, sh, eqv]
theorem cmp_ne_int (i j : Int) : cmpF .ne (.int i) (.int j) = some (i != j) := by simp [cmpF, sh, eqv, bne]
theorem cmp_eq_bl (i j : Bool) : cmpF .eq (.bl i) (.bl j) = some (i == j) := by simp [cmpF, sh, eqv]
theorem cmp_ne_bl (i j : Bool) : cmpF .ne (.bl i) (.bl j) = some (i != j) := by simp [cmpF, sh, eqv, bne]
theorem cmp_lt_int (i j : Int) : cmpF .lt (.int i) (.int j) = some (decide (i < j)) := (rfl)
theorem cmp_le_int (i j : Int) : cmpF .le (.int i) (.int j) = some (decide (i ≤ j)) := (rfl)
theorem cmp_gt_int (i j : Int) : cmpF .gt (.int i) (.int j) = some (decide (j < i)) := (rfl)
theorem cmp_ge_int (i j : Int) : cmpF .ge (.int i) (.int j) = some (decide (j ≤ i)) := (rfl)
theorem cmp_isN (x : Da) : cmpF .isN x .non = some (isNon x) := by cases x <;> rfl
theorem cmp_notN (x : Da) : cmpF .notN x .non = some (!isNon x) := by cases x <;> rfl
theorem cmp_inn (x y : Da) : cmpF .inn x y = inF x y := by cases x <;> cases y <;> rfl
theorem op_add (i j : Int) : opF .add (.int i) (.int j) = some (.int (i + j)) := (rfl)
theorem op_sub (i j : Int) : opF .sub (.int i) (.int j) = some (.int (i - j)) := (rfl)
theorem op_mul {i j : Int} : opF .mul (.int i) (.int j) = if mulOk i j then some (.int (i * j)) else none := (rfl)
theorem op_fdiv {i j : Int} : opF .fdiv (.int i) (.int j) = if divOk j then some (.int (i.fdiv j)) else none := (rfl)
theorem op_mod {i j : Int} : opF .mod (.int i) (.int j) = if j ≠ 0 then some (.int (i.fmod j)) else none := (rfl)
theorem op_pow {i j : Int} : opF .pow (.int i) (.int j) = if powOk i j then some (.int (i ^ j.toNat)) else none := (rfl)
/-- the last of a list -/
theorem at_last (f : Nat → Da) (i : Nat) : at? ((List.range (i + 1)).map f) (-1) = some (f i) := by
  unfold at? ixN
  have e : (-1 + (((List.range (i + 1)).map f).length : Int)).toNat = i := by simp; omega
  rw [if_neg (by decide), if_pos (by simp; omega), e]
  simp
theorem range_snoc (f : Nat → Da) (i : Nat) : (List.range i).map f ++ [f i] = (List.range (i + 1)).map f := by
  rw [List.range_succ, List.map_append]
  rfl
theorem at_nat {α : Type} {l : List α} {i : Nat} {a : α} (h : l[i]? = some a) : at? l (i : Int) = some a := by
  have hi := (List.getElem?_eq_some_iff.mp h).1
  unfold at? ixN
  rw [if_pos (by omega), if_pos (by omega)]
  simpa using h
theorem at_0 {α : Type} (a : α) (l : List α) : at? (a :: l) 0 = some a := at_nat (i := 0) rfl
theorem at_1 {α : Type} (a b : α) (l : List α) : at? (a :: b :: l) 1 = some b := at_nat (i := 1) rfl
theorem at_2 {α : Type} (a b c : α) (l : List α) : at? (a :: b :: c :: l) 2 = some c := at_nat (i := 2) rfl
theorem forS_inv {step : Da → L → Option Out} (P : Nat → L → Prop) : ∀ (ds : List Da) (k : Nat) (l : L), (∀ i d l, ds[i]? = some d → P (k + i) l → ∃ l', step d l = some (.nx l') ∧ P (k + i + 1) l') → P k l → ∃ l', forS step ds l = some (.nx l') ∧ P (k + ds.length) l'
  | [], k, l, _, p => ⟨l, rfl, p⟩
  | d :: r, k, l, h, p => by
    obtain ⟨l1, h1, p1⟩ := h 0 d l rfl p
    obtain ⟨l2, h2, p2⟩ := forS_inv P r (k + 1) l1 (fun i e l' he hp => by
      have e1 : k + 1 + i = k + (i + 1) := by omega
      rw [e1] at hp ⊢
      exact h (i + 1) e l' (by simpa using he) hp) p1
    refine ⟨l2, ?_, ?_⟩
    · rw [forS, h1]
      exact h2
    · have e1 : k + 1 + r.length = k + (r.length + 1) := by omega
      rw [e1] at p2
      exact p2
theorem mapL_inv {step : Da → L → Option (Option Da × L)} (P : L → Prop) (R : Da → Prop) : ∀ (ds : List Da) (l : L), (∀ d l, d ∈ ds → P l → ∃ o l', step d l = some (some o, l') ∧ R o ∧ P l') → P l → ∃ out l', mapL step ds l = some (out, l') ∧ (∀ o ∈ out, R o) ∧ out.length = ds.length ∧ P l'
  | [], l, _, p => ⟨[], l, rfl, ⟨(fun _ h => by cases h), rfl, p⟩⟩
  | d :: r, l, h, p => by
    obtain ⟨o, l1, h1, r1, p1⟩ := h d l List.mem_cons_self p
    obtain ⟨out, l2, h2, r2, e2, p2⟩ := mapL_inv P R r l1 (fun e l' he hp => h e l' (List.mem_cons_of_mem _ he) hp) p1
    refine ⟨o :: out, l2, ?_, fun z hz => ?_, by simp [e2], p2⟩
    · rw [mapL, h1]
      simp only [Option.bind_some]
      rw [h2]
      rfl
    · rcases List.mem_cons.mp hz with rfl | hz
      · exact r1
      · exact r2 z hz
theorem enum_get (k : Nat) : ∀ (xs : List Da) (i : Nat), (enumL k xs)[i]? = xs[i]?.map fun x => .tup [.int ((k + i : Nat) : Int), x]
  | [], i => by simp [enumL]
  | x :: r, 0 => by simp [enumL]
  | x :: r, i + 1 => by
    rw [enumL, List.getElem?_cons_succ, enum_get (k + 1) r i, List.getElem?_cons_succ]
    have e1 : k + 1 + i = k + (i + 1) := by omega
    rw [e1]
theorem enum_len (k : Nat) : ∀ xs : List Da, (enumL k xs).length = xs.length
  | [] => rfl
  | x :: r => by rw [enumL, List.length_cons, List.length_cons, enum_len (k + 1) r]
def intz (ns : List Int) : List Da := ns.map .int
theorem ints_len (ns : List Int) : (intz ns).length = ns.length := by simp [intz]
theorem ints_get {ns : List Int} {i : Nat} {d : Da} (h : (intz ns)[i]? = some d) : ∃ z, ns[i]? = some z ∧ d = .int z := by
  unfold intz at h
  rw [List.getElem?_map] at h
  cases q : ns[i]? with
  | none => rw [q] at h; cases h
  | some z => rw [q] at h; cases h; exact ⟨z, rfl, rfl⟩
theorem ints_at {ns : List Int} {i : Nat} (h : i < ns.length) : at? (intz ns) (i : Int) = some (.int ns[i]) := at_nat (by simp [intz, h])
theorem ints_set (ns : List Int) (i : Nat) (z : Int) : (intz ns).set i (.int z) = intz (ns.set i z) := by simp [intz, List.map_set]
theorem ints_take (ns : List Int) (k : Nat) : (intz ns).take k = intz (ns.take k) := by simp [intz, List.map_take]
theorem ints_drop (ns : List Int) (k : Nat) : (intz ns).drop k = intz (ns.drop k) := by simp [intz, List.map_drop]
theorem bools_true : ∀ {l : List Da}, (∀ o ∈ l, o = .bl true) → biF .all [.lst l] = some (.bl true)
  | l, h => by
    have : ∀ l : List Da, (∀ o ∈ l, o = .bl true) → ∃ bs, bools? l = some bs ∧ bs.all id = true := by
      intro l
      induction l with
      | nil => intro _; exact ⟨[], rfl, rfl⟩
      | cons x r ih =>
        intro h
        have hx := h x List.mem_cons_self
        subst hx
        obtain ⟨bs, h1, h2⟩ := ih fun o ho => h o (List.mem_cons_of_mem _ ho)
        exact ⟨true :: bs, by simp [bools?, h1], by simp [h2]⟩
    obtain ⟨bs, h1, h2⟩ := this l h
    simp only [biF, h1, Option.map_some, h2]
theorem cut_ints (ns : List Int) (lo hi : Option Int) : cut (intz ns) lo hi = intz (cut ns lo hi) := by
  unfold cut
  rw [ints_len, ints_drop, ints_take]
theorem cut_to {α : Type} (l : List α) (k : Nat) : cut l none (some (k : Int)) = l.take k := by
  unfold cut cutAt
  simp only
  rw [if_neg (by omega)]
  simp only [List.drop_zero, Nat.sub_zero, Int.toNat_natCast]
  by_cases h : k ≤ l.length
  · rw [Nat.min_eq_left h]
  · rw [Nat.min_eq_right (by omega), List.take_length, List.take_of_length_le (by omega)]
theorem cut_late {α : Type} (l : List α) (k : Nat) (hi : Option Int) (h : l.length ≤ k) : cut l (some (k : Int)) hi = [] := by
  have e : cutAt l.length 0 (some (k : Int)) = l.length := by
    unfold cutAt
    simp only
    rw [if_neg (by omega)]
    omega
  unfold cut
  rw [e, List.drop_length, List.take_nil]
theorem cut_len {α : Type} (l : List α) (lo hi : Option Int) : (cut l lo hi).length ≤ l.length := by
  unfold cut
  simp only [List.length_take, List.length_drop]
  omega
theorem ix_nat {n i : Nat} (h : i < n) : ixN n (i : Int) = some i := by
  unfold ixN
  rw [if_pos (by omega), if_pos (by omega)]
  simp
theorem mapL_invI {step : Da → L → Option (Option Da × L)} (P : Nat → L → Prop) (R : Da → Prop) : ∀ (ds : List Da) (k : Nat) (l : L), (∀ i d l, ds[i]? = some d → P (k + i) l → ∃ o l', step d l = some (some o, l') ∧ R o ∧ P (k + i + 1) l') → P k l → ∃ out l', mapL step ds l = some (out, l') ∧ (∀ o ∈ out, R o) ∧ out.length = ds.length ∧ P (k + ds.length) l'
  | [], k, l, _, p => ⟨[], l, rfl, ⟨(fun _ h => by cases h), rfl, p⟩⟩
  | d :: r, k, l, h, p => by
    obtain ⟨o, l1, h1, r1, p1⟩ := h 0 d l rfl p
    obtain ⟨out, l2, h2, r2, e2, p2⟩ := mapL_invI P R r (k + 1) l1 (fun i e l' he hp => by
      have e1 : k + 1 + i = k + (i + 1) := by omega
      rw [e1] at hp ⊢
      exact h (i + 1) e l' (by simpa using he) hp) p1
    refine ⟨o :: out, l2, ?_, fun z hz => ?_, by simp [e2], ?_⟩
    · rw [mapL, h1]
      simp only [Option.bind_some]
      rw [h2]
      rfl
    · rcases List.mem_cons.mp hz with rfl | hz
      · exact r1
      · exact r2 z hz
    · have e1 : k + 1 + r.length = k + (r.length + 1) := by omega
      rw [e1] at p2
      exact p2
theorem bi_len (l : List Da) : biF .len [.lst l] = some (.int l.length) := (rfl)
theorem bi_int (i : Int) : biF .int [.int i] = some (.int i) := (rfl)
end Mini

set_option linter.all false
set_option maxRecDepth 100000
/-! Mono: what a call computes at one level it computes at every higher one. -/
namespace Mini
def Le {α : Type} (x y : Option α) : Prop := ∀ b, x = some b → y = some b
def LeC (C C' : Call) : Prop := ∀ f a, Le (C f a) (C' f a)
theorem Le.refl {α : Type} (x : Option α) : Le x x := fun _ h => h
theorem Le.bind {α β : Type} {x x' : Option α} {f f' : α → Option β} (h1 : Le x x') (h2 : ∀ a, Le (f a) (f' a)) : Le (x.bind f) (x'.bind f') := fun b h => by
  rw [Option.bind_eq_some_iff] at h ⊢
  obtain ⟨a, ha, hb⟩ := h
  exact ⟨a, h1 a ha, h2 a b hb⟩
theorem Le.map {α β : Type} {x x' : Option α} {f : α → β} (h1 : Le x x') : Le (x.map f) (x'.map f) := fun b h => by
  rw [Option.map_eq_some_iff] at h ⊢
  obtain ⟨a, ha, hb⟩ := h
  exact ⟨a, h1 a ha, hb⟩
theorem Le.ite {α : Type} {c : Prop} [Decidable c] {x x' y y' : Option α} (h1 : Le x x') (h2 : Le y y') : Le (if c then x else y) (if c then x' else y') := by
  split
  · exact h1
  · exact h2
theorem mapL_mono {s s' : Da → L → Option (Option Da × L)} (h : ∀ d l, Le (s d l) (s' d l)) : ∀ (ds : List Da) (l : L), Le (mapL s ds l) (mapL s' ds l)
  | [], l => Le.refl _
  | d :: r, l => Le.bind (h d l) fun p => Le.map (mapL_mono h r p.2)
theorem lcG_mono {e e' : L → Option (Da × L)} {f f' : L → Option (Bool × L)} {t : Tg} {own : List Nat} (h1 : ∀ l, Le (e l) (e' l)) (h2 : ∀ l, Le (f l) (f' l)) (d : Da) (l : L) : Le (lcG e f t own d l) (lcG e' f' t own d l) :=
  Le.bind (Le.refl _) fun l1 => Le.bind (h2 l1) fun q => Le.ite (Le.map (h1 _)) (Le.refl _)
section
variable {C C' : Call} (h : LeC C C')
include h
theorem callV_mono (f : Nat) (as : List AV) (l : L) : Le (callV C f as l) (callV C' f as l) := Le.ite (Le.bind (Le.refl _) fun cs => Le.map (h f cs)) (Le.refl _)
mutual
theorem mE : ∀ (a : E) (l : L), Le (evE C a l) (evE C' a l)
  | .var i, l => Le.refl _
  | .cst _ d, l => Le.refl _
  | .lit d, l => Le.refl _
  | .bin op a b, l => Le.bind (mE a l) fun p => Le.bind (mE b p.2) fun q => Le.refl _
  | .neg a, l => Le.bind (mE a l) fun p => Le.refl _
  | .not a, l => Le.bind (mE a l) fun p => Le.refl _
  | .and a b, l => Le.bind (mE a l) fun p => Le.bind (Le.refl _) fun c => Le.ite (mE b p.2) (Le.refl _)
  | .or a b, l => Le.bind (mE a l) fun p => Le.bind (Le.refl _) fun c => Le.ite (Le.refl _) (mE b p.2)
  | .ife t a b, l => Le.bind (mE t l) fun p => Le.bind (Le.refl _) fun c => Le.ite (mE a p.2) (mE b p.2)
  | .cmp op a b, l => Le.bind (mE a l) fun p => Le.bind (mE b p.2) fun q => Le.refl _
  | .chn o o' a b c, l => Le.bind (mE a l) fun p => Le.bind (mE b p.2) fun q => Le.bind (Le.refl _) fun k => Le.ite (Le.bind (mE c q.2) fun r => Le.refl _) (Le.refl _)
  | .tup es, l => Le.bind (mAs es l) fun p => Le.refl _
  | .ix a i, l => Le.bind (mE a l) fun p => Le.bind (mE i p.2) fun q => Le.refl _
  | .sl a lo hi, l => Le.bind (mE a l) fun p => Le.bind (mP lo p.2) fun q => Le.bind (mP hi q.2) fun r => Le.refl _
  | .call f es, l => Le.bind (mAs es l) fun p => Le.map (callV_mono h f p.1 p.2)
  | .bi b es, l => Le.bind (mAs es l) fun p => Le.refl _
  | .isi a ts, l => Le.map (mE a l)
  | .fr o, l => Le.map (mO o l)
  | .oix x i, l => Le.bind (Le.refl _) fun _ => Le.bind (mE i l) fun p => Le.refl _
  | .olen x, l => Le.refl _
  | .otup x, l => Le.refl _
  | .mind a, l => Le.bind (mE a l) fun p => Le.refl _
  | .calO f o, l => Le.bind (mO o l) fun p => Le.map (h f _)
theorem mAs : ∀ (a : As) (l : L), Le (evAs C a l) (evAs C' a l)
  | .nil, l => Le.refl _
  | .e a r, l => Le.bind (mE a l) fun p => Le.map (mAs r p.2)
  | .st a r, l => Le.bind (mE a l) fun p => Le.bind (Le.refl _) fun xs => Le.map (mAs r p.2)
  | .ln x r, l => Le.bind (Le.refl _) fun _ => Le.map (mAs r l)
theorem mP : ∀ (a : Pt) (l : L), Le (evP C a l) (evP C' a l)
  | .no, l => Le.refl _
  | .so a, l => Le.bind (mE a l) fun p => Le.refl _
theorem mF : ∀ (a : Pt) (l : L), Le (evF C a l) (evF C' a l)
  | .no, l => Le.refl _
  | .so a, l => Le.bind (mE a l) fun p => Le.refl _
theorem mO : ∀ (a : O) (l : L), Le (evO C a l) (evO C' a l)
  | .dis es, l => Le.bind (mAs es l) fun p => Le.refl _
  | .lc elt t own it f, l => Le.bind (mI it l) fun p => Le.ite (Le.map (mapL_mono (lcG_mono (fun l => mE elt l) (fun l => mF f l)) _ _)) (Le.refl _)
  | .lis a, l => Le.bind (mE a l) fun p => Le.refl _
  | .cat a b, l => Le.bind (mO a l) fun p => Le.bind (mO b p.2) fun q => Le.refl _
  | .rep a b, l => Le.bind (mO a l) fun p => Le.bind (mE b p.2) fun q => Le.refl _
  | .sl a lo hi, l => Le.bind (mE a l) fun p => Le.bind (mP lo p.2) fun q => Le.bind (mP hi q.2) fun r => Le.refl _
  | .osl x lo hi, l => Le.bind (Le.refl _) fun _ => Le.bind (mP lo l) fun q => Le.bind (mP hi q.2) fun r => Le.refl _
  | .call f es, l => Le.bind (mAs es l) fun p => Le.bind (callV_mono h f p.1 p.2) fun q => Le.refl _
  | .mv x, l => Le.refl _
  | .orr a b, l => Le.bind (mO a l) fun p => Le.ite (mO b p.2) (Le.refl _)
  | .sst a, l => Le.bind (mE a l) fun p => Le.refl _
  | .srt a, l => Le.bind (mE a l) fun p => Le.refl _
theorem mI : ∀ (a : I) (l : L), Le (evI C a l) (evI C' a l)
  | .it a, l => Le.bind (mE a l) fun p => Le.refl _
  | .r1 a, l => Le.bind (mE a l) fun p => Le.refl _
  | .r2 a b, l => Le.bind (mE a l) fun p => Le.bind (mE b p.2) fun q => Le.refl _
  | .en a, l => Le.bind (mE a l) fun p => Le.refl _
  | .zp a b, l => Le.bind (mE a l) fun p => Le.bind (mE b p.2) fun q => Le.refl _
end
end
theorem forS_mono {s s' : Da → L → Option Out} (h : ∀ d l, Le (s d l) (s' d l)) : ∀ (ds : List Da) (l : L), Le (forS s ds l) (forS s' ds l)
  | [], l => Le.refl _
  | d :: r, l => Le.bind (h d l) fun o => match o with
    | .nx l1 => forS_mono h r l1
    | .rt v l1 => Le.refl _
theorem whileS_mono {t t' : L → Option (Bool × L)} {s s' : L → Option Out} (h : ∀ l, Le (t l) (t' l)) (h2 : ∀ l, Le (s l) (s' l)) : ∀ (n : Nat) (l : L), Le (whileS t s n l) (whileS t' s' n l)
  | 0, l => Le.refl _
  | n + 1, l => Le.bind (h l) fun p => Le.ite (Le.bind (h2 p.2) fun o => match o with
    | .nx l1 => whileS_mono h h2 n l1
    | .rt v l1 => Le.refl _) (Le.refl _)
section
variable {C C' : Call} (h : LeC C C')
include h
theorem evT_mono (t : E) (l : L) : Le (evT C t l) (evT C' t l) := Le.bind (mE h t l) fun p => Le.refl _
theorem forG_mono {b b' : L → Option Out} (hb : ∀ l, Le (b l) (b' l)) (t : Tg) (x : Da) (l : L) : Le (forG b t x l) (forG b' t x l) := Le.bind (Le.refl _) fun l1 => hb l1
mutual
theorem mS : ∀ (a : S) (l : L), Le (exS C a l) (exS C' a l)
  | .asg t a, l => Le.bind (mE h a l) fun p => Le.refl _
  | .par2 i j a b, l => Le.bind (mE h a l) fun p => Le.bind (mE h b p.2) fun q => Le.refl _
  | .par3 i j k a b c, l => Le.bind (mE h a l) fun p => Le.bind (mE h b p.2) fun q => Le.bind (mE h c q.2) fun r => Le.refl _
  | .own x o, l => Le.bind (mO h o l) fun p => Le.refl _
  | .app x a, l => Le.bind (Le.refl _) fun _ => Le.bind (mE h a l) fun p => Le.refl _
  | .set x i a, l => Le.bind (mE h a l) fun p => Le.bind (Le.refl _) fun _ => Le.bind (mE h i p.2) fun q => Le.refl _
  | .exp a, l => Le.map (mE h a l)
  | .ret a, l => Le.map (mE h a l)
  | .retO o, l => Le.map (mO h o l)
  | .ife t a b, l => Le.bind (evT_mono h t l) fun p => Le.ite (mSs a p.2) (mSs b p.2)
  | .whl t b, l => whileS_mono (fun l => evT_mono h t l) (fun l => mSs b l) fuel l
  | .for_ t it b, l => Le.bind (mI h it l) fun p => forS_mono (fun d l => forG_mono h (fun l => mSs b l) t d l) p.1 p.2
  | .never, l => Le.refl _
  | .frz x, l => Le.refl _
theorem mSs : ∀ (a : Ss) (l : L), Le (exSs C a l) (exSs C' a l)
  | .nil, l => Le.refl _
  | .cons s r, l => Le.bind (mS s l) fun o => match o with
    | .nx l1 => mSs r l1
    | .rt v l1 => Le.refl _
end
theorem runDef_mono (d : Def) (a : List Cell) : Le (runDef C d a) (runDef C' d a) := Le.ite (Le.map (mSs h d.body _)) (Le.refl _)
end
theorem callF_step (prog : Nat → Option Def) : ∀ n, LeC (callF prog n) (callF prog (n + 1))
  | 0 => fun f a b h => by cases h
  | n + 1 => fun f a => Le.bind (Le.refl _) fun d => runDef_mono (callF_step prog n) d a
theorem callF_up {prog : Nat → Option Def} {n f : Nat} {a : List Cell} {r : Ret × List Cell} (e : callF prog n f a = some r) : ∀ k, callF prog (n + k) f a = some r
  | 0 => e
  | k + 1 => callF_step prog (n + k) f a r (callF_up e k)
theorem callF_le {prog : Nat → Option Def} {n m f : Nat} {a : List Cell} {r : Ret × List Cell} (e : callF prog n f a = some r) (h : n ≤ m) : callF prog m f a = some r := by
  obtain ⟨k, rfl⟩ : ∃ k, m = n + k := ⟨m - n, by omega⟩
  exact callF_up e k
end Mini

set_option linter.all false
set_option maxRecDepth 100000
/-! Gro: more of lists and loops; rules, sizes, places, in plain Lean. -/
namespace Mini
theorem ixF_tup (l : List Da) (i : Int) : ixF (.tup l) (.int i) = at? l i := (rfl)
theorem ixF_lst (l : List Da) (i : Int) : ixF (.lst l) (.int i) = at? l i := (rfl)
theorem bi_lent (l : List Da) : biF .len [.tup l] = some (.int l.length) := (rfl)
theorem bi_intb (b : Bool) : biF .int [.bl b] = some (.int (if b then 1 else 0)) := (rfl)
theorem bi_abs (i : Int) : biF .abs [.int i] = some (.int (if i < 0 then -i else i)) := (rfl)
theorem bi_tupl (l : List Da) : biF .tuple [.lst l] = some (.tup l) := (rfl)
theorem bi_tupt (l : List Da) : biF .tuple [.tup l] = some (.tup l) := (rfl)
/-! ### rows made by range -/
def rw (n : Nat) (f : Nat → Da) : List Da := (List.range n).map f
theorem rw_len (n : Nat) (f : Nat → Da) : (rw n f).length = n := by simp [rw]
theorem rw_get {n i : Nat} (f : Nat → Da) (h : i < n) : (rw n f)[i]? = some (f i) := by simp [rw, h]
theorem rw_none {n i : Nat} (f : Nat → Da) (h : n ≤ i) : (rw n f)[i]? = none := List.getElem?_eq_none (by rw [rw_len]; exact h)
theorem rw_mem {n : Nat} {f : Nat → Da} {d : Da} (h : d ∈ rw n f) : ∃ i, i < n ∧ d = f i := by
  unfold rw at h
  obtain ⟨i, hi, rfl⟩ := List.mem_map.mp h
  exact ⟨i, List.mem_range.mp hi, rfl⟩
theorem rw_getD {n i : Nat} {f : Nat → Da} {d : Da} (h : (rw n f)[i]? = some d) : i < n ∧ d = f i := by
  have hi := (List.getElem?_eq_some_iff.mp h).1
  rw [rw_len] at hi
  rw [rw_get f hi] at h
  exact ⟨hi, (Option.some.inj h).symm⟩
theorem rw_snoc (n : Nat) (f : Nat → Da) : rw n f ++ [f n] = rw (n + 1) f := range_snoc f n
theorem rw_last (n : Nat) (f : Nat → Da) : at? (rw (n + 1) f) (-1) = some (f n) := at_last f n
theorem rw_at {n i : Nat} (f : Nat → Da) (h : i < n) : at? (rw n f) (i : Int) = some (f i) := at_nat (rw_get f h)
theorem rw_at1 {n i : Nat} (f : Nat → Da) (h : i + 1 < n) : at? (rw n f) ((i : Int) + 1) = some (f (i + 1)) := rw_at f h
theorem cut_mem {α : Type} {l : List α} {lo hi : Option Int} {d : α} (h : d ∈ cut l lo hi) : d ∈ l := List.mem_of_mem_drop (List.mem_of_mem_take h)
theorem rw_succ (n : Nat) (f : Nat → Da) : rw (n + 1) f = f 0 :: rw n (fun i => f (i + 1)) := by
  unfold rw
  rw [List.range_succ_eq_map, List.map_cons, List.map_map]
  rfl
theorem rw_congr {n : Nat} {f g : Nat → Da} (h : ∀ i, i < n → f i = g i) : rw n f = rw n g := by
  unfold rw
  exact List.map_congr_left fun i hi => h i (List.mem_range.mp hi)
theorem rangeL_rw (lo : Int) (n : Nat) : rangeL lo n = rw n (fun i => .int (lo + (i : Nat))) := (rfl)
theorem cut_tail (n : Nat) (f : Nat → Da) : cut (rw (n + 1) f) (some 1) none = rw n (fun i => f (i + 1)) := by
  rw [rw_succ]
  unfold cut cutAt
  simp only [List.length_cons, rw_len]
  rw [if_neg (by omega)]
  have e1 : min (Int.toNat 1) (n + 1) = 1 := by simp
  rw [e1]
  simp only [List.drop_succ_cons, List.drop_zero]
  exact List.take_of_length_le (by rw [rw_len]; omega)
theorem cut_drop (n k : Nat) (f : Nat → Da) (h : k ≤ n) : cut (rw n f) (some (k : Int)) none = rw (n - k) (fun i => f (k + i)) := by
  unfold cut cutAt
  simp only [rw_len]
  rw [if_neg (by omega)]
  have e1 : min (Int.toNat (k : Int)) n = k := by simp; omega
  rw [e1]
  apply List.ext_getElem?
  intro i
  rw [List.getElem?_take]
  by_cases hi : i < n - k
  · rw [if_pos hi, List.getElem?_drop, rw_get _ hi, rw_get _ (by omega)]
  · rw [if_neg hi, List.getElem?_eq_none (by rw [rw_len]; omega)]
theorem cut_take (n k : Nat) (f : Nat → Da) (h : k ≤ n) : cut (rw n f) none (some (k : Int)) = rw k f := by
  rw [cut_to]
  apply List.ext_getElem?
  intro i
  rw [List.getElem?_take]
  by_cases hi : i < k
  · rw [if_pos hi, rw_get _ hi, rw_get _ (by omega)]
  · rw [if_neg hi, List.getElem?_eq_none (by rw [rw_len]; omega)]
theorem cut_init (n : Nat) (f : Nat → Da) : cut (rw (n + 1) f) none (some (-1)) = rw n f := by
  unfold cut cutAt
  simp only [rw_len]
  rw [if_pos (by decide)]
  simp only [List.drop_zero, Nat.sub_zero]
  have e : (-1 + ((n + 1 : Nat) : Int)).toNat = n := by omega
  rw [e]
  apply List.ext_getElem?
  intro i
  rw [List.getElem?_take]
  by_cases hi : i < n
  · rw [if_pos hi, rw_get _ hi, rw_get _ (by omega)]
  · rw [if_neg hi, List.getElem?_eq_none (by rw [rw_len]; omega)]
theorem enum_rw (n : Nat) (f : Nat → Da) : enumL 0 (rw n f) = rw n (fun i => .tup [.int (i : Nat), f i]) := by
  apply List.ext_getElem?
  intro i
  rw [enum_get]
  by_cases hi : i < n
  · rw [rw_get _ hi, rw_get _ hi]; simp
  · rw [List.getElem?_eq_none (by rw [rw_len]; omega), List.getElem?_eq_none (by rw [rw_len]; omega)]; rfl
theorem zip_get : ∀ (xs ys : List Da) (i : Nat), (zipL xs ys)[i]? = xs[i]?.bind fun x => ys[i]?.map fun y => Da.tup [x, y]
  | [], _, i => by simp [zipL]
  | x :: xs, [], i => by cases (x :: xs)[i]? <;> simp [zipL]
  | x :: xs, y :: ys, 0 => by simp [zipL]
  | x :: xs, y :: ys, i + 1 => by rw [zipL, List.getElem?_cons_succ, zip_get xs ys i]; simp
theorem zip_rw (n m : Nat) (f g : Nat → Da) (h : n ≤ m) : zipL (rw m f) (rw n g) = rw n (fun i => .tup [f i, g i]) := by
  apply List.ext_getElem?
  intro i
  rw [zip_get]
  by_cases hi : i < n
  · rw [rw_get _ hi, rw_get _ hi, rw_get _ (by omega)]; rfl
  · rw [rw_none (n := n) g (by omega), rw_none (n := n) (fun i => Da.tup [f i, g i]) (by omega)]
    cases (rw m f)[i]? <;> rfl
theorem zip_rw' (n m : Nat) (f g : Nat → Da) (h : n ≤ m) : zipL (rw n f) (rw m g) = rw n (fun i => .tup [f i, g i]) := by
  apply List.ext_getElem?
  intro i
  rw [zip_get]
  by_cases hi : i < n
  · rw [rw_get _ hi, rw_get _ hi, rw_get _ (by omega)]; rfl
  · rw [rw_none (n := n) f (by omega), rw_none (n := n) (fun i => Da.tup [f i, g i]) (by omega)]
    rfl
theorem mapL_rw {step : Da → L → Option (Option Da × L)} {l : L} {f : Nat → Da} (n : Nat) (g : Nat → Da) (h : ∀ i, i < n → step (f i) l = some (some (g i), l)) : mapL step (rw n f) l = some (rw n g, l) := by
  suffices ∀ (k : Nat) (is : List Nat), (∀ i, i ∈ is → step (f i) l = some (some (g i), l)) → mapL step (is.map f) l = some (is.map g, l) from
    this 0 _ fun i hi => h i (List.mem_range.mp hi)
  intro _ is
  induction is with
  | nil => intro _; rfl
  | cons i r ih =>
    intro h
    rw [List.map_cons, mapL, h i List.mem_cons_self]
    simp only [Option.bind_some]
    rw [ih fun j hj => h j (List.mem_cons_of_mem _ hj)]
    rfl
/-- a comprehension with a test -/
def rwF (n : Nat) (c : Nat → Bool) (g : Nat → Da) : List Da := ((List.range n).filter c).map g
theorem mapL_rwF {step : Da → L → Option (Option Da × L)} {l : L} {f : Nat → Da} (n : Nat) (c : Nat → Bool) (g : Nat → Da) (h : ∀ i, i < n → step (f i) l = some (if c i then some (g i) else none, l)) : mapL step (rw n f) l = some (rwF n c g, l) := by
  suffices ∀ (is : List Nat), (∀ i, i ∈ is → step (f i) l = some (if c i then some (g i) else none, l)) → mapL step (is.map f) l = some ((is.filter c).map g, l) from
    this _ fun i hi => h i (List.mem_range.mp hi)
  intro is
  induction is with
  | nil => intro _; rfl
  | cons i r ih =>
    intro h
    rw [List.map_cons, mapL, h i List.mem_cons_self]
    simp only [Option.bind_some]
    rw [ih fun j hj => h j (List.mem_cons_of_mem _ hj)]
    by_cases q : c i = true
    · simp [q, List.filter_cons]
    · simp [q, List.filter_cons]
theorem rwF_len (n : Nat) (c : Nat → Bool) (g : Nat → Da) : (rwF n c g).length ≤ n := by
  unfold rwF
  rw [List.length_map]
  exact Nat.le_trans (List.length_filter_le _ _) (by simp)
theorem rwF_none {n : Nat} {c : Nat → Bool} {g : Nat → Da} (h : ∀ i, i < n → c i = false) : rwF n c g = [] := by
  unfold rwF
  rw [List.filter_eq_nil_iff.mpr]
  · rfl
  · intro i hi
    rw [h i (List.mem_range.mp hi)]
    decide
theorem rwF_congr {n : Nat} {c c' : Nat → Bool} {g g' : Nat → Da} (h : ∀ i, i < n → c i = c' i) (k : ∀ i, i < n → c i = true → g i = g' i) : rwF n c g = rwF n c' g' := by
  unfold rwF
  have : (List.range n).filter c = (List.range n).filter c' := List.filter_congr fun i hi => h i (List.mem_range.mp hi)
  rw [← this]
  apply List.map_congr_left
  intro i hi
  obtain ⟨h1, h2⟩ := List.mem_filter.mp hi
  exact k i (List.mem_range.mp h1) h2
theorem rwF_mem {n : Nat} {c : Nat → Bool} {g : Nat → Da} {d : Da} (h : d ∈ rwF n c g) : ∃ i, i < n ∧ c i = true ∧ d = g i := by
  unfold rwF at h
  obtain ⟨i, hi, rfl⟩ := List.mem_map.mp h
  obtain ⟨h1, h2⟩ := List.mem_filter.mp hi
  exact ⟨i, List.mem_range.mp h1, h2, rfl⟩
theorem forS_rw {step : Da → L → Option Out} {f : Nat → Da} (inv : Nat → L) (n : Nat) (h : ∀ i, i < n → step (f i) (inv i) = some (.nx (inv (i + 1)))) : forS step (rw n f) (inv 0) = some (.nx (inv n)) := by
  have := forS_list inv (rw n f) 0 fun i d hd => by
    obtain ⟨h1, h2⟩ := rw_getD hd
    subst h2
    simpa using h i h1
  rw [rw_len] at this
  simpa using this
/-- a for that may go back early does not -/
theorem forS_same {step : Da → L → Option Out} {l : L} : ∀ ds : List Da, (∀ d, d ∈ ds → step d l = some (.nx l)) → forS step ds l = some (.nx l)
  | [], _ => rfl
  | d :: r, h => by
    rw [forS, h d List.mem_cons_self]
    exact forS_same r fun e he => h e (List.mem_cons_of_mem _ he)
/-! ### lists of ints -/
theorem ints_rw (n : Nat) (f : Nat → Int) : ints? (rw n fun i => .int (f i)) = some ((List.range n).map f) := by
  unfold rw
  generalize List.range n = is
  induction is with
  | nil => rfl
  | cons i r ih => rw [List.map_cons, ints?, ih]; rfl
def sumN (f : Nat → Int) : Nat → Int
  | 0 => 0
  | k + 1 => sumN f k + f k
theorem sumI_app : ∀ a b : List Int, sumI (a ++ b) = sumI a + sumI b
  | [], b => by simp [sumI]
  | x :: r, b => by rw [List.cons_append, sumI, sumI, sumI_app r b]; omega
theorem sumI_rw (f : Nat → Int) : ∀ n, sumI ((List.range n).map f) = sumN f n
  | 0 => rfl
  | n + 1 => by
    rw [List.range_succ, List.map_append, sumI_app, sumI_rw f n]
    simp [sumI, sumN]
def mx (a b : Int) : Int := if b > a then b else a
def maxN (f : Nat → Int) : Nat → Int
  | 0 => f 0
  | k + 1 => mx (maxN f k) (f (k + 1))
theorem maxI_cons2 (x y : Int) (r : List Int) : maxI (x :: y :: r) = mx x (maxI (y :: r)) := (rfl)
theorem maxI_snoc : ∀ (x : Int) (r : List Int) (z : Int), maxI (x :: r ++ [z]) = mx (maxI (x :: r)) z
  | x, [], z => rfl
  | x, y :: r, z => by
    have := maxI_snoc y r z
    rw [List.cons_append, List.cons_append, maxI_cons2, maxI_cons2, ← List.cons_append, this]
    unfold mx
    split <;> split <;> (try split) <;> (try split) <;> omega
theorem maxI_rw (f : Nat → Int) : ∀ n, maxI ((List.range (n + 1)).map f) = maxN f n
  | 0 => rfl
  | n + 1 => by
    rw [List.range_succ, List.map_append, List.range_succ_eq_map, List.map_cons, List.map_cons]
    have := maxI_rw f n
    rw [List.range_succ_eq_map, List.map_cons] at this
    rw [List.map_nil, maxI_snoc, this]
    rfl
theorem max_int2 (a b : Int) : biF .max [.int a, .int b] = some (.int (mx a b)) := (rfl)
theorem mx_l (a b : Int) : a ≤ mx a b := by unfold mx; split <;> omega
theorem mx_r (a b : Int) : b ≤ mx a b := by unfold mx; split <;> omega
/-! ### Euclid -/
theorem whileS_gcd {test : L → Option (Bool × L)} {step : L → Option Out} (C : Int → Int → L) (ht : ∀ x y, test (C x y) = some (decide (y ≠ 0), C x y)) (hs : ∀ x y, y ≠ 0 → step (C x y) = some (.nx (C y (x.fmod y)))) :
    ∀ (k fuel : Nat) (x y : Int), 0 ≤ y → y ≤ x → 0 < x → x * y < 2 ^ k → k + 2 ≤ fuel → whileS test step fuel (C x y) = some (.nx (C (Nat.gcd x.natAbs y.natAbs : Nat) 0))
  | k, 0, x, y, _, _, _, _, hf => by omega
  | k, fuel + 1, x, y, hy, hxy, hx, hk, hf => by
    rw [whileS, ht]
    by_cases h : y = 0
    · subst h
      have : ((Nat.gcd x.natAbs (0 : Int).natAbs : Nat) : Int) = x := by
        simp
        omega
      rw [this]
      simp
    · have e1 : decide (y ≠ 0) = true := by simpa using h
      simp only [Option.bind_some, e1, if_true]
      rw [hs x y h]
      have hm : x.fmod y = x % y := Int.fmod_eq_emod_of_nonneg _ hy
      have h0 := Int.emod_nonneg x h
      have h1 := Int.emod_lt_of_pos x (show 0 < y by omega)
      have hd : y ≤ x - x % y := by
        have := Int.mul_ediv_add_emod x y
        have q : 1 ≤ x / y := (Int.le_ediv_iff_mul_le (show 0 < y by omega)).mpr (by omega)
        have : y * 1 ≤ y * (x / y) := Int.mul_le_mul_of_nonneg_left q hy
        omega
      have hp : 2 * (y * (x % y)) < x * y := by
        have a1 : y * (2 * (x % y)) ≤ y * (x - 1) := Int.mul_le_mul_of_nonneg_left (by omega) hy
        have e2 : y * (2 * (x % y)) = 2 * (y * (x % y)) := Int.mul_left_comm _ _ _
        have e3 : y * (x - 1) = x * y - y := by rw [Int.mul_sub, Int.mul_one, Int.mul_comm]
        omega
      have hg : Nat.gcd y.natAbs (x % y).natAbs = Nat.gcd x.natAbs y.natAbs := by
        rw [Nat.gcd_comm y.natAbs, Int.natAbs_emod_of_nonneg (by omega : 0 ≤ x), ← Nat.gcd_rec, Nat.gcd_comm]
      match k, hk, hf with
      | 0, hk, hf =>
        have : 0 ≤ y * (x % y) := Int.mul_nonneg hy h0
        have : x * y < 1 := hk
        omega
      | k + 1, hk, hf =>
        have e4 : (2 : Int) ^ (k + 1) = 2 * 2 ^ k := by rw [Int.pow_succ, Int.mul_comm]
        have := whileS_gcd C ht hs k fuel y (x % y) h0 (by omega) (by omega) (by omega) (by omega)
        rw [hg] at this
        rw [hm]
        exact this
theorem whileS_gcd0 {test : L → Option (Bool × L)} {step : L → Option Out} (C : Int → Int → L) (ht : ∀ x y, test (C x y) = some (decide (y ≠ 0), C x y)) (hs : ∀ x y, y ≠ 0 → step (C x y) = some (.nx (C y (x.fmod y))))
    (k fuel : Nat) (x y : Int) (hy : 0 < y) (hx : 0 ≤ x) (hk : x * y < 2 ^ k) (hf : k + 3 ≤ fuel) : whileS test step fuel (C x y) = some (.nx (C (Nat.gcd x.natAbs y.natAbs : Nat) 0)) := by
  by_cases h : y ≤ x
  · exact whileS_gcd C ht hs k fuel x y (by omega) h (by omega) hk (by omega)
  · match fuel, hf with
    | fuel + 1, hf =>
      rw [whileS, ht]
      have e1 : decide (y ≠ 0) = true := by simp; omega
      simp only [Option.bind_some, e1, if_true]
      rw [hs x y (by omega)]
      have hm : x.fmod y = x := by rw [Int.fmod_eq_emod_of_nonneg _ (by omega)]; exact Int.emod_eq_of_lt hx (by omega)
      rw [hm, Nat.gcd_comm]
      rw [Int.mul_comm] at hk
      exact whileS_gcd C ht hs k fuel y x hx (by omega) hy hk (by omega)
/-! ### bounds -/
theorem sm_of {i : Int} (h0 : -1000000 < i) (h1 : i < 1000000) : sm i = true := by
  unfold sm
  exact decide_eq_true (by omega)
theorem mul_r {i j : Int} (h : sm j = true) : mulOk i j = true := by
  unfold mulOk
  rw [h]
  simp
theorem mul_l {i j : Int} (h : sm i = true) : mulOk i j = true := by
  unfold mulOk
  rw [h]
  simp
theorem log_lt {i : Int} {k : Nat} (h : i.natAbs < 2 ^ k) : i.natAbs.log2 ≤ k := by
  by_cases z : i.natAbs = 0
  · rw [z]; simp
  · have := (Nat.log2_lt z).mpr h
    omega
theorem mul_big {i j : Int} {a b : Nat} (h1 : i.natAbs < 2 ^ a) (h2 : j.natAbs < 2 ^ b) (h : a + b < 1000000) : mulOk i j = true := by
  have := log_lt h1
  have := log_lt h2
  unfold mulOk
  rw [Bool.or_eq_true]
  exact .inr (decide_eq_true (by omega))
theorem div_ok {q : Int} (h0 : 0 < q) (h1 : q < 1073741824) : divOk q = true := by
  unfold divOk
  rw [Bool.or_eq_true, Bool.and_eq_true]
  exact .inl ⟨decide_eq_true (by omega), decide_eq_true (by omega)⟩
theorem div_big {q : Int} {a : Nat} (h0 : 0 < q) (h1 : q.natAbs < 2 ^ a) (h : a < 9000) : divOk q = true := by
  have := log_lt h1
  unfold divOk
  rw [Bool.or_eq_true, Bool.and_eq_true, Bool.and_eq_true]
  exact .inr ⟨decide_eq_true h0, decide_eq_true (by omega)⟩
theorem fmod_lt {a b : Int} (h : 0 < b) : 0 ≤ a.fmod b ∧ a.fmod b < b := ⟨Int.fmod_nonneg_of_pos a h, Int.fmod_lt_of_pos a h⟩
/-! ### rules -/
abbrev rl (p q m : Int) : Da := .tup [.int p, .int q, .int m]
def nx (p q m s : Int) : Int := (p * s).fdiv q + m
/-- a RULE and a START -/
structure R where
  p : Int
  q : Int
  m : Int
  s : Int
def R.sz (r : R) : Nat → Int
  | 0 => r.s
  | i + 1 => nx r.p r.q r.m (r.sz i)
def R.pl (r : R) : Nat → Int
  | 0 => 0
  | i + 1 => if r.sz (i + 1) ≤ r.pl i then 0 else r.pl i + r.sz i
def R.row (r : R) (i : Nat) : Da := .tup [.int (r.pl i), .int (r.sz i)]
/-- the least sum of place and size that growth i + 1 needs -/
def R.nd (r : R) (i : Nat) : Int := mx (r.pl i + r.sz i) (r.pl (i + 1) + r.sz (i + 1))
structure Ok (p q : Int) : Prop where
  p0 : 0 < p
  p1 : p < 1000
  q0 : 0 < q
  q1 : q < 1000
theorem Ok.mul {p q : Int} (h : Ok p q) (s : Int) : mulOk p s = true := mul_l (sm_of (by have := h.p0; omega) (by have := h.p1; omega))
theorem Ok.div {p q : Int} (h : Ok p q) : divOk q = true := div_ok h.q0 (by have := h.q1; omega)
structure R.Good (r : R) : Prop where
  ok : Ok r.p r.q
  s1 : 1 ≤ r.s
  up : r.s < nx r.p r.q r.m r.s
theorem nx_le {p q m a b : Int} (h : Ok p q) (hq : q ≤ p) (hab : a < b) (ha : a < nx p q m a) : b < nx p q m b := by
  have h0 := h.q0
  unfold nx at *
  have e1 : (p * b).fdiv q = (p * b) / q := Int.fdiv_eq_ediv_of_nonneg _ (by omega)
  have e2 : (p * a).fdiv q = (p * a) / q := Int.fdiv_eq_ediv_of_nonneg _ (by omega)
  rw [e2] at ha
  rw [e1]
  have h1 : p * b = p * a + p * (b - a) := by rw [← Int.mul_add]; congr 1; omega
  have h2 : q * (b - a) ≤ p * (b - a) := Int.mul_le_mul_of_nonneg_right hq (by omega)
  have h3 : (p * a + q * (b - a)) / q ≤ (p * b) / q := Int.ediv_le_ediv h0 (by omega)
  rw [Int.add_mul_ediv_left _ _ (by omega)] at h3
  omega
theorem R.Good.inc {r : R} (g : r.Good) (hq : r.q ≤ r.p) : ∀ i, 1 ≤ r.sz i ∧ r.sz i < r.sz (i + 1)
  | 0 => ⟨g.s1, g.up⟩
  | i + 1 => by
    obtain ⟨h1, h2⟩ := R.Good.inc g hq i
    refine ⟨by omega, ?_⟩
    show r.sz (i + 1) < nx r.p r.q r.m (r.sz (i + 1))
    exact nx_le g.ok hq h2 (by exact h2)
theorem R.sz_add (r : R) (k : Nat) : ∀ i, r.sz (k + i) = (⟨r.p, r.q, r.m, r.sz k⟩ : R).sz i
  | 0 => rfl
  | i + 1 => by
    show nx r.p r.q r.m (r.sz (k + i)) = _
    rw [R.sz_add r k i]
    rfl
theorem R.pl_add (r : R) (k : Nat) (h : r.pl k = 0) : ∀ i, r.pl (k + i) = (⟨r.p, r.q, r.m, r.sz k⟩ : R).pl i
  | 0 => h
  | i + 1 => by
    have e := R.sz_add r k (i + 1)
    have e' : r.sz (k + i + 1) = (⟨r.p, r.q, r.m, r.sz k⟩ : R).sz (i + 1) := e
    show (if r.sz (k + i + 1) ≤ r.pl (k + i) then 0 else r.pl (k + i) + r.sz (k + i)) = _
    rw [R.pl_add r k h i, e', R.sz_add r k i]
    rfl
theorem R.Good.from {r : R} (g : r.Good) (hq : r.q ≤ r.p) (k : Nat) : (⟨r.p, r.q, r.m, r.sz k⟩ : R).Good := ⟨g.ok, (g.inc hq k).1, (g.inc hq k).2⟩
theorem nx_twice (p q m s : Int) (h : 0 < q) : nx (2 * p) (2 * q) m s = nx p q m s := by
  unfold nx
  rw [Int.mul_assoc, Int.fdiv_eq_ediv_of_nonneg _ (by omega), Int.fdiv_eq_ediv_of_nonneg _ (by omega), Int.mul_ediv_mul_of_pos _ _ (by decide)]
theorem R.twice (r : R) (h : 0 < r.q) : ∀ i, (⟨2 * r.p, 2 * r.q, r.m, r.s⟩ : R).sz i = r.sz i
  | 0 => rfl
  | i + 1 => by
    show nx (2 * r.p) (2 * r.q) r.m _ = nx r.p r.q r.m _
    rw [nx_twice _ _ _ _ h, R.twice r h i]
theorem R.twice_pl (r : R) (h : 0 < r.q) : ∀ i, (⟨2 * r.p, 2 * r.q, r.m, r.s⟩ : R).pl i = r.pl i
  | 0 => rfl
  | i + 1 => by
    rw [R.pl, R.pl, R.twice r h, R.twice r h, R.twice_pl r h i]
theorem R.pl_nn {r : R} (g : r.Good) (hq : r.q ≤ r.p) : ∀ i, 0 ≤ r.pl i
  | 0 => Int.le_refl 0
  | i + 1 => by
    have := R.pl_nn g hq i
    have := (g.inc hq i).1
    rw [R.pl]
    split <;> omega
/-- all below a power of 2 -/
theorem R.lt_pow {r : R} (b : Nat) (g : r.Good) (hq : r.q ≤ r.p) (hp : r.p ≤ 24) (hm0 : 0 ≤ r.m) (hm : r.m ≤ 1000) (hs : r.s < 2 ^ b) : ∀ i, r.sz i < 2 ^ (b + 11 * i) ∧ r.pl i < 2 ^ (b + 1 + 11 * i)
  | 0 => ⟨hs, Int.pow_pos (by decide)⟩
  | i + 1 => by
    obtain ⟨h1, h2⟩ := R.lt_pow b g hq hp hm0 hm hs i
    have g1 := (g.inc hq i).1
    have q0 := g.ok.q0
    obtain ⟨z, hz⟩ : ∃ z, z = r.sz i := ⟨_, rfl⟩
    have e1 : r.sz (i + 1) = nx r.p r.q r.m (r.sz i) := rfl
    have : r.sz (i + 1) ≤ 1024 * r.sz i := by
      rw [e1, ← hz]
      rw [← hz] at g1
      unfold nx
      rw [Int.fdiv_eq_ediv_of_nonneg _ (by omega)]
      have a1 : r.p * z ≤ 24 * z := Int.mul_le_mul_of_nonneg_right hp (by omega)
      have a2 : r.p * z / r.q ≤ r.p * z := Int.ediv_le_self _ (Int.mul_nonneg (by have := g.ok.p0; omega) (by omega))
      omega
    have p1 : (2 : Int) ^ (b + 11 * (i + 1)) = 2048 * 2 ^ (b + 11 * i) := by
      have : b + 11 * (i + 1) = (b + 11 * i) + 11 := by omega
      rw [this, Int.pow_add, Int.mul_comm]
      congr 1
    have p2 : (2 : Int) ^ (b + 1 + 11 * (i + 1)) = 4096 * 2 ^ (b + 11 * i) := by
      have : b + 1 + 11 * (i + 1) = (b + 11 * i) + 12 := by omega
      rw [this, Int.pow_add, Int.mul_comm]
      congr 1
    have p3 : (2 : Int) ^ (b + 1 + 11 * i) = 2 * 2 ^ (b + 11 * i) := by
      have : b + 1 + 11 * i = (b + 11 * i) + 1 := by omega
      rw [this, Int.pow_succ, Int.mul_comm]
    have hpl := R.pl_nn g hq (i + 1)
    refine ⟨by omega, ?_⟩
    rw [R.pl]
    split <;> omega
end Mini

set_option linter.all false
set_option maxRecDepth 100000
/-! Gro2: equality of data, lists handed on, least numbers. -/
namespace Mini
mutual
theorem eqv_refl : ∀ d : Da, eqv d d = true
  | .non => by simp [eqv]
  | .bl _ => by simp [eqv]
  | .int _ => by simp [eqv]
  | .str _ => by simp [eqv]
  | .lst l => by rw [eqv]; exact eqvL_refl l
  | .tup l => by rw [eqv]; exact eqvL_refl l
theorem eqvL_refl : ∀ l : List Da, eqvL l l = true
  | [] => by simp [eqvL]
  | x :: r => by rw [eqvL, eqv_refl x, eqvL_refl r]; rfl
end
theorem cmp_ne_same {d : Da} (h : sh 8 d = true) : cmpF .ne d d = some false := by
  have : cmpF .ne d d = if sh 8 d && sh 8 d then some (!eqv d d) else none := by cases d <;> rfl
  rw [this, h, eqv_refl]
  rfl
theorem cmp_eq_same {d : Da} (h : sh 8 d = true) : cmpF .eq d d = some true := by
  have : cmpF .eq d d = if sh 8 d && sh 8 d then some (eqv d d) else none := by cases d <;> rfl
  rw [this, h, eqv_refl]
  rfl
theorem shL_all {n : Nat} : ∀ {l : List Da}, (∀ d, d ∈ l → sh n d = true) → shL n l = true
  | [], _ => by simp [shL]
  | x :: r, h => by rw [shL, h x List.mem_cons_self, shL_all fun d hd => h d (List.mem_cons_of_mem _ hd)]; rfl
theorem sh_rw {n k : Nat} {f : Nat → Da} (h : ∀ i, i < k → sh n (f i) = true) : sh (n + 1) (.tup (rw k f)) = true := by
  rw [sh]
  apply shL_all
  intro d hd
  obtain ⟨i, hi, rfl⟩ := rw_mem hd
  exact h i hi
theorem sh_rwl {n k : Nat} {f : Nat → Da} (h : ∀ i, i < k → sh n (f i) = true) : sh (n + 1) (.lst (rw k f)) = true := by
  rw [sh]
  apply shL_all
  intro d hd
  obtain ⟨i, hi, rfl⟩ := rw_mem hd
  exact h i hi
theorem vals_app (xs : List Da) (l : List AV) : vals? (xs.map AV.v ++ l) = (vals? l).map (xs ++ ·) := by
  induction xs with
  | nil => simp
  | cons x r ih =>
    rw [List.map_cons, List.cons_append, vals?, ih]
    cases vals? l <;> rfl
theorem vals_all (xs : List Da) : vals? (xs.map AV.v) = some xs := by
  have := vals_app xs []
  rw [List.append_nil] at this
  rw [this]
  simp [vals?]
theorem least_nat {P : Nat → Prop} (D : ∀ i, Decidable (P i)) : ∀ n, P n → ∃ k, k ≤ n ∧ P k ∧ ∀ i, i < k → ¬ P i := by
  intro n
  induction n using Nat.strongRecOn with
  | ind n ih =>
    intro h
    by_cases q : ∃ i, i < n ∧ P i
    · obtain ⟨i, hi, hp⟩ := q
      obtain ⟨k, h1, h2, h3⟩ := ih i hi hp
      exact ⟨k, by omega, h2, h3⟩
    · exact ⟨n, Nat.le_refl _, h, fun i hi hp => q ⟨i, hi, hp⟩⟩
/-- ints, lists, tuples of ints .. : what a law's _law_same holds equal to itself -/
def hdS : Ss → S
  | .cons s _ => s
  | .nil => .never
def tlS : Ss → Ss
  | .cons _ r => r
  | .nil => .nil
theorem exSs_two {C : Call} {b : Ss} {l l1 : L} (hb : b = .cons (hdS b) (tlS b)) (h : exS C (hdS b) l = some (.nx l1)) : exSs C b l = exSs C (tlS b) l1 := by
  cases b with
  | nil => cases hb
  | cons s r =>
    rw [exSs_cons, show exS C s l = some (.nx l1) from h]
    rfl
/-- the same with the shape of the rest named -/
theorem exSs_step {C : Call} {s : S} {r : Ss} {l l1 : L} (h : exS C s l = some (.nx l1)) : exSs C (.cons s r) l = exSs C r l1 := by
  rw [exSs_cons, h]
  rfl
mutual
/-- data that a law's _law_same holds equal to itself: as sh, and no list too long -/
def wd : Nat → Da → Bool
  | _, .non => true
  | _, .bl _ => true
  | _, .int _ => true
  | _, .str s => s.all (fun c => decide (c < 1114112))
  | 0, _ => false
  | n + 1, .tup l => decide (l.length ≤ most) && wdL n l
  | n + 1, .lst l => decide (l.length ≤ most) && wdL n l
def wdL : Nat → List Da → Bool
  | _, [] => true
  | n, x :: r => wd n x && wdL n r
end
theorem wdL_all {n : Nat} : ∀ {l : List Da}, wdL n l = true → ∀ d, d ∈ l → wd n d = true
  | x :: r, h, d, hd => by
    rw [wdL, Bool.and_eq_true] at h
    rcases List.mem_cons.mp hd with rfl | hd
    · exact h.1
    · exact wdL_all h.2 d hd
theorem wdL_of {n : Nat} : ∀ {l : List Da}, (∀ d, d ∈ l → wd n d = true) → wdL n l = true
  | [], _ => by simp [wdL]
  | x :: r, h => by rw [wdL, h x List.mem_cons_self, wdL_of fun d hd => h d (List.mem_cons_of_mem _ hd)]; rfl
theorem wd_rwl {n k : Nat} {f : Nat → Da} (hk : k ≤ most) (h : ∀ i, i < k → wd n (f i) = true) : wd (n + 1) (.lst (rw k f)) = true := by
  rw [wd, Bool.and_eq_true, rw_len]
  refine ⟨decide_eq_true hk, wdL_of fun d hd => ?_⟩
  obtain ⟨i, hi, rfl⟩ := rw_mem hd
  exact h i hi
theorem wd_sh : ∀ (k m : Nat) (d : Da), k ≤ m → wd k d = true → sh m d = true
  | k, m, .non, _, _ => by cases m <;> simp [sh]
  | k, m, .bl _, _, _ => by cases m <;> simp [sh]
  | k, m, .int _, _, _ => by cases m <;> simp [sh]
  | k, m, .str s, _, h => by cases k <;> cases m <;> simpa [sh, wd] using h
  | 0, m, .tup l, _, h => by simp [wd] at h
  | 0, m, .lst l, _, h => by simp [wd] at h
  | k + 1, m + 1, .tup l, hk, h => by
    rw [wd, Bool.and_eq_true] at h
    rw [sh]
    exact shL_all fun d hd => wd_sh k m d (by omega) (wdL_all h.2 d hd)
  | k + 1, m + 1, .lst l, hk, h => by
    rw [wd, Bool.and_eq_true] at h
    rw [sh]
    exact shL_all fun d hd => wd_sh k m d (by omega) (wdL_all h.2 d hd)
def zipD : List Da → List Da
  | [] => []
  | x :: r => .tup [x, x] :: zipD r
theorem zip_self : ∀ l : List Da, zipL l l = zipD l
  | [] => rfl
  | x :: r => by rw [zipL, zip_self r]; rfl
theorem zipD_mem : ∀ {l : List Da} {d : Da}, d ∈ zipD l → ∃ x, x ∈ l ∧ d = .tup [x, x]
  | x :: r, d, h => by
    rcases List.mem_cons.mp h with rfl | h
    · exact ⟨x, List.mem_cons_self, rfl⟩
    · obtain ⟨y, hy, e⟩ := zipD_mem h
      exact ⟨y, List.mem_cons_of_mem _ hy, e⟩
theorem zipD_len : ∀ l : List Da, (zipD l).length = l.length
  | [] => rfl
  | x :: r => by rw [zipD, List.length_cons, List.length_cons, zipD_len r]
/-- places within a def's body -/
def nthS : Nat → Ss → S
  | _, .nil => .never
  | 0, .cons s _ => s
  | n + 1, .cons _ r => nthS n r
def dropS : Nat → Ss → Ss
  | 0, b => b
  | _, .nil => .nil
  | n + 1, .cons _ r => dropS n r
def forBd : S → Ss
  | .for_ _ _ b => b
  | .whl _ b => b
  | _ => .nil
def forTg : S → Tg
  | .for_ t _ _ => t
  | _ => .nm 0
def forIt : S → I
  | .for_ _ i _ => i
  | _ => .it (.lit .non)
def whT : S → E
  | .whl t _ => t
  | _ => .lit .non
theorem exS_isFor (C : Call) {s : S} {l l' : L} {ds : List Da} {o : Out} (h : s = .for_ (forTg s) (forIt s) (forBd s)) (hi : evI C (forIt s) l = some (ds, l')) (hl : forS (forG (exSs C (forBd s)) (forTg s)) ds l' = some o) : exS C s l = some o := by
  rw [h, exS_for_, hi]
  exact hl
theorem exS_isWhl (C : Call) {s : S} {l : L} {o : Out} (h : s = .whl (whT s) (forBd s)) (hl : whileS (evT C (whT s)) (exSs C (forBd s)) fuel l = some o) : exS C s l = some o := by
  rw [h, exS_whl]
  exact hl
theorem exSs_ret {C : Call} {b : Ss} {l l1 : L} {v : Ret} (k : Nat) (hb : dropS k b = .cons (nthS k b) (dropS (k + 1) b)) (h : exS C (nthS k b) l = some (.rt v l1)) : exSs C (dropS k b) l = some (.rt v l1) := by
  rw [hb, exSs_cons, h]
  rfl
theorem exSs_nth {C : Call} {b : Ss} {l l1 : L} (k : Nat) (hb : dropS k b = .cons (nthS k b) (dropS (k + 1) b)) (h : exS C (nthS k b) l = some (.nx l1)) : exSs C (dropS k b) l = exSs C (dropS (k + 1) b) l1 := by
  rw [hb, exSs_cons, h]
  rfl
/-- a while that goes back early, at the turn k -/
theorem whileS_ret {test : L → Option (Bool × L)} {step : L → Option Out} (inv : Nat → L) (n : Nat) {v : Ret} {l2 : L} (ht : ∀ i, i ≤ n → test (inv i) = some (true, inv i)) (hs : ∀ i, i < n → step (inv i) = some (.nx (inv (i + 1)))) (he : step (inv n) = some (.rt v l2)) :
    ∀ m k : Nat, k ≤ n → n < k + m → whileS test step m (inv k) = some (.rt v l2)
  | 0, k, h1, h2 => by omega
  | m + 1, k, h1, h2 => by
    rw [whileS, ht k h1]
    simp only [Option.bind_some, if_true]
    by_cases e : k = n
    · subst e
      rw [he]
      rfl
    · rw [hs k (by omega)]
      exact whileS_ret inv n ht hs he m (k + 1) (by omega) (by omega)
mutual
/-- data without lists, not too long -/
def tt : Nat → Da → Bool
  | _, .non => true
  | _, .bl _ => true
  | _, .int _ => true
  | _, .str _ => true
  | n + 1, .tup l => decide (l.length ≤ most) && ttL n l
  | _, _ => false
def ttL : Nat → List Da → Bool
  | _, [] => true
  | n, x :: r => tt n x && ttL n r
end
theorem ttL_all {n : Nat} : ∀ {l : List Da}, ttL n l = true → ∀ d, d ∈ l → tt n d = true
  | x :: r, h, d, hd => by
    rw [ttL, Bool.and_eq_true] at h
    rcases List.mem_cons.mp hd with rfl | hd
    · exact h.1
    · exact ttL_all h.2 d hd
theorem ttL_of {n : Nat} : ∀ {l : List Da}, (∀ d, d ∈ l → tt n d = true) → ttL n l = true
  | [], _ => by simp [ttL]
  | x :: r, h => by rw [ttL, h x List.mem_cons_self, ttL_of fun d hd => h d (List.mem_cons_of_mem _ hd)]; rfl
theorem tt_rw {n k : Nat} {f : Nat → Da} (hk : k ≤ most) (h : ∀ i, i < k → tt n (f i) = true) : tt (n + 1) (.tup (rw k f)) = true := by
  rw [tt, Bool.and_eq_true, rw_len]
  refine ⟨decide_eq_true hk, ttL_of fun d hd => ?_⟩
  obtain ⟨i, hi, rfl⟩ := rw_mem hd
  exact h i hi
theorem filterMap_some : ∀ l : List Da, l.filterMap some = l
  | [] => rfl
  | x :: r => by rw [List.filterMap_cons, filterMap_some r]
theorem outs_fz : ∀ (args : List Cell) (l : L), (∀ c, c ∈ args → isOw c = false) → outs args l = args
  | [], l, _ => by cases l <;> rfl
  | .un :: r, [], _ => rfl
  | .fz _ :: r, [], _ => rfl
  | .ow _ _ :: r, _, h => by have := h _ List.mem_cons_self; cases this
  | .un :: r, x :: l, h => by rw [outs, outs_fz r l fun c hc => h c (List.mem_cons_of_mem _ hc)]; intros; simp_all
  | .fz _ :: r, x :: l, h => by rw [outs, outs_fz r l fun c hc => h c (List.mem_cons_of_mem _ hc)]; intros; simp_all
def rtOf : Out → Option Ret
  | .rt v _ => some v
  | .nx _ => none
structure R.Dom (r : R) : Prop where
  q1 : 1 ≤ r.q
  qp : r.q ≤ r.p
  p1 : r.p ≤ 24
  m0 : 0 ≤ r.m
  m1 : r.m ≤ 1000
  s0 : 1 ≤ r.s
  s1 : r.s < 2 ^ 800
  up : r.s < nx r.p r.q r.m r.s
theorem R.Dom.ok {r : R} (d : r.Dom) : Ok r.p r.q := ⟨by have := d.q1; have := d.qp; omega, by have := d.p1; omega, by have := d.q1; omega, by have := d.qp; have := d.p1; omega⟩
theorem R.Dom.good {r : R} (d : r.Dom) : r.Good := ⟨d.ok, d.s0, d.up⟩
theorem pow_mono {a b : Nat} (h : a ≤ b) : (2 : Int) ^ a ≤ 2 ^ b := by
  obtain ⟨c, rfl⟩ : ∃ c, b = a + c := ⟨b - a, by omega⟩
  rw [Int.pow_add]
  have h1 : (0 : Int) < 2 ^ a := Int.pow_pos (by decide)
  have h2 : (0 : Int) < 2 ^ c := Int.pow_pos (by decide)
  have := Int.mul_le_mul_of_nonneg_left (show (1 : Int) ≤ 2 ^ c by omega) (Int.le_of_lt h1)
  omega
theorem R.Dom.big {r : R} (d : r.Dom) {i : Nat} (hi : i ≤ 100) : 1 ≤ r.sz i ∧ r.sz i < 2 ^ 1990 ∧ 0 ≤ r.pl i ∧ r.pl i < 2 ^ 1990 := by
  have h := R.lt_pow 800 d.good d.qp d.p1 d.m0 d.m1 d.s1 i
  have a := (d.good.inc d.qp i).1
  have b := R.pl_nn d.good d.qp i
  have c1 : (2 : Int) ^ (800 + 11 * i) ≤ 2 ^ 1990 := pow_mono (by omega)
  have c2 : (2 : Int) ^ (800 + 1 + 11 * i) ≤ 2 ^ 1990 := pow_mono (by omega)
  obtain ⟨w, hw⟩ : ∃ w : Int, w = 2 ^ 1990 := ⟨_, rfl⟩
  rw [← hw] at c1 c2 ⊢
  omega
theorem R.Dom.nd {r : R} (d : r.Dom) {i : Nat} (hi : i ≤ 99) : 1 ≤ r.nd i ∧ r.nd i < 2 ^ 1992 := by
  have a := d.big (i := i) (by omega)
  have b := d.big (i := i + 1) (by omega)
  have e : (2 : Int) ^ 1992 = 4 * 2 ^ 1990 := by decide
  obtain ⟨w, hw⟩ : ∃ w : Int, w = 2 ^ 1990 := ⟨_, rfl⟩
  rw [e]
  rw [← hw] at a b ⊢
  unfold R.nd mx
  split <;> omega
theorem int_big {z : Int} {k : Nat} (h0 : 0 ≤ z) (h : z < 2 ^ k) : z.natAbs < 2 ^ k := by
  have : ((2 ^ k : Nat) : Int) = 2 ^ k := Int.natCast_pow 2 k
  omega
theorem R.Dom.at {r : R} (d : r.Dom) {k : Nat} (h : r.sz k < 2 ^ 800) : (⟨r.p, r.q, r.m, r.sz k⟩ : R).Dom := by
  have := d.good.inc d.qp k
  exact ⟨d.q1, d.qp, d.p1, d.m0, d.m1, this.1, h, this.2⟩
theorem R.Dom.two {r : R} (d : r.Dom) (h : r.p ≤ 12) : (⟨2 * r.p, 2 * r.q, r.m, r.s⟩ : R).Dom := by
  have := d.q1
  have := d.qp
  exact ⟨show 1 ≤ 2 * r.q by omega, show 2 * r.q ≤ 2 * r.p by omega, show 2 * r.p ≤ 24 by omega, d.m0, d.m1, d.s0, d.s1, by rw [nx_twice _ _ _ _ (by omega)]; exact d.up⟩
theorem R.Dom.small {r : R} (d : r.Dom) (h : r.s < 2 ^ 100) {i : Nat} (hi : i ≤ 60) : r.sz i < 2 ^ 800 := by
  have h1 := (R.lt_pow 100 d.good d.qp d.p1 d.m0 d.m1 h i).1
  have c1 : (2 : Int) ^ (100 + 11 * i) ≤ 2 ^ 800 := pow_mono (by omega)
  exact Int.lt_of_lt_of_le h1 c1
theorem rt_of {x : Option Out} {v : Ret} (h : x.map rtOf = some (some v)) : ∃ l, x = some (.rt v l) := by
  cases x with
  | none => cases h
  | some o =>
    cases o with
    | nx l => cases h
    | rt w l =>
      cases h
      exact ⟨l, rfl⟩
end Mini

set_option linter.all false
set_option maxRecDepth 100000
/-! Lap: when a run comes back, in plain Lean. -/
namespace Mini
/-! ### sequences that grow by p / q -/
def wk (p q : Int) : Nat → Int
  | 0 => 0
  | k + 1 => q ^ (k + 2) + p * wk p q k
theorem sumN_shift (a : Nat → Int) : ∀ k, sumN a (k + 1) = a 0 + sumN (fun t => a (t + 1)) k
  | 0 => by simp [sumN]
  | k + 1 => by
    have := sumN_shift a k
    rw [sumN, this]
    show _ = a 0 + (sumN (fun t => a (t + 1)) k + a (k + 1))
    omega
theorem chain_le {p q : Int} (hp : 0 < p) (hq : 0 < q) {a : Nat → Int} (h : ∀ t, p * a t ≤ q * a (t + 1)) : ∀ k, p ^ k * a 0 ≤ q ^ k * a k
  | 0 => by simp
  | k + 1 => by
    have ih := chain_le hp hq h k
    have h1 : p * (p ^ k * a 0) ≤ p * (q ^ k * a k) := Int.mul_le_mul_of_nonneg_left ih (by omega)
    have h2 : q ^ k * (p * a k) ≤ q ^ k * (q * a (k + 1)) := Int.mul_le_mul_of_nonneg_left (h k) (Int.le_of_lt (Int.pow_pos hq))
    have e1 : p ^ (k + 1) * a 0 = p * (p ^ k * a 0) := by rw [Int.pow_succ, Int.mul_comm (p ^ k) p, Int.mul_assoc]
    have e2 : q ^ (k + 1) * a (k + 1) = q ^ k * (q * a (k + 1)) := by rw [Int.pow_succ, Int.mul_assoc]
    have e3 : p * (q ^ k * a k) = q ^ k * (p * a k) := Int.mul_left_comm _ _ _
    omega
theorem chain_ge {p q : Int} (hp : 0 < p) (hq : 0 < q) {a : Nat → Int} (h : ∀ t, q * a (t + 1) ≤ p * a t) : ∀ k, q ^ k * a k ≤ p ^ k * a 0
  | 0 => by simp
  | k + 1 => by
    have ih := chain_ge hp hq h k
    have h1 : p * (q ^ k * a k) ≤ p * (p ^ k * a 0) := Int.mul_le_mul_of_nonneg_left ih (by omega)
    have h2 : q ^ k * (q * a (k + 1)) ≤ q ^ k * (p * a k) := Int.mul_le_mul_of_nonneg_left (h k) (Int.le_of_lt (Int.pow_pos hq))
    have e1 : p ^ (k + 1) * a 0 = p * (p ^ k * a 0) := by rw [Int.pow_succ, Int.mul_comm (p ^ k) p, Int.mul_assoc]
    have e2 : q ^ (k + 1) * a (k + 1) = q ^ k * (q * a (k + 1)) := by rw [Int.pow_succ, Int.mul_assoc]
    have e3 : p * (q ^ k * a k) = q ^ k * (p * a k) := Int.mul_left_comm _ _ _
    omega
theorem sum_le {p q : Int} (hp : 0 < p) (hq : 0 < q) : ∀ (k : Nat) (a : Nat → Int), (∀ t, p * a t ≤ q * a (t + 1)) → p ^ (k + 1) * sumN a k ≤ wk p q k * a (k + 1)
  | 0, a, _ => by simp [sumN, wk]
  | k + 1, a, h => by
    have ih := sum_le hp hq k (fun t => a (t + 1)) (fun t => h (t + 1))
    have ch := chain_le hp hq h (k + 2)
    rw [sumN_shift, wk]
    obtain ⟨S, hS⟩ : ∃ S, S = sumN (fun t => a (t + 1)) k := ⟨_, rfl⟩
    rw [← hS] at ih ⊢
    have ih' : p ^ (k + 1) * S ≤ wk p q k * a (k + 2) := ih
    have h1 : p * (p ^ (k + 1) * S) ≤ p * (wk p q k * a (k + 2)) := Int.mul_le_mul_of_nonneg_left ih' (by omega)
    have e1 : p ^ (k + 2) * (a 0 + S) = p ^ (k + 2) * a 0 + p * (p ^ (k + 1) * S) := by rw [Int.mul_add, Int.pow_succ p (k + 1), Int.mul_comm (p ^ (k + 1)) p, Int.mul_assoc p, Int.mul_assoc p]
    have e2 : (q ^ (k + 2) + p * wk p q k) * a (k + 2) = q ^ (k + 2) * a (k + 2) + p * (wk p q k * a (k + 2)) := by rw [Int.add_mul, Int.mul_assoc]
    show p ^ (k + 2) * (a 0 + S) ≤ (q ^ (k + 2) + p * wk p q k) * a (k + 2)
    omega
theorem sum_ge {p q : Int} (hp : 0 < p) (hq : 0 < q) : ∀ (k : Nat) (a : Nat → Int), (∀ t, q * a (t + 1) ≤ p * a t) → wk p q k * a (k + 1) ≤ p ^ (k + 1) * sumN a k
  | 0, a, _ => by simp [sumN, wk]
  | k + 1, a, h => by
    have ih := sum_ge hp hq k (fun t => a (t + 1)) (fun t => h (t + 1))
    have ch := chain_ge hp hq h (k + 2)
    rw [sumN_shift, wk]
    obtain ⟨S, hS⟩ : ∃ S, S = sumN (fun t => a (t + 1)) k := ⟨_, rfl⟩
    rw [← hS] at ih ⊢
    have ih' : wk p q k * a (k + 2) ≤ p ^ (k + 1) * S := ih
    have h1 : p * (wk p q k * a (k + 2)) ≤ p * (p ^ (k + 1) * S) := Int.mul_le_mul_of_nonneg_left ih' (by omega)
    have e1 : p ^ (k + 2) * (a 0 + S) = p ^ (k + 2) * a 0 + p * (p ^ (k + 1) * S) := by rw [Int.mul_add, Int.pow_succ p (k + 1), Int.mul_comm (p ^ (k + 1)) p, Int.mul_assoc p, Int.mul_assoc p]
    have e2 : (q ^ (k + 2) + p * wk p q k) * a (k + 2) = q ^ (k + 2) * a (k + 2) + p * (wk p q k * a (k + 2)) := by rw [Int.add_mul, Int.mul_assoc]
    show (q ^ (k + 2) + p * wk p q k) * a (k + 2) ≤ p ^ (k + 2) * (a 0 + S)
    omega
/-- sooner than k it does not come back -/
theorem soon {p q : Int} (hp : 0 < p) (hq : 0 < q) {k : Nat} {a : Nat → Int} (h : ∀ t, p * a t ≤ q * a (t + 1)) (h0 : 0 < a (k + 1)) (hw : wk p q k < p ^ (k + 1)) : sumN a k < a (k + 1) := by
  have h1 := sum_le hp hq k a h
  have h2 : wk p q k * a (k + 1) < p ^ (k + 1) * a (k + 1) := Int.mul_lt_mul_of_pos_right hw h0
  exact Int.lt_of_mul_lt_mul_left (a := p ^ (k + 1)) (by omega) (Int.le_of_lt (Int.pow_pos hp))
theorem late {p q : Int} (hp : 0 < p) (hq : 0 < q) {k : Nat} {a : Nat → Int} (h : ∀ t, q * a (t + 1) ≤ p * a t) (h0 : 0 < a (k + 1)) (hw : p ^ (k + 1) ≤ wk p q k) : a (k + 1) ≤ sumN a k := by
  have h1 := sum_ge hp hq k a h
  have h2 : p ^ (k + 1) * a (k + 1) ≤ wk p q k * a (k + 1) := Int.mul_le_mul_of_nonneg_right hw (Int.le_of_lt h0)
  exact Int.le_of_mul_le_mul_left (a := p ^ (k + 1)) (by omega) (Int.pow_pos hp)
/-! ### sizes as such a sequence -/
theorem nx_lo {p q m s : Int} (hq : 0 < q) (hm : 1 ≤ m) : p * s + 1 ≤ q * nx p q m s := by
  unfold nx
  rw [Int.fdiv_eq_ediv_of_nonneg _ (by omega), Int.mul_add]
  have h1 := Int.mul_ediv_add_emod (p * s) q
  have h2 := Int.emod_lt_of_pos (p * s) hq
  have h3 : q * 1 ≤ q * m := Int.mul_le_mul_of_nonneg_left hm (by omega)
  omega
theorem nx_hi {p q m s : Int} (hq : 0 < q) : q * nx p q m s ≤ p * s + q * m := by
  unfold nx
  rw [Int.fdiv_eq_ediv_of_nonneg _ (by omega), Int.mul_add]
  have h1 := Int.mul_ediv_add_emod (p * s) q
  have h2 := Int.emod_nonneg (p * s) (show q ≠ 0 by omega)
  omega
def R.S (r : R) (k : Nat) : Int := sumN r.sz k
theorem R.Dom.pos {r : R} (d : r.Dom) : 0 < r.p ∧ 0 < r.q := ⟨d.ok.p0, d.ok.q0⟩
theorem R.Dom.sz0 {r : R} (d : r.Dom) (i : Nat) : 1 ≤ r.sz i := (d.good.inc d.qp i).1
theorem R.Dom.szlt {r : R} (d : r.Dom) (i : Nat) : r.sz i < r.sz (i + 1) := (d.good.inc d.qp i).2
theorem R.Dom.S_le {r : R} (d : r.Dom) (k : Nat) : r.S k < r.S (k + 1) := by
  have := d.sz0 k
  show r.S k < r.S k + r.sz k
  omega
theorem R.Dom.S1 {r : R} (d : r.Dom) : ∀ k, 1 ≤ r.S (k + 1)
  | 0 => by have := d.sz0 0; show 1 ≤ 0 + r.sz 0; omega
  | k + 1 => by have := R.Dom.S1 d k; have := d.S_le (k + 1); omega
theorem R.Dom.soon {r : R} (d : r.Dom) (hm : 1 ≤ r.m) {k : Nat} (hw : wk r.p r.q k < r.p ^ (k + 1)) : r.S k < r.sz (k + 1) :=
  Mini.soon d.pos.1 d.pos.2 (fun t => by have := nx_lo (p := r.p) (s := r.sz t) d.pos.2 hm; show r.p * r.sz t ≤ r.q * nx r.p r.q r.m (r.sz t); omega) (by have := d.sz0 (k + 1); omega) hw
theorem R.Dom.late {r : R} (d : r.Dom) (hm : r.m = 0) {k : Nat} (hw : r.p ^ (k + 1) ≤ wk r.p r.q k) : r.sz (k + 1) ≤ r.S k :=
  Mini.late d.pos.1 d.pos.2 (fun t => by have := nx_hi (p := r.p) (m := r.m) (s := r.sz t) d.pos.2; rw [hm, Int.mul_zero, Int.add_zero] at this; show r.q * nx r.p r.q r.m (r.sz t) ≤ r.p * r.sz t; rw [hm]; exact this) (by have := d.sz0 (k + 1); omega) hw
/-- with cells more, above the border: never back -/
theorem R.Dom.never {r : R} (d : r.Dom) (hm : 1 ≤ r.m) (hs : r.p * r.q + r.q * r.q < r.p * r.p) : ∀ k, r.S k < r.sz (k + 1)
  | 0 => by have := d.sz0 1; show (0 : Int) < r.sz 1; omega
  | k + 1 => by
    have ih := R.Dom.never d hm hs k
    have q0 := d.pos.2
    have p0 := d.pos.1
    obtain ⟨a, ha⟩ : ∃ a, a = r.sz k := ⟨_, rfl⟩
    obtain ⟨b, hb⟩ : ∃ b, b = r.sz (k + 1) := ⟨_, rfl⟩
    obtain ⟨c, hc⟩ : ∃ c, c = r.sz (k + 2) := ⟨_, rfl⟩
    have h1 : r.p * a + 1 ≤ r.q * b := by rw [ha, hb]; exact nx_lo q0 hm
    have h2 : r.p * b + 1 ≤ r.q * c := by rw [hb, hc]; exact nx_lo q0 hm
    have ha0 : 1 ≤ a := by rw [ha]; exact d.sz0 k
    have hqp := d.qp
    -- q (q c) >= q p b + q; q p b - q q b = (p - q) (q b) >= (p - q) (p a) >= q q a
    have s1 : r.q * (r.p * b + 1) ≤ r.q * (r.q * c) := Int.mul_le_mul_of_nonneg_left h2 (by omega)
    have s2 : (r.p - r.q) * (r.p * a + 1) ≤ (r.p - r.q) * (r.q * b) := Int.mul_le_mul_of_nonneg_left h1 (by omega)
    have s3 : (r.q * r.q) * a ≤ (r.p * r.p - r.p * r.q) * a := Int.mul_le_mul_of_nonneg_right (by omega) (by omega)
    have e1 : r.q * (r.p * b + 1) = r.q * (r.p * b) + r.q := by rw [Int.mul_add, Int.mul_one]
    have e2 : (r.p - r.q) * (r.p * a + 1) = r.p * (r.p * a) - r.q * (r.p * a) + (r.p - r.q) := by rw [Int.mul_add, Int.sub_mul, Int.mul_one]
    have e3 : (r.p - r.q) * (r.q * b) = r.p * (r.q * b) - r.q * (r.q * b) := Int.sub_mul _ _ _
    have e4 : (r.p * r.p - r.p * r.q) * a = r.p * (r.p * a) - r.p * (r.q * a) := by rw [Int.sub_mul, Int.mul_assoc, Int.mul_assoc]
    have e5 : r.q * (r.p * b) = r.p * (r.q * b) := Int.mul_left_comm _ _ _
    have e6 : r.q * (r.p * a) = r.p * (r.q * a) := Int.mul_left_comm _ _ _
    have e7 : (r.q * r.q) * a = r.q * (r.q * a) := Int.mul_assoc _ _ _
    have s4 : r.q * (r.q * (a + b)) < r.q * (r.q * c) := by
      have : r.q * (r.q * (a + b)) = r.q * (r.q * a) + r.q * (r.q * b) := by rw [Int.mul_add, Int.mul_add]
      omega
    have s5 : a + b < c := Int.lt_of_mul_lt_mul_left (Int.lt_of_mul_lt_mul_left s4 (by omega)) (by omega)
    show r.S k + r.sz k < r.sz (k + 2)
    omega
/-! ### the first back -/
structure R.FB (r : R) (k : Nat) : Prop where
  lt : ∀ i, i < k → r.S i < r.sz (i + 1)
  le : r.sz (k + 1) ≤ r.S k
theorem R.pl_S (r : R) {k : Nat} (h : ∀ i, i < k → r.S i < r.sz (i + 1)) : ∀ i, i ≤ k → r.pl i = r.S i
  | 0, _ => rfl
  | i + 1, hi => by
    have e := R.pl_S r h i (by omega)
    have := h i (by omega)
    rw [R.pl, e, if_neg (by omega)]
    rfl
theorem R.Dom.pl_ne {r : R} (d : r.Dom) {k : Nat} (h : ∀ i, i < k → r.S i < r.sz (i + 1)) {i : Nat} (h1 : 1 ≤ i) (h2 : i ≤ k) : r.pl i ≠ 0 := by
  rw [R.pl_S r h i h2]
  obtain ⟨j, rfl⟩ : ∃ j, i = j + 1 := ⟨i - 1, by omega⟩
  have := d.S1 j
  omega
theorem R.FB.back {r : R} {k : Nat} (f : r.FB k) : r.pl (k + 1) = 0 := by
  have e := R.pl_S r f.lt k (Nat.le_refl _)
  have := f.le
  rw [R.pl, e, if_pos this]
/-- a first back, where one comes at all -/
theorem R.fb_of {r : R} {K : Nat} (h : r.sz (K + 1) ≤ r.S K) : ∃ k, k ≤ K ∧ r.FB k := by
  obtain ⟨k, h1, h2, h3⟩ := least_nat (P := fun i => r.sz (i + 1) ≤ r.S i) (fun i => inferInstance) K h
  exact ⟨k, h1, fun i hi => by have := h3 i hi; omega, h2⟩
theorem R.fb_uniq {r : R} {k j : Nat} (a : r.FB k) (b : r.FB j) : k = j := by
  by_cases h : k < j
  · have := b.lt k h; have := a.le; omega
  · by_cases h2 : j < k
    · have := a.lt j h2; have := b.le; omega
    · omega
/-- pl from an earlier place on: no back up to there -/
theorem R.Dom.no_pl {r : R} (d : r.Dom) : ∀ k, (∀ i, 1 ≤ i → i ≤ k → r.pl i ≠ 0) → ∀ i, i < k → r.S i < r.sz (i + 1)
  | 0, _, i, hi => by omega
  | k + 1, h, i, hi => by
    have ih := R.Dom.no_pl d k (fun j h1 h2 => h j h1 (by omega))
    by_cases e : i = k
    · subst e
      have hp := R.pl_S r ih i (Nat.le_refl _)
      have := h (i + 1) (by omega) (Nat.le_refl _)
      rw [R.pl, hp] at this
      by_cases c : r.sz (i + 1) ≤ r.S i
      · rw [if_pos c] at this; exact absurd rfl this
      · omega
    · exact ih i (by omega)
/-! ### the steady lap -/
def stl (p q : Int) : Option Nat := if p * p ≤ p * q + q * q then (List.range 60).find? fun k => decide (2 ≤ k) && decide (p ^ (k + 1) ≤ wk p q k) else none
/-- there is one wherever the border is not passed; a first back comes by a told number of growths, with 1 to 10 cells more -/
def cK (p q : Int) (K : Nat) : Bool := decide (q ^ (K + 2) * (K : Int) * 10 ≤ (wk p q K - p ^ (K + 1)) * (p - q))
def stlOk (p q : Nat) : Bool := !decide ((p : Int) * p ≤ p * q + q * q) || ((stl p q).isSome && (decide (p = q) || (List.range 200).any fun K => cK p q K))
theorem stl_all : ∀ p q : Nat, p < 21 → q < 21 → 1 ≤ q → q ≤ p → stlOk p q = true := by
  have : ((List.range 21).all fun p => (List.range 21).all fun q => !decide (1 ≤ q) || !decide (q ≤ p) || stlOk p q) = true := by decide +kernel
  intro p q hp hq h1 h2
  rw [List.all_eq_true] at this
  have h3 := this p (List.mem_range.mpr hp)
  rw [List.all_eq_true] at h3
  have h4 := h3 q (List.mem_range.mpr hq)
  simp only [decide_eq_true h1, decide_eq_true h2, Bool.not_true, Bool.false_or] at h4
  exact h4
end Mini

set_option linter.all false
set_option maxRecDepth 100000
/-! Lap2: there is a back where the border is not passed; laps beside the steady one. -/
namespace Mini
theorem sumN_mul (c e : Int) (a : Nat → Int) : ∀ k : Nat, sumN (fun t => c * a t + e) k = c * sumN a k + k * e
  | 0 => by simp [sumN]
  | k + 1 => by
    have h1 : ((k + 1 : Nat) : Int) * e = k * e + e := by
      have : ((k + 1 : Nat) : Int) = (k : Int) + 1 := by omega
      rw [this, Int.add_mul, Int.one_mul]
    rw [sumN, sumN_mul c e a k, h1, sumN, Int.mul_add]
    omega
theorem comes {p q m : Int} (hq : 0 < q) (hp : q < p) (hm : 1 ≤ m) (hm1 : m ≤ 10) {K : Nat} (hK : cK p q K = true) {a : Nat → Int} (lo : ∀ t, p * a t ≤ q * a (t + 1)) (hi : ∀ t, q * a (t + 1) ≤ p * a t + q * m) (h0 : 1 ≤ a 0) (hpos : ∀ t, 1 ≤ a t) : a (K + 1) ≤ sumN a K := by
  apply Int.not_lt.mp
  intro hlt
  have hc := of_decide_eq_true hK
  obtain ⟨P, hP⟩ : ∃ P, P = p ^ (K + 1) := ⟨_, rfl⟩
  obtain ⟨W, hW⟩ : ∃ W, W = wk p q K := ⟨_, rfl⟩
  obtain ⟨A, hA⟩ : ∃ A, A = a (K + 1) := ⟨_, rfl⟩
  obtain ⟨S, hS⟩ : ∃ S, S = sumN a K := ⟨_, rfl⟩
  obtain ⟨Q1, hQ1⟩ : ∃ Q, Q = q ^ (K + 1) := ⟨_, rfl⟩
  have hP0 : 0 < P := by rw [hP]; exact Int.pow_pos (by omega)
  have hQ0 : 0 < Q1 := by rw [hQ1]; exact Int.pow_pos (by omega)
  have g := sum_ge (p := p) (q := q) (by omega) hq K (fun t => (p - q) * a t + q * m) (fun t => by
    have h1 : (p - q) * (q * a (t + 1)) ≤ (p - q) * (p * a t + q * m) := Int.mul_le_mul_of_nonneg_left (hi t) (by omega)
    have e1 : q * ((p - q) * a (t + 1) + q * m) = (p - q) * (q * a (t + 1)) + q * (q * m) := by rw [Int.mul_add, Int.mul_left_comm]
    have e2 : p * ((p - q) * a t + q * m) = (p - q) * (p * a t) + p * (q * m) := by rw [Int.mul_add, Int.mul_left_comm]
    have e3 : (p - q) * (p * a t + q * m) = (p - q) * (p * a t) + (p * (q * m) - q * (q * m)) := by rw [Int.mul_add, Int.sub_mul p q (q * m)]
    show q * ((p - q) * a (t + 1) + q * m) ≤ p * ((p - q) * a t + q * m)
    omega)
  rw [sumN_mul, ← hP, ← hW, ← hS] at g
  have g : W * ((p - q) * A + q * m) ≤ P * ((p - q) * S + K * (q * m)) := by rw [hA]; exact g
  have ch := chain_le (p := p) (q := q) (by omega) hq lo (K + 1)
  rw [← hP, ← hQ1, ← hA] at ch
  rw [← hA, ← hS] at hlt
  rw [← hP, ← hW] at hc
  have hA1 : 1 ≤ A := by rw [hA]; exact hpos _
  have hPA : P ≤ Q1 * A := by
    have : P * 1 ≤ P * a 0 := Int.mul_le_mul_of_nonneg_left h0 (by omega)
    omega
  have hqm : 0 ≤ q * m := Int.mul_nonneg (by omega) (by omega)
  have hKn : (0 : Int) ≤ K := by omega
  have hW0 : 0 ≤ W := by
    rw [hW]
    clear g hc hlt hPA ch
    have : ∀ k : Nat, 0 ≤ wk p q k := by
      intro k
      induction k with
      | zero => exact Int.le_refl 0
      | succ k ih =>
        have : 0 ≤ p * wk p q k := Int.mul_nonneg (by omega) ih
        have : 0 < q ^ (k + 2) := Int.pow_pos (by omega)
        show 0 ≤ q ^ (k + 2) + p * wk p q k
        omega
    exact this K
  -- W (p - q) A <= P (p - q) S + P K q m, S <= A - 1
  have f1 : W * ((p - q) * A + q * m) = W * ((p - q) * A) + W * (q * m) := Int.mul_add _ _ _
  have f2 : P * ((p - q) * S + K * (q * m)) = P * ((p - q) * S) + P * (K * (q * m)) := Int.mul_add _ _ _
  have f3 : 0 ≤ W * (q * m) := Int.mul_nonneg hW0 hqm
  have f4 : (p - q) * S < (p - q) * A := Int.mul_lt_mul_of_pos_left hlt (by omega)
  have f5 : P * ((p - q) * S) < P * ((p - q) * A) := Int.mul_lt_mul_of_pos_left f4 hP0
  have f6 : (W - P) * ((p - q) * A) = W * ((p - q) * A) - P * ((p - q) * A) := Int.sub_mul _ _ _
  have f7 : (W - P) * ((p - q) * A) < P * (K * (q * m)) := by omega
  have f8 : P * (K * (q * m)) ≤ Q1 * A * (K * (q * m)) := Int.mul_le_mul_of_nonneg_right hPA (Int.mul_nonneg hKn hqm)
  have f9 : q * m ≤ q * 10 := Int.mul_le_mul_of_nonneg_left hm1 (by omega)
  have f10 : Q1 * A * (K * (q * m)) ≤ Q1 * A * (K * (q * 10)) := Int.mul_le_mul_of_nonneg_left (Int.mul_le_mul_of_nonneg_left f9 hKn) (Int.mul_nonneg (by omega) (by omega))
  have eq2 : q ^ (K + 2) = Q1 * q := by rw [hQ1, ← Int.pow_succ]
  rw [eq2] at hc
  have f11 : Q1 * q * K * 10 * A ≤ (W - P) * (p - q) * A := Int.mul_le_mul_of_nonneg_right hc (by omega)
  have f12 : Q1 * A * (K * (q * 10)) = Q1 * q * K * 10 * A := by
    rw [Int.mul_assoc, Int.mul_assoc, Int.mul_assoc, Int.mul_assoc]
    congr 1
    rw [Int.mul_left_comm q, Int.mul_left_comm A, Int.mul_comm A, Int.mul_left_comm K, Int.mul_assoc, Int.mul_left_comm K, Int.mul_left_comm (10 : Int)]
  have f13 : (W - P) * ((p - q) * A) = (W - P) * (p - q) * A := (Int.mul_assoc _ _ _).symm
  omega
theorem same_sz' {r : R} (d : r.Dom) (h : r.p = r.q) : ∀ i, r.sz i = r.s + r.m * (i : Nat)
  | 0 => by simp [R.sz]
  | i + 1 => by
    show nx r.p r.q r.m (r.sz i) = _
    rw [same_sz' d h i, h]
    unfold nx
    have := d.q1
    rw [Int.mul_fdiv_cancel_left _ (by omega), Int.natCast_add, Int.mul_add]
    omega
theorem R.Dom.m_pos {r : R} (d : r.Dom) (h : r.p = r.q) : 1 ≤ r.m := by
  have hu := d.up
  have := d.q1
  rw [h] at hu
  unfold nx at hu
  rw [Int.mul_fdiv_cancel_left _ (by omega)] at hu
  omega
/-- what is known of stl -/
theorem stl_none {p q : Int} (h : p * q + q * q < p * p) : stl p q = none := by
  unfold stl
  rw [if_neg (by omega)]
theorem stl_some {p q : Int} (h0 : 1 ≤ q) (h1 : q ≤ p) (h2 : p ≤ 20) (h : p * p ≤ p * q + q * q) : ∃ d : Nat, stl p q = some d ∧ 2 ≤ d ∧ d < 60 ∧ p ^ (d + 1) ≤ wk p q d ∧ ∀ j, 2 ≤ j → j < d → wk p q j < p ^ (j + 1) := by
  have ha := stl_all p.toNat q.toNat (by omega) (by omega) (by omega) (by omega)
  have ep : ((p.toNat : Nat) : Int) = p := by omega
  have eq : ((q.toNat : Nat) : Int) = q := by omega
  unfold stlOk at ha
  rw [ep, eq] at ha
  simp only [decide_eq_true h, Bool.not_true, Bool.false_or, Bool.and_eq_true] at ha
  obtain ⟨d, hd⟩ := Option.isSome_iff_exists.mp ha.1
  refine ⟨d, hd, ?_⟩
  unfold stl at hd
  rw [if_pos h] at hd
  rw [List.find?_range_eq_some] at hd
  obtain ⟨h3, h4, h5⟩ := hd
  rw [Bool.and_eq_true] at h3
  refine ⟨of_decide_eq_true h3.1, by simpa using h4, of_decide_eq_true h3.2, fun j hj1 hj2 => ?_⟩
  have h6 := h5 j hj2
  rw [decide_eq_true hj1, Bool.true_and] at h6
  have : ¬ p ^ (j + 1) ≤ wk p q j := by
    intro hh
    rw [decide_eq_true hh] at h6
    exact absurd h6 (by decide)
  omega
theorem cK_some {p q : Int} (h0 : 1 ≤ q) (h1 : q < p) (h2 : p ≤ 20) (h : p * p ≤ p * q + q * q) : ∃ K : Nat, K < 200 ∧ cK p q K = true := by
  have ha := stl_all p.toNat q.toNat (by omega) (by omega) (by omega) (by omega)
  have ep : ((p.toNat : Nat) : Int) = p := by omega
  have eq : ((q.toNat : Nat) : Int) = q := by omega
  unfold stlOk at ha
  rw [ep, eq] at ha
  have hne : p.toNat ≠ q.toNat := by omega
  simp only [decide_eq_true h, Bool.not_true, Bool.false_or, Bool.and_eq_true, decide_eq_false hne] at ha
  obtain ⟨K, hK, hc⟩ := List.any_eq_true.mp ha.2
  exact ⟨K, List.mem_range.mp hK, hc⟩
theorem R.Dom.back {r : R} (d : r.Dom) (hp : r.p ≤ 20) (hm : r.m ≤ 10) (h : r.p * r.p ≤ r.p * r.q + r.q * r.q) : ∃ K : Nat, K < 200 ∧ r.FB K := by
  by_cases h0 : r.m = 0
  · obtain ⟨k, _, _, hk, hw, _⟩ := stl_some d.q1 d.qp hp h
    obtain ⟨j, h1, h2⟩ := R.fb_of (d.late h0 hw)
    exact ⟨j, by omega, h2⟩
  · have h1 : 1 ≤ r.m := by have := d.m0; omega
    by_cases e : r.p = r.q
    · have : r.sz 5 ≤ r.S 4 := by
        have q0 := same_sz' d e 0
        have q1 := same_sz' d e 1
        have q2 := same_sz' d e 2
        have q3 := same_sz' d e 3
        have q5 := same_sz' d e 5
        have := d.s0
        show r.sz 5 ≤ 0 + r.sz 0 + r.sz 1 + r.sz 2 + r.sz 3
        simp at q0 q1 q2 q3 q5
        omega
      obtain ⟨j, h1, h2⟩ := R.fb_of this
      exact ⟨j, by omega, h2⟩
    · have hlt : r.q < r.p := by have := d.qp; omega
      obtain ⟨K, hK, hc⟩ := cK_some d.q1 hlt hp h
      have := comes (a := r.sz) d.pos.2 hlt h1 hm hc (fun t => by have := nx_lo (p := r.p) (s := r.sz t) d.pos.2 h1; show r.p * r.sz t ≤ r.q * nx r.p r.q r.m (r.sz t); omega) (fun t => nx_hi d.pos.2) (d.sz0 0) d.sz0
      obtain ⟨j, h1, h2⟩ := R.fb_of this
      exact ⟨j, by omega, h2⟩
/-- never later than the steady lap without cells more -/
theorem R.Dom.not_later {r : R} (d : r.Dom) (hm : r.m = 0) {k e : Nat} (f : r.FB k) (hw : r.p ^ (e + 1) ≤ wk r.p r.q e) : k ≤ e := by
  have h := d.late hm hw
  apply Nat.not_lt.mp
  intro hlt
  have := f.lt e hlt
  omega
/-- with cells more never sooner -/
theorem R.Dom.not_sooner {r : R} (d : r.Dom) (hm : 1 ≤ r.m) {k e : Nat} (f : r.FB k) (hw : ∀ j, 2 ≤ j → j < e → wk r.p r.q j < r.p ^ (j + 1)) : 2 ≤ e → e ≤ k := by
  intro he
  apply Nat.not_lt.mp
  intro hlt
  have hle := f.le
  match k, hlt, hle with
  | 0, _, hle => have := d.sz0 1; have : r.sz 1 ≤ 0 := hle; omega
  | 1, _, hle =>
    have h1 : r.sz 0 < r.sz 1 := d.szlt 0
    have h2 : r.sz 1 < r.sz 2 := d.szlt 1
    have : r.sz 2 ≤ 0 + r.sz 0 := hle
    omega
  | k + 2, hlt, hle =>
    have := d.soon hm (hw (k + 2) (by omega) hlt)
    omega
end Mini

set_option maxRecDepth 100000
namespace K97
open Mini
/-- _law_cells (0): _law_script, _law_peak_so, _law_cells_here, _law_k, _law_great_so, _law_at_so -/
def d_law_cells : Def := ⟨2, 4, (.cons (.own 2 (.orr (.lis (.fr (.sl (.var 0) .no (.so (.var 1))))) (.dis (.e (.lit (.int 0)) .nil)))) (.cons (.for_ (.t2 (.nm 3) (.nm 4)) (.en (.fr (.sl (.var 0) (.so (.var 1)) (.so (.lit (.int 63)))))) (.cons (.asg (.nm 5) (.bin .mod (.bi .int (.e (.var 3) .nil)) (.var 1))) (.cons (.set 2 (.var 5) (.bin .add (.oix 2 (.var 5)) (.bin .mul (.var 4) (.bin .add (.var 3) (.lit (.int 2)))))) (.nil)))) (.cons (.retO (.mv 2)) (.nil))))⟩
/-- sizes_read (1): reading, rows, place, later -/
def d_sizes_read : Def := ⟨1, 3, (.cons (.asg (.nm 1) (.fr (.dis (.e (.lit (.int 0)) (.st (.var 0) .nil))))) (.cons (.ret (.bi .tuple (.e (.fr (.lc (.ife (.cmp .eq (.var 3) (.lit (.int 0))) (.lit (.non)) (.bin .sub (.var 3) (.var 2))) (.t2 (.nm 2) (.nm 3)) [2, 3] (.zp (.var 1) (.fr (.sl (.var 1) (.so (.lit (.int 1))) .no))) .no)) .nil))) (.nil)))⟩
/-- is_number (2): thing -/
def d_is_number : Def := ⟨1, 0, (.cons (.ret (.and (.isi (.var 0) [.int]) (.not (.isi (.var 0) [.bool])))) (.nil))⟩
/-- next_size (3): rule, size, top, bottom, more -/
def d_next_size : Def := ⟨2, 3, (.cons (.asg (.t3 (.nm 2) (.nm 3) (.nm 4)) (.var 0)) (.cons (.ret (.bin .add (.bin .fdiv (.bin .mul (.var 2) (.var 1)) (.var 3)) (.var 4))) (.nil)))⟩
/-- is_start (4): rule, thing -/
def d_is_start : Def := ⟨2, 0, (.cons (.ret (.and (.call 2 (.e (.var 1) .nil)) (.and (.cmp .ge (.var 1) (.lit (.int 1))) (.cmp .gt (.call 3 (.e (.var 0) (.e (.var 1) .nil))) (.var 1))))) (.nil))⟩
/-- check_start (5): rule, start -/
def d_check_start : Def := ⟨2, 0, (.cons (.ife (.not (.call 4 (.e (.var 0) (.e (.var 1) .nil)))) (.cons (.never) (.nil)) (.nil)) (.nil))⟩
/-- blocks_along (6): rule, start, many, found, number, place, size, later -/
def d_blocks_along : Def := ⟨3, 5, (.cons (.exp (.call 5 (.e (.var 0) (.e (.var 1) .nil)))) (.cons (.own 3 (.dis (.e (.tup (.e (.lit (.int 0)) (.e (.var 1) .nil))) .nil))) (.cons (.for_ (.nm 4) (.r1 (.var 2)) (.cons (.asg (.t2 (.nm 5) (.nm 6)) (.oix 3 (.neg (.lit (.int 1))))) (.cons (.asg (.nm 7) (.call 3 (.e (.var 0) (.e (.var 6) .nil)))) (.cons (.app 3 (.tup (.e (.ife (.cmp .le (.var 7) (.var 5)) (.lit (.int 0)) (.bin .add (.var 5) (.var 6))) (.e (.var 7) .nil)))) (.nil))))) (.cons (.retO (.mv 3)) (.nil)))))⟩
/-- backs_read (7): rule, start, number, place, size -/
def d_backs_read : Def := ⟨3, 2, (.cons (.ret (.bi .tuple (.e (.fr (.lc (.cmp .eq (.var 3) (.lit (.int 0))) (.t2 (.nm 3) (.nm 4)) [3, 4] (.it (.fr (.sl (.call 6 (.e (.var 0) (.e (.var 1) (.e (.var 2) .nil)))) (.so (.lit (.int 1))) .no))) .no)) .nil))) (.nil))⟩
/-- tupled (8): thing, part -/
def d_tupled : Def := ⟨1, 1, (.cons (.ret (.ife (.isi (.var 0) [.list, .tuple]) (.bi .tuple (.e (.fr (.lc (.call 8 (.e (.var 1) .nil)) (.nm 1) [1] (.it (.var 0)) .no)) .nil)) (.var 0))) (.nil))⟩
/-- blocks_of (9): rule, start, many, found, number, place, size, later -/
def d_blocks_of : Def := ⟨3, 5, (.cons (.exp (.call 5 (.e (.var 0) (.e (.var 1) .nil)))) (.cons (.own 3 (.dis (.e (.tup (.e (.lit (.int 0)) (.e (.var 1) .nil))) .nil))) (.cons (.for_ (.nm 4) (.r1 (.var 2)) (.cons (.asg (.t2 (.nm 5) (.nm 6)) (.oix 3 (.neg (.lit (.int 1))))) (.cons (.asg (.nm 7) (.call 3 (.e (.var 0) (.e (.var 6) .nil)))) (.cons (.app 3 (.tup (.e (.ife (.cmp .le (.var 7) (.var 5)) (.lit (.int 0)) (.bin .add (.var 5) (.var 6))) (.e (.var 7) .nil)))) (.nil))))) (.cons (.ret (.otup 3)) (.nil)))))⟩
/-- places (10): rule, start, many, place, size -/
def d_places : Def := ⟨3, 2, (.cons (.ret (.bi .tuple (.e (.fr (.lc (.var 3) (.t2 (.nm 3) (.nm 4)) [3, 4] (.it (.call 9 (.e (.var 0) (.e (.var 1) (.e (.var 2) .nil))))) .no)) .nil))) (.nil))⟩
/-- backs (11): rule, start, many, number, place -/
def d_backs : Def := ⟨3, 2, (.cons (.ret (.bi .tuple (.e (.fr (.lc (.var 3) (.t2 (.nm 3) (.nm 4)) [3, 4] (.en (.call 10 (.e (.var 0) (.e (.var 1) (.e (.var 2) .nil))))) (.so (.and (.cmp .gt (.var 3) (.lit (.int 0))) (.cmp .eq (.var 4) (.lit (.int 0))))))) .nil))) (.nil))⟩
/-- starts_read (12): rule, backs, most, own, some, start -/
def d_starts_read : Def := ⟨3, 3, (.cons (.asg (.t2 (.nm 3) (.nm 4)) (.tup (.e (.call 8 (.e (.var 1) .nil)) (.e (.fr (.lc (.var 5) (.nm 5) [5] (.r2 (.lit (.int 1)) (.bin .add (.var 2) (.lit (.int 1)))) (.so (.call 4 (.e (.var 0) (.e (.var 5) .nil)))))) .nil)))) (.cons (.ret (.bi .tuple (.e (.fr (.lc (.var 5) (.nm 5) [5] (.it (.var 4)) (.so (.cmp .eq (.call 7 (.e (.var 0) (.e (.var 5) (.e (.bi .len (.e (.var 3) .nil)) .nil)))) (.var 3))))) .nil))) (.nil)))⟩
/-- first_back (13): rule, start, top, bottom, more, spare, size, place, found, later -/
def d_first_back : Def := ⟨2, 8, (.cons (.asg (.t3 (.nm 2) (.nm 3) (.nm 4)) (.var 0)) (.cons (.asg (.nm 5) (.bin .sub (.bin .sub (.bin .mul (.var 2) (.var 2)) (.bin .mul (.var 2) (.var 3))) (.bin .mul (.var 3) (.var 3)))) (.cons (.par3 6 7 8 (.var 1) (.lit (.int 0)) (.lit (.int 0))) (.cons (.asg (.nm 9) (.call 3 (.e (.var 0) (.e (.var 6) .nil)))) (.cons (.whl (.cmp .gt (.var 9) (.var 7)) (.cons (.ife (.and (.cmp .gt (.var 5) (.lit (.int 0))) (.or (.cmp .gt (.var 4) (.lit (.int 0))) (.cmp .ge (.bin .mul (.var 6) (.var 5)) (.bin .mul (.var 2) (.bin .sub (.var 3) (.lit (.int 1))))))) (.cons (.ret (.lit (.non))) (.nil)) (.nil)) (.cons (.par3 6 7 8 (.var 9) (.bin .add (.var 7) (.var 6)) (.bin .add (.var 8) (.lit (.int 1)))) (.cons (.asg (.nm 9) (.call 3 (.e (.var 0) (.e (.var 6) .nil)))) (.nil))))) (.cons (.ret (.tup (.e (.var 8) (.e (.var 9) .nil)))) (.nil)))))))⟩
/-- lap (14): rule, start, told -/
def d_lap : Def := ⟨2, 1, (.cons (.exp (.call 5 (.e (.var 0) (.e (.var 1) .nil)))) (.cons (.asg (.nm 2) (.call 13 (.e (.var 0) (.e (.var 1) .nil)))) (.cons (.ret (.ife (.cmp .isN (.var 2) (.lit (.non))) (.lit (.non)) (.ix (.var 2) (.lit (.int 0))))) (.nil))))⟩
/-- sizes (15): rule, start, many, found, number -/
def d_sizes : Def := ⟨3, 2, (.cons (.exp (.call 5 (.e (.var 0) (.e (.var 1) .nil)))) (.cons (.own 3 (.dis (.e (.var 1) .nil))) (.cons (.for_ (.nm 4) (.r1 (.var 2)) (.cons (.app 3 (.call 3 (.e (.var 0) (.e (.oix 3 (.neg (.lit (.int 1)))) .nil)))) (.nil))) (.cons (.ret (.otup 3)) (.nil)))))⟩
/-- comes_back (16): rule, top, bottom, more -/
def d_comes_back : Def := ⟨1, 3, (.cons (.asg (.t3 (.nm 1) (.nm 2) (.nm 3)) (.var 0)) (.cons (.ret (.cmp .le (.bin .mul (.var 1) (.var 1)) (.bin .add (.bin .mul (.var 1) (.var 2)) (.bin .mul (.var 2) (.var 2))))) (.nil)))⟩
/-- steady_lap (17): rule, top, bottom, more, found, high, low -/
def d_steady_lap : Def := ⟨1, 6, (.cons (.ife (.not (.call 16 (.e (.var 0) .nil))) (.cons (.ret (.lit (.non))) (.nil)) (.nil)) (.cons (.asg (.t3 (.nm 1) (.nm 2) (.nm 3)) (.var 0)) (.cons (.par3 4 5 6 (.lit (.int 1)) (.bin .sub (.bin .mul (.var 2) (.var 2)) (.bin .mul (.var 1) (.var 1))) (.bin .mul (.var 2) (.var 2))) (.cons (.whl (.or (.cmp .lt (.var 4) (.cst [76, 69, 65, 83, 84, 95, 76, 65, 80] (.int 2))) (.cmp .lt (.var 5) (.lit (.int 0)))) (.cons (.par3 4 5 6 (.bin .add (.var 4) (.lit (.int 1))) (.bin .add (.bin .mul (.var 6) (.var 2)) (.bin .mul (.var 1) (.var 5))) (.bin .mul (.var 6) (.var 2))) (.nil))) (.cons (.ret (.var 4)) (.nil))))))⟩
/-- is_barred (18): rule, backs, lap, more, here, back -/
def d_is_barred : Def := ⟨2, 4, (.cons (.par3 2 3 4 (.call 17 (.e (.var 0) .nil)) (.ix (.var 0) (.lit (.int 2))) (.lit (.int 0))) (.cons (.for_ (.nm 5) (.it (.var 1)) (.cons (.ife (.and (.var 5) (.and (.cmp .gt (.var 3) (.lit (.int 0))) (.or (.cmp .isN (.var 2) (.lit (.non))) (.cmp .lt (.var 4) (.var 2))))) (.cons (.ret (.lit (.bl true))) (.nil)) (.nil)) (.cons (.asg (.nm 4) (.ife (.var 5) (.lit (.int 0)) (.bin .add (.var 4) (.lit (.int 1))))) (.cons (.ife (.and (.cmp .eq (.var 3) (.lit (.int 0))) (.and (.cmp .notN (.var 2) (.lit (.non))) (.cmp .gt (.var 4) (.var 2)))) (.cons (.ret (.lit (.bl true))) (.nil)) (.nil)) (.nil))))) (.cons (.ret (.lit (.bl false))) (.nil))))⟩
/-- _law_steady_right (19): _law_kin_here, _law_when, _law_most_so -/
def d_law_steady_right : Def := ⟨2, 1, (.cons (.asg (.nm 2) (.call 17 (.e (.var 0) .nil))) (.cons (.ife (.cmp .isN (.var 2) (.lit (.non))) (.cons (.ret (.or (.cmp .eq (.ix (.var 0) (.lit (.int 2))) (.lit (.int 0))) (.cmp .isN (.var 1) (.lit (.non))))) (.nil)) (.nil)) (.cons (.ife (.cmp .eq (.ix (.var 0) (.lit (.int 2))) (.lit (.int 0))) (.cons (.ret (.and (.call 18 (.e (.var 0) (.e (.bin .mul (.tup (.e (.lit (.bl false)) .nil)) (.bin .add (.var 2) (.lit (.int 1)))) .nil))) (.and (.cmp .notN (.var 1) (.lit (.non))) (.cmp .le (.var 1) (.var 2))))) (.nil)) (.nil)) (.cons (.ret (.and (.call 18 (.e (.var 0) (.e (.bin .add (.bin .mul (.tup (.e (.lit (.bl false)) .nil)) (.bin .sub (.var 2) (.lit (.int 1)))) (.tup (.e (.lit (.bl true)) .nil))) .nil))) (.or (.cmp .isN (.var 1) (.lit (.non))) (.cmp .ge (.var 1) (.var 2))))) (.nil)))))⟩
/-- is_read_by (20): rule, reading, own, place, size -/
def d_is_read_by : Def := ⟨2, 3, (.cons (.asg (.nm 2) (.call 8 (.e (.var 1) .nil))) (.cons (.ife (.cmp .eq (.bi .len (.e (.var 2) .nil)) (.lit (.int 0))) (.cons (.ret (.lit (.bl true))) (.nil)) (.nil)) (.cons (.ife (.not (.call 4 (.e (.var 0) (.e (.ix (.var 2) (.lit (.int 0))) .nil)))) (.cons (.ret (.lit (.bl false))) (.nil)) (.nil)) (.cons (.ret (.cmp .eq (.bi .tuple (.e (.fr (.lc (.var 3) (.t2 (.nm 3) (.nm 4)) [3, 4] (.it (.fr (.sl (.call 6 (.e (.var 0) (.e (.ix (.var 2) (.lit (.int 0))) (.e (.bi .len (.e (.var 2) .nil)) .nil)))) (.so (.lit (.int 1))) .no))) .no)) .nil)) (.var 2))) (.nil)))))⟩
/-- fraction (21): top, bottom, common, rest -/
def d_fraction : Def := ⟨2, 2, (.cons (.par2 2 3 (.bi .abs (.e (.var 0) .nil)) (.var 1)) (.cons (.whl (.cmp .ne (.var 3) (.lit (.int 0))) (.cons (.par2 2 3 (.var 3) (.bin .mod (.var 2) (.var 3))) (.nil))) (.cons (.ret (.tup (.e (.bin .fdiv (.var 0) (.var 2)) (.e (.bin .fdiv (.var 1) (.var 2)) .nil)))) (.nil))))⟩
/-- rules_fitting (22): reading, most, extra, found, top, bottom, more, own -/
def d_rules_fitting : Def := ⟨3, 5, (.cons (.own 3 (.dis .nil)) (.cons (.for_ (.nm 4) (.r2 (.lit (.int 1)) (.bin .add (.var 1) (.lit (.int 1)))) (.cons (.for_ (.nm 5) (.it (.fr (.lc (.var 7) (.nm 7) [7] (.r2 (.lit (.int 1)) (.bin .add (.var 4) (.lit (.int 1)))) (.so (.cmp .eq (.call 21 (.e (.var 4) (.e (.var 7) .nil))) (.tup (.e (.var 4) (.e (.var 7) .nil)))))))) (.cons (.for_ (.nm 6) (.r2 (.bi .int (.e (.cmp .eq (.var 4) (.var 5)) .nil)) (.bin .add (.var 2) (.lit (.int 1)))) (.cons (.ife (.call 20 (.e (.tup (.e (.var 4) (.e (.var 5) (.e (.var 6) .nil)))) (.e (.var 0) .nil))) (.cons (.app 3 (.tup (.e (.var 4) (.e (.var 5) (.e (.var 6) .nil))))) (.nil)) (.nil)) (.nil))) (.nil))) (.nil))) (.cons (.ret (.otup 3)) (.nil))))⟩
/-- growths_to_part (23): one, other, start, near, far, place, back -/
def d_growths_to_part : Def := ⟨3, 4, (.cons (.exp (.call 5 (.e (.var 0) (.e (.var 2) .nil)))) (.cons (.exp (.call 5 (.e (.var 1) (.e (.var 2) .nil)))) (.cons (.asg (.t2 (.nm 3) (.nm 4)) (.tup (.e (.call 7 (.e (.var 0) (.e (.var 2) (.e (.cst [77, 79, 83, 84] (.int 60)) .nil)))) (.e (.call 7 (.e (.var 1) (.e (.var 2) (.e (.cst [77, 79, 83, 84] (.int 60)) .nil)))) .nil)))) (.cons (.ret (.mind (.fr (.lc (.bin .add (.var 5) (.lit (.int 1))) (.t2 (.nm 5) (.nm 6)) [5, 6] (.en (.var 3)) (.so (.cmp .ne (.var 6) (.ix (.var 4) (.var 5)))))))) (.nil)))))⟩
/-- set_of (24): things -/
def d_set_of : Def := ⟨1, 0, (.cons (.ret (.bi .tuple (.e (.fr (.sst (.var 0))) .nil))) (.nil))⟩
/-- next_read (25): reading, most, extra, rules, rule -/
def d_next_read : Def := ⟨3, 2, (.cons (.asg (.nm 3) (.call 22 (.e (.var 0) (.e (.var 1) (.e (.var 2) .nil))))) (.cons (.ret (.call 24 (.e (.fr (.lc (.ix (.ix (.call 6 (.e (.var 4) (.e (.ix (.var 0) (.lit (.int 0))) (.e (.bin .add (.bi .len (.e (.var 0) .nil)) (.lit (.int 1))) .nil)))) (.neg (.lit (.int 1)))) (.lit (.int 0))) (.nm 4) [4] (.it (.var 3)) .no)) .nil))) (.nil)))⟩
/-- _law_fit_right (26): _law_kin_here, _law_line_so, _law_spot, _law_fit, _law_own, _law_part_so, _law_near, _law_far -/
def d_law_fit_right : Def := ⟨3, 5, (.cons (.asg (.nm 3) (.call 22 (.e (.var 1) (.e (.lit (.int 4)) (.e (.lit (.int 3)) .nil))))) (.cons (.for_ (.nm 4) (.it (.var 3)) (.cons (.ife (.or (.not (.call 20 (.e (.var 4) (.e (.var 1) .nil)))) (.cmp .notN (.call 23 (.e (.var 4) (.e (.var 4) (.e (.ix (.var 1) (.lit (.int 0))) .nil)))) (.lit (.non)))) (.cons (.ret (.lit (.bl false))) (.nil)) (.nil)) (.nil))) (.cons (.ife (.and (.cmp .inn (.var 0) (.var 3)) (.cmp .nin (.var 2) (.call 25 (.e (.var 1) (.e (.lit (.int 4)) (.e (.lit (.int 3)) .nil)))))) (.cons (.ret (.lit (.bl false))) (.nil)) (.nil)) (.cons (.for_ (.nm 4) (.it (.sl (.var 3) .no (.so (.lit (.int 3))))) (.cons (.asg (.nm 5) (.call 23 (.e (.var 0) (.e (.var 4) (.e (.ix (.var 1) (.lit (.int 0))) .nil))))) (.cons (.ife (.cmp .notN (.var 5) (.lit (.non))) (.cons (.par2 6 7 (.call 7 (.e (.var 0) (.e (.ix (.var 1) (.lit (.int 0))) (.e (.var 5) .nil)))) (.call 7 (.e (.var 4) (.e (.ix (.var 1) (.lit (.int 0))) (.e (.var 5) .nil))))) (.cons (.ife (.or (.cmp .eq (.ix (.var 6) (.neg (.lit (.int 1)))) (.ix (.var 7) (.neg (.lit (.int 1))))) (.or (.cmp .ne (.sl (.var 6) .no (.so (.neg (.lit (.int 1))))) (.sl (.var 7) .no (.so (.neg (.lit (.int 1)))))) (.cmp .lt (.var 5) (.lit (.int 6))))) (.cons (.ret (.lit (.bl false))) (.nil)) (.nil)) (.nil))) (.nil)) (.nil)))) (.cons (.ret (.lit (.bl true))) (.nil))))))⟩
/-- _law_case_right (27): _law_kin_here, _law_first_here, _law_far, _law_line_so, _law_much, _law_told, _law_odd, _law_signs_so, _law_home, _law_some, _law_when, _law_k, _law_own -/
def d_law_case_right : Def := ⟨3, 10, (.cons (.asg (.t2 (.nm 3) (.nm 4)) (.tup (.e (.sl (.call 10 (.e (.var 0) (.e (.var 1) (.e (.lit (.int 12)) .nil)))) (.so (.lit (.int 1))) .no) (.e (.call 15 (.e (.var 0) (.e (.var 1) (.e (.lit (.int 12)) .nil)))) .nil)))) (.cons (.asg (.nm 5) (.call 1 (.e (.var 3) .nil))) (.cons (.own 6 (.lc (.var 11) (.nm 11) [11] (.r1 (.lit (.int 12))) (.so (.and (.cmp .notN (.ix (.var 5) (.var 11)) (.lit (.non))) (.cmp .ne (.ix (.var 5) (.var 11)) (.ix (.var 4) (.var 11))))))) (.cons (.frz 6) (.cons (.ife (.or (.not (.call 20 (.e (.var 0) (.e (.var 3) .nil)))) (.cmp .ne (.var 6) (.fr (.dis .nil)))) (.cons (.ret (.lit (.bl false))) (.nil)) (.nil)) (.cons (.ife (.cmp .ne (.fr (.lc (.bin .add (.var 11) (.lit (.int 1))) (.nm 11) [11] (.r1 (.lit (.int 12))) (.so (.cmp .isN (.ix (.var 5) (.var 11)) (.lit (.non)))))) (.fr (.lis (.call 11 (.e (.var 0) (.e (.var 1) (.e (.lit (.int 12)) .nil))))))) (.cons (.ret (.lit (.bl false))) (.nil)) (.nil)) (.cons (.asg (.nm 7) (.call 7 (.e (.var 0) (.e (.var 1) (.e (.lit (.int 12)) .nil))))) (.cons (.own 8 (.lc (.bin .add (.var 11) (.lit (.int 1))) (.nm 11) [11] (.r1 (.lit (.int 12))) (.so (.ix (.var 7) (.var 11))))) (.cons (.frz 8) (.cons (.ife (.or (.cmp .ne (.var 8) (.fr (.lis (.call 11 (.e (.var 0) (.e (.var 1) (.e (.lit (.int 12)) .nil))))))) (.call 18 (.e (.var 0) (.e (.var 7) .nil)))) (.cons (.ret (.lit (.bl false))) (.nil)) (.nil)) (.cons (.asg (.nm 9) (.call 12 (.e (.var 0) (.e (.var 7) (.e (.var 2) .nil))))) (.cons (.ife (.or (.cmp .ne (.cmp .inn (.var 1) (.var 9)) (.cmp .le (.var 1) (.var 2))) (.cmp .ne (.fr (.lc (.var 12) (.nm 12) [12] (.it (.var 9)) (.so (.not (.call 4 (.e (.var 0) (.e (.var 12) .nil))))))) (.fr (.dis .nil)))) (.cons (.ret (.lit (.bl false))) (.nil)) (.nil)) (.cons (.asg (.nm 10) (.call 14 (.e (.var 0) (.e (.var 1) .nil)))) (.cons (.ife (.and (.cmp .notN (.var 10) (.lit (.non))) (.and (.cmp .lt (.var 10) (.lit (.int 12))) (.cmp .ne (.sl (.var 7) .no (.so (.bin .add (.var 10) (.lit (.int 1))))) (.bin .add (.bin .mul (.tup (.e (.lit (.bl false)) .nil)) (.var 10)) (.tup (.e (.lit (.bl true)) .nil)))))) (.cons (.ret (.lit (.bl false))) (.nil)) (.nil)) (.cons (.ret (.and (.call 19 (.e (.var 0) (.e (.var 10) .nil))) (.call 26 (.e (.var 0) (.e (.sl (.var 3) .no (.so (.lit (.int 5)))) (.e (.ix (.call 10 (.e (.var 0) (.e (.var 1) (.e (.lit (.int 6)) .nil)))) (.lit (.int 6))) .nil)))))) (.nil))))))))))))))))⟩
/-- _law_by_hand_right (28): _law_kin_here -/
def d_law_by_hand_right : Def := ⟨0, 1, (.cons (.ret (.cmp .eq (.fr (.lc (.var 0) (.nm 0) [0] (.it (.tup (.e (.tup (.e (.lit (.int 3)) (.e (.lit (.int 2)) (.e (.lit (.int 0)) .nil)))) (.e (.tup (.e (.lit (.int 3)) (.e (.lit (.int 2)) (.e (.lit (.int 1)) .nil)))) (.e (.tup (.e (.lit (.int 1)) (.e (.lit (.int 1)) (.e (.lit (.int 3)) .nil)))) (.e (.tup (.e (.lit (.int 4)) (.e (.lit (.int 3)) (.e (.lit (.int 0)) .nil)))) (.e (.tup (.e (.lit (.int 2)) (.e (.lit (.int 1)) (.e (.lit (.int 0)) .nil)))) (.e (.tup (.e (.lit (.int 5)) (.e (.lit (.int 4)) (.e (.lit (.int 3)) .nil)))) .nil)))))))) (.so (.not (.call 27 (.e (.var 0) (.e (.lit (.int 16)) (.e (.lit (.int 20)) .nil)))))))) (.fr (.dis .nil)))) (.nil))⟩
/-- _law_box (29): _law_script, _law_k, _law_great_so -/
def d_law_box : Def := ⟨2, 1, (.cons (.asg (.nm 2) (.ife (.cmp .lt (.var 1) (.bi .len (.e (.var 0) .nil))) (.ix (.var 0) (.var 1)) (.lit (.int 0)))) (.cons (.retO (.dis (.e (.bin .mul (.bi .abs (.e (.var 2) .nil)) (.bi .int (.e (.cmp .ge (.bi .abs (.e (.var 2) .nil)) (.bin .pow (.lit (.int 10)) (.lit (.int 18)))) .nil))) (.e (.bin .add (.bin .add (.bin .mod (.bi .int (.e (.var 2) .nil)) (.lit (.int 2305843009213693951))) (.bin .mul (.lit (.int 39373)) (.var 1))) (.lit (.int 3062))) (.e (.lit (.int 0)) .nil))))) (.nil)))⟩
/-- _law_take (30): _law_tin, _law_top_so, _law_digit_so, _law_once, _law_far, _law_twice -/
def d_law_take : Def := ⟨2, 4, (.cons (.ife (.cmp .gt (.oix 0 (.lit (.int 0))) (.lit (.int 0))) (.cons (.asg (.nm 2) (.bin .mod (.bi .int (.e (.oix 0 (.lit (.int 0))) .nil)) (.var 1))) (.cons (.set 0 (.lit (.int 0)) (.bin .fdiv (.oix 0 (.lit (.int 0))) (.var 1))) (.cons (.ret (.var 2)) (.nil)))) (.nil)) (.cons (.set 0 (.lit (.int 2)) (.bin .add (.oix 0 (.lit (.int 2))) (.lit (.int 1)))) (.cons (.asg (.nm 3) (.bin .mod (.bi .int (.e (.bin .mul (.bin .add (.oix 0 (.lit (.int 1))) (.bin .mul (.lit (.int 48271)) (.oix 0 (.lit (.int 2))))) (.bin .add (.lit (.int 39373)) (.oix 0 (.lit (.int 2))))) .nil)) (.lit (.int 2147483647)))) (.cons (.asg (.nm 4) (.bin .add (.bin .mod (.bi .int (.e (.var 3) .nil)) (.lit (.int 40009))) (.lit (.int 7)))) (.cons (.asg (.nm 5) (.bin .mod (.bi .int (.e (.bin .mul (.bin .add (.bin .add (.var 3) (.oix 0 (.lit (.int 2)))) (.bin .fdiv (.oix 0 (.lit (.int 1))) (.lit (.int 1000003)))) (.var 4)) .nil)) (.lit (.int 2147483629)))) (.cons (.ret (.bin .mod (.bi .int (.e (.bin .fdiv (.bin .mod (.bi .int (.e (.bin .add (.bin .mul (.var 5) (.lit (.int 48271))) (.var 3)) .nil)) (.lit (.int 2147483587))) (.lit (.int 64))) .nil)) (.var 1))) (.nil)))))))⟩
/-- _law_kin (31): _law_tin, _law_peak_so, _law_more, _law_low_so, _law_high_so, _law_plus_so -/
def d_law_kin : Def := ⟨3, 3, (.cons (.asg (.nm 3) (.bin .add (.lit (.int 1)) (.call 30 (.ln 0 (.e (.var 1) .nil))))) (.cons (.asg (.nm 4) (.bin .add (.var 3) (.call 30 (.ln 0 (.e (.bin .sub (.bin .add (.var 1) (.lit (.int 1))) (.var 3)) .nil))))) (.cons (.asg (.nm 5) (.call 30 (.ln 0 (.e (.bin .add (.var 2) (.lit (.int 1))) .nil)))) (.cons (.ret (.tup (.e (.var 4) (.e (.var 3) (.e (.ife (.cmp .eq (.var 4) (.var 3)) (.bi .max (.e (.lit (.int 1)) (.e (.var 5) .nil))) (.var 5)) .nil))))) (.nil)))))⟩
/-- _law_next (32): _law_kin_here, _law_much -/
def d_law_next : Def := ⟨2, 0, (.cons (.ret (.bin .add (.bin .fdiv (.bin .mul (.ix (.var 0) (.lit (.int 0))) (.var 1)) (.ix (.var 0) (.lit (.int 1)))) (.ix (.var 0) (.lit (.int 2))))) (.nil))⟩
/-- _law_least (33): _law_kin_here, _law_much -/
def d_law_least : Def := ⟨1, 1, (.cons (.asg (.nm 1) (.lit (.int 1))) (.cons (.whl (.cmp .le (.call 32 (.e (.var 0) (.e (.var 1) .nil))) (.var 1)) (.cons (.asg (.nm 1) (.bin .add (.var 1) (.lit (.int 1)))) (.nil))) (.cons (.ret (.var 1)) (.nil))))⟩
/-- _law_first (34): _law_tin, _law_kin_here, _law_far -/
def d_law_first : Def := ⟨3, 0, (.cons (.ret (.bin .add (.call 33 (.e (.var 1) .nil)) (.call 30 (.ln 0 (.e (.bin .add (.var 2) (.lit (.int 1))) .nil))))) (.nil))⟩
/-- _law_right (35): _law_tin, _law_turn, _law_kin_here -/
def d_law_right : Def := ⟨1, 2, (.cons (.for_ (.nm 1) (.r1 (.lit (.int 8))) (.cons (.asg (.nm 2) (.call 31 (.ln 0 (.e (.lit (.int 9)) (.e (.lit (.int 4)) .nil))))) (.cons (.ife (.not (.call 27 (.e (.var 2) (.e (.call 34 (.ln 0 (.e (.var 2) (.e (.lit (.int 40)) .nil)))) (.e (.bin .add (.lit (.int 1)) (.call 30 (.ln 0 (.e (.lit (.int 60)) .nil)))) .nil))))) (.cons (.ret (.lit (.bl false))) (.nil)) (.nil)) (.nil)))) (.cons (.ret (.lit (.bl true))) (.nil)))⟩
/-- law (36): _law_script, _law_cells_here, _law_k, _law_urn -/
def d_law : Def := ⟨1, 3, (.cons (.ife (.not (.call 28 .nil)) (.cons (.ret (.lit (.bl false))) (.nil)) (.nil)) (.cons (.asg (.nm 1) (.call 0 (.e (.var 0) (.e (.lit (.int 3)) .nil)))) (.cons (.for_ (.nm 2) (.r1 (.bi .len (.e (.var 1) .nil))) (.cons (.own 3 (.call 29 (.e (.var 1) (.e (.var 2) .nil)))) (.cons (.ife (.or (.not (.call 35 (.ln 3 .nil))) (.not (.call 35 (.ln 3 .nil)))) (.cons (.ret (.lit (.bl false))) (.nil)) (.nil)) (.nil)))) (.cons (.ret (.lit (.bl true))) (.nil)))))⟩
def defs : List Def := [d_law_cells, d_sizes_read, d_is_number, d_next_size, d_is_start, d_check_start, d_blocks_along, d_backs_read, d_tupled, d_blocks_of, d_places, d_backs, d_starts_read, d_first_back, d_lap, d_sizes, d_comes_back, d_steady_lap, d_is_barred, d_law_steady_right, d_is_read_by, d_fraction, d_rules_fitting, d_growths_to_part, d_set_of, d_next_read, d_law_fit_right, d_law_case_right, d_law_by_hand_right, d_law_box, d_law_take, d_law_kin, d_law_next, d_law_least, d_law_first, d_law_right, d_law]
def prog : Nat → Option Def := fun f => defs[f]?
end K97

set_option linter.all false
set_option maxRecDepth 100000
/-! W: the walk of the defs that several laws reach. -/
namespace K97
open Mini
theorem next_size {n : Nat} {p q m s : Int} (h : Ok p q) : callF prog (n + 1) 3 [.fz (rl p q m), .fz (.int s)] = some (.fz (.int (nx p q m s)), [.fz (rl p q m), .fz (.int s)]) := by
  have h1 := h.mul s
  have h2 := h.div
  rw [call_body (d := d_next_size) rfl rfl]
  simp [d_next_size, retOf, nx, h1, h2, evE_var, evE_cst, evE_lit, evE_bin, evE_neg, evE_not, evE_and, evE_or, evE_ife, evE_cmp, evE_chn, evE_tup, evE_ix, evE_sl, evE_call, evE_bi, evE_isi, evE_fr, evE_oix, evE_olen, evE_otup, evE_calO, evAs_nil, evAs_e, evAs_st, evAs_ln, evP_no, evP_so, evF_no, evF_so, evO_dis, evO_lc, evO_lis, evO_cat, evO_rep, evO_sl, evO_osl, evO_call, evO_mv, evO_orr, evI_it, evI_r1, evI_r2, evI_en, evI_zp, exS_asg, exS_par2, exS_par3, exS_own, exS_app, exS_set, exS_exp, exS_ret, exS_retO, exS_ife, exS_whl, exS_for_, exS_never, exS_frz, exSs_nil, exSs_cons, runDef, evT_eq, bd_some, bd_none, mpo_some, mpo_none, callV_eq, forG_eq, lcG_eq, getZ, getO, setT, putC, updO, isLent_un, isLent_fz, isLent_ow, isMine_un, isMine_fz, isMine_ow, isOw_un, isOw_fz, isOw_ow, lastI_succ, lastI_lent, lastI_ow, at_0, at_1, at_2, m_lt0, m_le1, m_le2, m_le3, m_le4, m_le5, m_le6, m_le7, m_le8, cmp_eq_int, cmp_ne_int, cmp_eq_bl, cmp_ne_bl, cmp_lt_int, cmp_le_int, cmp_gt_int, cmp_ge_int, cmp_isN, cmp_notN, cmp_inn, op_add, op_sub, op_mul, op_fdiv, op_mod, op_pow, cellI_zero, cellI_succ, cellI_lent, noOw, wipeC, backC, truth, bool?, int?, items?, vals?, ixF, biF, isTy, isNon, lentOf, avCells, putBack, outs, lentC]
theorem is_number {n : Nat} {s : Int} : callF prog (n + 1) 2 [.fz (.int s)] = some (.fz (.bl true), [.fz (.int s)]) := by
  rw [call_body (d := d_is_number) rfl rfl]
  simp [d_is_number, retOf, evE_var, evE_cst, evE_lit, evE_bin, evE_neg, evE_not, evE_and, evE_or, evE_ife, evE_cmp, evE_chn, evE_tup, evE_ix, evE_sl, evE_call, evE_bi, evE_isi, evE_fr, evE_oix, evE_olen, evE_otup, evE_calO, evAs_nil, evAs_e, evAs_st, evAs_ln, evP_no, evP_so, evF_no, evF_so, evO_dis, evO_lc, evO_lis, evO_cat, evO_rep, evO_sl, evO_osl, evO_call, evO_mv, evO_orr, evI_it, evI_r1, evI_r2, evI_en, evI_zp, exS_asg, exS_par2, exS_par3, exS_own, exS_app, exS_set, exS_exp, exS_ret, exS_retO, exS_ife, exS_whl, exS_for_, exS_never, exS_frz, exSs_nil, exSs_cons, runDef, evT_eq, bd_some, bd_none, mpo_some, mpo_none, callV_eq, forG_eq, lcG_eq, getZ, getO, setT, putC, updO, isLent_un, isLent_fz, isLent_ow, isMine_un, isMine_fz, isMine_ow, isOw_un, isOw_fz, isOw_ow, lastI_succ, lastI_lent, lastI_ow, at_0, at_1, at_2, m_lt0, m_le1, m_le2, m_le3, m_le4, m_le5, m_le6, m_le7, m_le8, cmp_eq_int, cmp_ne_int, cmp_eq_bl, cmp_ne_bl, cmp_lt_int, cmp_le_int, cmp_gt_int, cmp_ge_int, cmp_isN, cmp_notN, cmp_inn, op_add, op_sub, op_mul, op_fdiv, op_mod, op_pow, cellI_zero, cellI_succ, cellI_lent, noOw, wipeC, backC, truth, bool?, int?, items?, vals?, ixF, biF, isTy, isNon, lentOf, avCells, putBack, outs, lentC]
theorem is_start {n : Nat} {p q m s : Int} (h : Ok p q) : callF prog (n + 2) 4 [.fz (rl p q m), .fz (.int s)] = some (.fz (.bl (decide (1 ≤ s) && decide (s < nx p q m s))), [.fz (rl p q m), .fz (.int s)]) := by
  have e1 := next_size (n := n) (m := m) (s := s) h
  have e2 := is_number (n := n) (s := s)
  rw [call_body (d := d_is_start) rfl rfl]
  by_cases h3 : 1 ≤ s
  · simp [d_is_start, retOf, e1, e2, h3, evE_var, evE_cst, evE_lit, evE_bin, evE_neg, evE_not, evE_and, evE_or, evE_ife, evE_cmp, evE_chn, evE_tup, evE_ix, evE_sl, evE_call, evE_bi, evE_isi, evE_fr, evE_oix, evE_olen, evE_otup, evE_calO, evAs_nil, evAs_e, evAs_st, evAs_ln, evP_no, evP_so, evF_no, evF_so, evO_dis, evO_lc, evO_lis, evO_cat, evO_rep, evO_sl, evO_osl, evO_call, evO_mv, evO_orr, evI_it, evI_r1, evI_r2, evI_en, evI_zp, exS_asg, exS_par2, exS_par3, exS_own, exS_app, exS_set, exS_exp, exS_ret, exS_retO, exS_ife, exS_whl, exS_for_, exS_never, exS_frz, exSs_nil, exSs_cons, runDef, evT_eq, bd_some, bd_none, mpo_some, mpo_none, callV_eq, forG_eq, lcG_eq, getZ, getO, setT, putC, updO, isLent_un, isLent_fz, isLent_ow, isMine_un, isMine_fz, isMine_ow, isOw_un, isOw_fz, isOw_ow, lastI_succ, lastI_lent, lastI_ow, at_0, at_1, at_2, m_lt0, m_le1, m_le2, m_le3, m_le4, m_le5, m_le6, m_le7, m_le8, cmp_eq_int, cmp_ne_int, cmp_eq_bl, cmp_ne_bl, cmp_lt_int, cmp_le_int, cmp_gt_int, cmp_ge_int, cmp_isN, cmp_notN, cmp_inn, op_add, op_sub, op_mul, op_fdiv, op_mod, op_pow, cellI_zero, cellI_succ, cellI_lent, noOw, wipeC, backC, truth, bool?, int?, items?, vals?, ixF, biF, isTy, isNon, lentOf, avCells, putBack, outs, lentC]
  · simp [d_is_start, retOf, e1, e2, h3, evE_var, evE_cst, evE_lit, evE_bin, evE_neg, evE_not, evE_and, evE_or, evE_ife, evE_cmp, evE_chn, evE_tup, evE_ix, evE_sl, evE_call, evE_bi, evE_isi, evE_fr, evE_oix, evE_olen, evE_otup, evE_calO, evAs_nil, evAs_e, evAs_st, evAs_ln, evP_no, evP_so, evF_no, evF_so, evO_dis, evO_lc, evO_lis, evO_cat, evO_rep, evO_sl, evO_osl, evO_call, evO_mv, evO_orr, evI_it, evI_r1, evI_r2, evI_en, evI_zp, exS_asg, exS_par2, exS_par3, exS_own, exS_app, exS_set, exS_exp, exS_ret, exS_retO, exS_ife, exS_whl, exS_for_, exS_never, exS_frz, exSs_nil, exSs_cons, runDef, evT_eq, bd_some, bd_none, mpo_some, mpo_none, callV_eq, forG_eq, lcG_eq, getZ, getO, setT, putC, updO, isLent_un, isLent_fz, isLent_ow, isMine_un, isMine_fz, isMine_ow, isOw_un, isOw_fz, isOw_ow, lastI_succ, lastI_lent, lastI_ow, at_0, at_1, at_2, m_lt0, m_le1, m_le2, m_le3, m_le4, m_le5, m_le6, m_le7, m_le8, cmp_eq_int, cmp_ne_int, cmp_eq_bl, cmp_ne_bl, cmp_lt_int, cmp_le_int, cmp_gt_int, cmp_ge_int, cmp_isN, cmp_notN, cmp_inn, op_add, op_sub, op_mul, op_fdiv, op_mod, op_pow, cellI_zero, cellI_succ, cellI_lent, noOw, wipeC, backC, truth, bool?, int?, items?, vals?, ixF, biF, isTy, isNon, lentOf, avCells, putBack, outs, lentC]
theorem check_start {n : Nat} {r : R} (g : r.Good) : callF prog (n + 3) 5 [.fz (rl r.p r.q r.m), .fz (.int r.s)] = some (.fz .non, [.fz (rl r.p r.q r.m), .fz (.int r.s)]) := by
  have e1 := is_start (n := n) (m := r.m) (s := r.s) g.ok
  have h3 := g.s1
  have h4 := g.up
  rw [call_body (d := d_check_start) rfl rfl]
  simp [d_check_start, retOf, e1, h3, h4, evE_var, evE_cst, evE_lit, evE_bin, evE_neg, evE_not, evE_and, evE_or, evE_ife, evE_cmp, evE_chn, evE_tup, evE_ix, evE_sl, evE_call, evE_bi, evE_isi, evE_fr, evE_oix, evE_olen, evE_otup, evE_calO, evAs_nil, evAs_e, evAs_st, evAs_ln, evP_no, evP_so, evF_no, evF_so, evO_dis, evO_lc, evO_lis, evO_cat, evO_rep, evO_sl, evO_osl, evO_call, evO_mv, evO_orr, evI_it, evI_r1, evI_r2, evI_en, evI_zp, exS_asg, exS_par2, exS_par3, exS_own, exS_app, exS_set, exS_exp, exS_ret, exS_retO, exS_ife, exS_whl, exS_for_, exS_never, exS_frz, exSs_nil, exSs_cons, runDef, evT_eq, bd_some, bd_none, mpo_some, mpo_none, callV_eq, forG_eq, lcG_eq, getZ, getO, setT, putC, updO, isLent_un, isLent_fz, isLent_ow, isMine_un, isMine_fz, isMine_ow, isOw_un, isOw_fz, isOw_ow, lastI_succ, lastI_lent, lastI_ow, at_0, at_1, at_2, m_lt0, m_le1, m_le2, m_le3, m_le4, m_le5, m_le6, m_le7, m_le8, cmp_eq_int, cmp_ne_int, cmp_eq_bl, cmp_ne_bl, cmp_lt_int, cmp_le_int, cmp_gt_int, cmp_ge_int, cmp_isN, cmp_notN, cmp_inn, op_add, op_sub, op_mul, op_fdiv, op_mod, op_pow, cellI_zero, cellI_succ, cellI_lent, noOw, wipeC, backC, truth, bool?, int?, items?, vals?, ixF, biF, isTy, isNon, lentOf, avCells, putBack, outs, lentC]
theorem sizes {n k : Nat} {r : R} (g : r.Good) (hk : k < 1000) :
    callF prog (n + 4) 15 [.fz (rl r.p r.q r.m), .fz (.int r.s), .fz (.int k)] = some (.fz (.tup (rw (k + 1) fun i => .int (r.sz i))), [.fz (rl r.p r.q r.m), .fz (.int r.s), .fz (.int k)]) := by
  have e1 := check_start (n := n) g
  have hr : rngOk (k : Int) = true := by unfold rngOk; simp; omega
  have lp : forS (forG (exSs (callF prog (n + 3)) (.cons (.app 3 (.call 3 (.e (.var 0) (.e (.oix 3 (.neg (.lit (.int 1)))) .nil)))) .nil)) (.nm 4)) (rangeL 0 k) [.fz (rl r.p r.q r.m), .fz (.int r.s), .fz (.int k), .ow true [.int r.s], .un] =
      some (.nx [.fz (rl r.p r.q r.m), .fz (.int r.s), .fz (.int k), .ow true (rw (k + 1) fun i => .int (r.sz i)), lastI k]) :=
    forS_range (fun i => [.fz (rl r.p r.q r.m), .fz (.int r.s), .fz (.int k), .ow true (rw (i + 1) fun i => .int (r.sz i)), lastI i]) k fun i hi => by
      have el := rw_last i (fun i => Da.int (r.sz i))
      have e2 := next_size (n := n + 2) (m := r.m) (s := r.sz i) g.ok
      have hl : (rw (i + 1) fun i => Da.int (r.sz i)).length < most := by rw [rw_len]; unfold most; omega
      have ea : (rw (i + 1) fun i => Da.int (r.sz i)) ++ [.int (nx r.p r.q r.m (r.sz i))] = rw (i + 1 + 1) fun i => .int (r.sz i) := rw_snoc (i + 1) (fun i => Da.int (r.sz i))
      simp [el, e2, hl, ea, evE_var, evE_cst, evE_lit, evE_bin, evE_neg, evE_not, evE_and, evE_or, evE_ife, evE_cmp, evE_chn, evE_tup, evE_ix, evE_sl, evE_call, evE_bi, evE_isi, evE_fr, evE_oix, evE_olen, evE_otup, evE_calO, evAs_nil, evAs_e, evAs_st, evAs_ln, evP_no, evP_so, evF_no, evF_so, evO_dis, evO_lc, evO_lis, evO_cat, evO_rep, evO_sl, evO_osl, evO_call, evO_mv, evO_orr, evI_it, evI_r1, evI_r2, evI_en, evI_zp, exS_asg, exS_par2, exS_par3, exS_own, exS_app, exS_set, exS_exp, exS_ret, exS_retO, exS_ife, exS_whl, exS_for_, exS_never, exS_frz, exSs_nil, exSs_cons, runDef, evT_eq, bd_some, bd_none, mpo_some, mpo_none, callV_eq, forG_eq, lcG_eq, getZ, getO, setT, putC, updO, isLent_un, isLent_fz, isLent_ow, isMine_un, isMine_fz, isMine_ow, isOw_un, isOw_fz, isOw_ow, lastI_succ, lastI_lent, lastI_ow, at_0, at_1, at_2, m_lt0, m_le1, m_le2, m_le3, m_le4, m_le5, m_le6, m_le7, m_le8, cmp_eq_int, cmp_ne_int, cmp_eq_bl, cmp_ne_bl, cmp_lt_int, cmp_le_int, cmp_gt_int, cmp_ge_int, cmp_isN, cmp_notN, cmp_inn, op_add, op_sub, op_mul, op_fdiv, op_mod, op_pow, cellI_zero, cellI_succ, cellI_lent, noOw, wipeC, backC, truth, bool?, int?, items?, vals?, ixF, biF, isTy, isNon, lentOf, avCells, putBack, outs, lentC]
  rw [call_body (d := d_sizes) rfl rfl]
  simp [d_sizes, retOf, e1, hr, lp, evE_var, evE_cst, evE_lit, evE_bin, evE_neg, evE_not, evE_and, evE_or, evE_ife, evE_cmp, evE_chn, evE_tup, evE_ix, evE_sl, evE_call, evE_bi, evE_isi, evE_fr, evE_oix, evE_olen, evE_otup, evE_calO, evAs_nil, evAs_e, evAs_st, evAs_ln, evP_no, evP_so, evF_no, evF_so, evO_dis, evO_lc, evO_lis, evO_cat, evO_rep, evO_sl, evO_osl, evO_call, evO_mv, evO_orr, evI_it, evI_r1, evI_r2, evI_en, evI_zp, exS_asg, exS_par2, exS_par3, exS_own, exS_app, exS_set, exS_exp, exS_ret, exS_retO, exS_ife, exS_whl, exS_for_, exS_never, exS_frz, exSs_nil, exSs_cons, runDef, evT_eq, bd_some, bd_none, mpo_some, mpo_none, callV_eq, forG_eq, lcG_eq, getZ, getO, setT, putC, updO, isLent_un, isLent_fz, isLent_ow, isMine_un, isMine_fz, isMine_ow, isOw_un, isOw_fz, isOw_ow, lastI_succ, lastI_lent, lastI_ow, at_0, at_1, at_2, m_lt0, m_le1, m_le2, m_le3, m_le4, m_le5, m_le6, m_le7, m_le8, cmp_eq_int, cmp_ne_int, cmp_eq_bl, cmp_ne_bl, cmp_lt_int, cmp_le_int, cmp_gt_int, cmp_ge_int, cmp_isN, cmp_notN, cmp_inn, op_add, op_sub, op_mul, op_fdiv, op_mod, op_pow, cellI_zero, cellI_succ, cellI_lent, noOw, wipeC, backC, truth, bool?, int?, items?, vals?, ixF, biF, isTy, isNon, lentOf, avCells, putBack, outs, lentC]
def blCells (r : R) (k i : Nat) : L := [.fz (rl r.p r.q r.m), .fz (.int r.s), .fz (.int k), .ow true (rw (i + 1) r.row), lastI i, cellI r.pl i, cellI r.sz i, cellI (fun i => r.sz (i + 1)) i]
def blBody : Ss := .cons (.asg (.t2 (.nm 5) (.nm 6)) (.oix 3 (.neg (.lit (.int 1))))) (.cons (.asg (.nm 7) (.call 3 (.e (.var 0) (.e (.var 6) .nil)))) (.cons (.app 3 (.tup (.e (.ife (.cmp .le (.var 7) (.var 5)) (.lit (.int 0)) (.bin .add (.var 5) (.var 6))) (.e (.var 7) .nil)))) .nil))
theorem blLoop {n k : Nat} {r : R} (g : r.Good) (hk : k < 1000) : forS (forG (exSs (callF prog (n + 1)) blBody) (.nm 4)) (rangeL 0 k) [.fz (rl r.p r.q r.m), .fz (.int r.s), .fz (.int k), .ow true [.tup [.int 0, .int r.s]], .un, .un, .un, .un] = some (.nx (blCells r k k)) :=
  forS_range (blCells r k) k fun i hi => by
    have el := rw_last i r.row
    have e2 := next_size (n := n) (m := r.m) (s := r.sz i) g.ok
    have hl : (rw (i + 1) r.row).length < most := by rw [rw_len]; unfold most; omega
    have ea := rw_snoc (i + 1) r.row
    have er : r.row i = .tup [.int (r.pl i), .int (r.sz i)] := rfl
    rw [er] at el
    have es : r.row (i + 1) = .tup [.int (if r.sz (i + 1) ≤ r.pl i then 0 else r.pl i + r.sz i), .int (r.sz (i + 1))] := rfl
    rw [es] at ea
    have ez : nx r.p r.q r.m (r.sz i) = r.sz (i + 1) := rfl
    rw [ez] at e2
    by_cases hc : r.sz (i + 1) ≤ r.pl i
    · rw [if_pos hc] at ea
      simp [blCells, blBody, e2, evE_var, evE_cst, evE_lit, evE_bin, evE_neg, evE_not, evE_and, evE_or, evE_ife, evE_cmp, evE_chn, evE_tup, evE_ix, evE_sl, evE_call, evE_bi, evE_isi, evE_fr, evE_oix, evE_olen, evE_otup, evE_calO, evAs_nil, evAs_e, evAs_st, evAs_ln, evP_no, evP_so, evF_no, evF_so, evO_dis, evO_lc, evO_lis, evO_cat, evO_rep, evO_sl, evO_osl, evO_call, evO_mv, evO_orr, evI_it, evI_r1, evI_r2, evI_en, evI_zp, exS_asg, exS_par2, exS_par3, exS_own, exS_app, exS_set, exS_exp, exS_ret, exS_retO, exS_ife, exS_whl, exS_for_, exS_never, exS_frz, exSs_nil, exSs_cons, runDef, evT_eq, bd_some, bd_none, mpo_some, mpo_none, callV_eq, forG_eq, lcG_eq, getZ, getO, setT, putC, updO, isLent_un, isLent_fz, isLent_ow, isMine_un, isMine_fz, isMine_ow, isOw_un, isOw_fz, isOw_ow, lastI_succ, lastI_lent, lastI_ow, at_0, at_1, at_2, m_lt0, m_le1, m_le2, m_le3, m_le4, m_le5, m_le6, m_le7, m_le8, cmp_eq_int, cmp_ne_int, cmp_eq_bl, cmp_ne_bl, cmp_lt_int, cmp_le_int, cmp_gt_int, cmp_ge_int, cmp_isN, cmp_notN, cmp_inn, op_add, op_sub, op_mul, op_fdiv, op_mod, op_pow, cellI_zero, cellI_succ, cellI_lent, noOw, wipeC, backC, truth, bool?, int?, items?, vals?, ixF, biF, isTy, isNon, lentOf, avCells, putBack, outs, lentC, el, ea, hc, hl]
    · rw [if_neg hc] at ea
      simp [blCells, blBody, e2, evE_var, evE_cst, evE_lit, evE_bin, evE_neg, evE_not, evE_and, evE_or, evE_ife, evE_cmp, evE_chn, evE_tup, evE_ix, evE_sl, evE_call, evE_bi, evE_isi, evE_fr, evE_oix, evE_olen, evE_otup, evE_calO, evAs_nil, evAs_e, evAs_st, evAs_ln, evP_no, evP_so, evF_no, evF_so, evO_dis, evO_lc, evO_lis, evO_cat, evO_rep, evO_sl, evO_osl, evO_call, evO_mv, evO_orr, evI_it, evI_r1, evI_r2, evI_en, evI_zp, exS_asg, exS_par2, exS_par3, exS_own, exS_app, exS_set, exS_exp, exS_ret, exS_retO, exS_ife, exS_whl, exS_for_, exS_never, exS_frz, exSs_nil, exSs_cons, runDef, evT_eq, bd_some, bd_none, mpo_some, mpo_none, callV_eq, forG_eq, lcG_eq, getZ, getO, setT, putC, updO, isLent_un, isLent_fz, isLent_ow, isMine_un, isMine_fz, isMine_ow, isOw_un, isOw_fz, isOw_ow, lastI_succ, lastI_lent, lastI_ow, at_0, at_1, at_2, m_lt0, m_le1, m_le2, m_le3, m_le4, m_le5, m_le6, m_le7, m_le8, cmp_eq_int, cmp_ne_int, cmp_eq_bl, cmp_ne_bl, cmp_lt_int, cmp_le_int, cmp_gt_int, cmp_ge_int, cmp_isN, cmp_notN, cmp_inn, op_add, op_sub, op_mul, op_fdiv, op_mod, op_pow, cellI_zero, cellI_succ, cellI_lent, noOw, wipeC, backC, truth, bool?, int?, items?, vals?, ixF, biF, isTy, isNon, lentOf, avCells, putBack, outs, lentC, el, ea, hc, hl]
theorem blocks_of {n k : Nat} {r : R} (g : r.Good) (hk : k < 1000) :
    callF prog (n + 4) 9 [.fz (rl r.p r.q r.m), .fz (.int r.s), .fz (.int k)] = some (.fz (.tup (rw (k + 1) r.row)), [.fz (rl r.p r.q r.m), .fz (.int r.s), .fz (.int k)]) := by
  have e1 := check_start (n := n) g
  have hr : rngOk (k : Int) = true := by unfold rngOk; simp; omega
  have lp := blLoop (n := n + 2) g hk
  unfold blBody blCells at lp
  rw [call_body (d := d_blocks_of) rfl rfl]
  simp [d_blocks_of, retOf, e1, hr, lp, evE_var, evE_cst, evE_lit, evE_bin, evE_neg, evE_not, evE_and, evE_or, evE_ife, evE_cmp, evE_chn, evE_tup, evE_ix, evE_sl, evE_call, evE_bi, evE_isi, evE_fr, evE_oix, evE_olen, evE_otup, evE_calO, evAs_nil, evAs_e, evAs_st, evAs_ln, evP_no, evP_so, evF_no, evF_so, evO_dis, evO_lc, evO_lis, evO_cat, evO_rep, evO_sl, evO_osl, evO_call, evO_mv, evO_orr, evI_it, evI_r1, evI_r2, evI_en, evI_zp, exS_asg, exS_par2, exS_par3, exS_own, exS_app, exS_set, exS_exp, exS_ret, exS_retO, exS_ife, exS_whl, exS_for_, exS_never, exS_frz, exSs_nil, exSs_cons, runDef, evT_eq, bd_some, bd_none, mpo_some, mpo_none, callV_eq, forG_eq, lcG_eq, getZ, getO, setT, putC, updO, isLent_un, isLent_fz, isLent_ow, isMine_un, isMine_fz, isMine_ow, isOw_un, isOw_fz, isOw_ow, lastI_succ, lastI_lent, lastI_ow, at_0, at_1, at_2, m_lt0, m_le1, m_le2, m_le3, m_le4, m_le5, m_le6, m_le7, m_le8, cmp_eq_int, cmp_ne_int, cmp_eq_bl, cmp_ne_bl, cmp_lt_int, cmp_le_int, cmp_gt_int, cmp_ge_int, cmp_isN, cmp_notN, cmp_inn, op_add, op_sub, op_mul, op_fdiv, op_mod, op_pow, cellI_zero, cellI_succ, cellI_lent, noOw, wipeC, backC, truth, bool?, int?, items?, vals?, ixF, biF, isTy, isNon, lentOf, avCells, putBack, outs, lentC]
theorem blocks_along {n k : Nat} {r : R} (g : r.Good) (hk : k < 1000) :
    callF prog (n + 4) 6 [.fz (rl r.p r.q r.m), .fz (.int r.s), .fz (.int k)] = some (.ow (rw (k + 1) r.row), [.fz (rl r.p r.q r.m), .fz (.int r.s), .fz (.int k)]) := by
  have e1 := check_start (n := n) g
  have hr : rngOk (k : Int) = true := by unfold rngOk; simp; omega
  have lp := blLoop (n := n + 2) g hk
  unfold blBody blCells at lp
  rw [call_body (d := d_blocks_along) rfl rfl]
  simp [d_blocks_along, retOf, e1, hr, lp, evE_var, evE_cst, evE_lit, evE_bin, evE_neg, evE_not, evE_and, evE_or, evE_ife, evE_cmp, evE_chn, evE_tup, evE_ix, evE_sl, evE_call, evE_bi, evE_isi, evE_fr, evE_oix, evE_olen, evE_otup, evE_calO, evAs_nil, evAs_e, evAs_st, evAs_ln, evP_no, evP_so, evF_no, evF_so, evO_dis, evO_lc, evO_lis, evO_cat, evO_rep, evO_sl, evO_osl, evO_call, evO_mv, evO_orr, evI_it, evI_r1, evI_r2, evI_en, evI_zp, exS_asg, exS_par2, exS_par3, exS_own, exS_app, exS_set, exS_exp, exS_ret, exS_retO, exS_ife, exS_whl, exS_for_, exS_never, exS_frz, exSs_nil, exSs_cons, runDef, evT_eq, bd_some, bd_none, mpo_some, mpo_none, callV_eq, forG_eq, lcG_eq, getZ, getO, setT, putC, updO, isLent_un, isLent_fz, isLent_ow, isMine_un, isMine_fz, isMine_ow, isOw_un, isOw_fz, isOw_ow, lastI_succ, lastI_lent, lastI_ow, at_0, at_1, at_2, m_lt0, m_le1, m_le2, m_le3, m_le4, m_le5, m_le6, m_le7, m_le8, cmp_eq_int, cmp_ne_int, cmp_eq_bl, cmp_ne_bl, cmp_lt_int, cmp_le_int, cmp_gt_int, cmp_ge_int, cmp_isN, cmp_notN, cmp_inn, op_add, op_sub, op_mul, op_fdiv, op_mod, op_pow, cellI_zero, cellI_succ, cellI_lent, noOw, wipeC, backC, truth, bool?, int?, items?, vals?, ixF, biF, isTy, isNon, lentOf, avCells, putBack, outs, lentC]
theorem places {n k : Nat} {r : R} (g : r.Good) (hk : k < 1000) :
    callF prog (n + 5) 10 [.fz (rl r.p r.q r.m), .fz (.int r.s), .fz (.int k)] = some (.fz (.tup (rw (k + 1) fun i => .int (r.pl i))), [.fz (rl r.p r.q r.m), .fz (.int r.s), .fz (.int k)]) := by
  have e1 := blocks_of (n := n) g hk
  have lp := mapL_rw (step := lcG (evE (callF prog (n + 4)) (.var 3)) (evF (callF prog (n + 4)) .no) (.t2 (.nm 3) (.nm 4)) [3, 4]) (l := [.fz (rl r.p r.q r.m), .fz (.int r.s), .fz (.int k), .un, .un]) (f := r.row) (k + 1) (fun i => .int (r.pl i)) fun i hi => by
    simp [R.row, evE_var, evE_cst, evE_lit, evE_bin, evE_neg, evE_not, evE_and, evE_or, evE_ife, evE_cmp, evE_chn, evE_tup, evE_ix, evE_sl, evE_call, evE_bi, evE_isi, evE_fr, evE_oix, evE_olen, evE_otup, evE_calO, evAs_nil, evAs_e, evAs_st, evAs_ln, evP_no, evP_so, evF_no, evF_so, evO_dis, evO_lc, evO_lis, evO_cat, evO_rep, evO_sl, evO_osl, evO_call, evO_mv, evO_orr, evI_it, evI_r1, evI_r2, evI_en, evI_zp, exS_asg, exS_par2, exS_par3, exS_own, exS_app, exS_set, exS_exp, exS_ret, exS_retO, exS_ife, exS_whl, exS_for_, exS_never, exS_frz, exSs_nil, exSs_cons, runDef, evT_eq, bd_some, bd_none, mpo_some, mpo_none, callV_eq, forG_eq, lcG_eq, getZ, getO, setT, putC, updO, isLent_un, isLent_fz, isLent_ow, isMine_un, isMine_fz, isMine_ow, isOw_un, isOw_fz, isOw_ow, lastI_succ, lastI_lent, lastI_ow, at_0, at_1, at_2, m_lt0, m_le1, m_le2, m_le3, m_le4, m_le5, m_le6, m_le7, m_le8, cmp_eq_int, cmp_ne_int, cmp_eq_bl, cmp_ne_bl, cmp_lt_int, cmp_le_int, cmp_gt_int, cmp_ge_int, cmp_isN, cmp_notN, cmp_inn, op_add, op_sub, op_mul, op_fdiv, op_mod, op_pow, cellI_zero, cellI_succ, cellI_lent, noOw, wipeC, backC, truth, bool?, int?, items?, vals?, ixF, biF, isTy, isNon, lentOf, avCells, putBack, outs, lentC]
  have hl : (rw (k + 1) r.row).length ≤ most := by rw [rw_len]; unfold most; omega
  rw [call_body (d := d_places) rfl rfl]
  simp [d_places, retOf, e1, lp, hl, evE_var, evE_cst, evE_lit, evE_bin, evE_neg, evE_not, evE_and, evE_or, evE_ife, evE_cmp, evE_chn, evE_tup, evE_ix, evE_sl, evE_call, evE_bi, evE_isi, evE_fr, evE_oix, evE_olen, evE_otup, evE_calO, evAs_nil, evAs_e, evAs_st, evAs_ln, evP_no, evP_so, evF_no, evF_so, evO_dis, evO_lc, evO_lis, evO_cat, evO_rep, evO_sl, evO_osl, evO_call, evO_mv, evO_orr, evI_it, evI_r1, evI_r2, evI_en, evI_zp, exS_asg, exS_par2, exS_par3, exS_own, exS_app, exS_set, exS_exp, exS_ret, exS_retO, exS_ife, exS_whl, exS_for_, exS_never, exS_frz, exSs_nil, exSs_cons, runDef, evT_eq, bd_some, bd_none, mpo_some, mpo_none, callV_eq, forG_eq, lcG_eq, getZ, getO, setT, putC, updO, isLent_un, isLent_fz, isLent_ow, isMine_un, isMine_fz, isMine_ow, isOw_un, isOw_fz, isOw_ow, lastI_succ, lastI_lent, lastI_ow, at_0, at_1, at_2, m_lt0, m_le1, m_le2, m_le3, m_le4, m_le5, m_le6, m_le7, m_le8, cmp_eq_int, cmp_ne_int, cmp_eq_bl, cmp_ne_bl, cmp_lt_int, cmp_le_int, cmp_gt_int, cmp_ge_int, cmp_isN, cmp_notN, cmp_inn, op_add, op_sub, op_mul, op_fdiv, op_mod, op_pow, cellI_zero, cellI_succ, cellI_lent, noOw, wipeC, backC, truth, bool?, int?, items?, vals?, ixF, biF, isTy, isNon, lentOf, avCells, putBack, outs, lentC]
def bkC (r : R) (i : Nat) : Bool := decide (0 < i) && decide (r.pl i = 0)
theorem backs {n k : Nat} {r : R} (g : r.Good) (hk : k < 1000) :
    callF prog (n + 6) 11 [.fz (rl r.p r.q r.m), .fz (.int r.s), .fz (.int k)] = some (.fz (.tup (rwF (k + 1) (bkC r) fun i => .int (i : Nat))), [.fz (rl r.p r.q r.m), .fz (.int r.s), .fz (.int k)]) := by
  have e1 := places (n := n) g hk
  have lp := mapL_rwF (step := lcG (evE (callF prog (n + 5)) (.var 3)) (evF (callF prog (n + 5)) (.so (.and (.cmp .gt (.var 3) (.lit (.int 0))) (.cmp .eq (.var 4) (.lit (.int 0)))))) (.t2 (.nm 3) (.nm 4)) [3, 4]) (l := [.fz (rl r.p r.q r.m), .fz (.int r.s), .fz (.int k), .un, .un]) (f := fun i => .tup [.int (i : Nat), .int (r.pl i)]) (k + 1) (bkC r) (fun i => .int (i : Nat)) fun i hi => by
    unfold bkC
    by_cases h1 : 0 < i
    · by_cases h2 : r.pl i = 0
      · simp [h1, h2, evE_var, evE_cst, evE_lit, evE_bin, evE_neg, evE_not, evE_and, evE_or, evE_ife, evE_cmp, evE_chn, evE_tup, evE_ix, evE_sl, evE_call, evE_bi, evE_isi, evE_fr, evE_oix, evE_olen, evE_otup, evE_calO, evAs_nil, evAs_e, evAs_st, evAs_ln, evP_no, evP_so, evF_no, evF_so, evO_dis, evO_lc, evO_lis, evO_cat, evO_rep, evO_sl, evO_osl, evO_call, evO_mv, evO_orr, evI_it, evI_r1, evI_r2, evI_en, evI_zp, exS_asg, exS_par2, exS_par3, exS_own, exS_app, exS_set, exS_exp, exS_ret, exS_retO, exS_ife, exS_whl, exS_for_, exS_never, exS_frz, exSs_nil, exSs_cons, runDef, evT_eq, bd_some, bd_none, mpo_some, mpo_none, callV_eq, forG_eq, lcG_eq, getZ, getO, setT, putC, updO, isLent_un, isLent_fz, isLent_ow, isMine_un, isMine_fz, isMine_ow, isOw_un, isOw_fz, isOw_ow, lastI_succ, lastI_lent, lastI_ow, at_0, at_1, at_2, m_lt0, m_le1, m_le2, m_le3, m_le4, m_le5, m_le6, m_le7, m_le8, cmp_eq_int, cmp_ne_int, cmp_eq_bl, cmp_ne_bl, cmp_lt_int, cmp_le_int, cmp_gt_int, cmp_ge_int, cmp_isN, cmp_notN, cmp_inn, op_add, op_sub, op_mul, op_fdiv, op_mod, op_pow, cellI_zero, cellI_succ, cellI_lent, noOw, wipeC, backC, truth, bool?, int?, items?, vals?, ixF, biF, isTy, isNon, lentOf, avCells, putBack, outs, lentC]
      · simp [h1, h2, evE_var, evE_cst, evE_lit, evE_bin, evE_neg, evE_not, evE_and, evE_or, evE_ife, evE_cmp, evE_chn, evE_tup, evE_ix, evE_sl, evE_call, evE_bi, evE_isi, evE_fr, evE_oix, evE_olen, evE_otup, evE_calO, evAs_nil, evAs_e, evAs_st, evAs_ln, evP_no, evP_so, evF_no, evF_so, evO_dis, evO_lc, evO_lis, evO_cat, evO_rep, evO_sl, evO_osl, evO_call, evO_mv, evO_orr, evI_it, evI_r1, evI_r2, evI_en, evI_zp, exS_asg, exS_par2, exS_par3, exS_own, exS_app, exS_set, exS_exp, exS_ret, exS_retO, exS_ife, exS_whl, exS_for_, exS_never, exS_frz, exSs_nil, exSs_cons, runDef, evT_eq, bd_some, bd_none, mpo_some, mpo_none, callV_eq, forG_eq, lcG_eq, getZ, getO, setT, putC, updO, isLent_un, isLent_fz, isLent_ow, isMine_un, isMine_fz, isMine_ow, isOw_un, isOw_fz, isOw_ow, lastI_succ, lastI_lent, lastI_ow, at_0, at_1, at_2, m_lt0, m_le1, m_le2, m_le3, m_le4, m_le5, m_le6, m_le7, m_le8, cmp_eq_int, cmp_ne_int, cmp_eq_bl, cmp_ne_bl, cmp_lt_int, cmp_le_int, cmp_gt_int, cmp_ge_int, cmp_isN, cmp_notN, cmp_inn, op_add, op_sub, op_mul, op_fdiv, op_mod, op_pow, cellI_zero, cellI_succ, cellI_lent, noOw, wipeC, backC, truth, bool?, int?, items?, vals?, ixF, biF, isTy, isNon, lentOf, avCells, putBack, outs, lentC]
    · simp [h1, evE_var, evE_cst, evE_lit, evE_bin, evE_neg, evE_not, evE_and, evE_or, evE_ife, evE_cmp, evE_chn, evE_tup, evE_ix, evE_sl, evE_call, evE_bi, evE_isi, evE_fr, evE_oix, evE_olen, evE_otup, evE_calO, evAs_nil, evAs_e, evAs_st, evAs_ln, evP_no, evP_so, evF_no, evF_so, evO_dis, evO_lc, evO_lis, evO_cat, evO_rep, evO_sl, evO_osl, evO_call, evO_mv, evO_orr, evI_it, evI_r1, evI_r2, evI_en, evI_zp, exS_asg, exS_par2, exS_par3, exS_own, exS_app, exS_set, exS_exp, exS_ret, exS_retO, exS_ife, exS_whl, exS_for_, exS_never, exS_frz, exSs_nil, exSs_cons, runDef, evT_eq, bd_some, bd_none, mpo_some, mpo_none, callV_eq, forG_eq, lcG_eq, getZ, getO, setT, putC, updO, isLent_un, isLent_fz, isLent_ow, isMine_un, isMine_fz, isMine_ow, isOw_un, isOw_fz, isOw_ow, lastI_succ, lastI_lent, lastI_ow, at_0, at_1, at_2, m_lt0, m_le1, m_le2, m_le3, m_le4, m_le5, m_le6, m_le7, m_le8, cmp_eq_int, cmp_ne_int, cmp_eq_bl, cmp_ne_bl, cmp_lt_int, cmp_le_int, cmp_gt_int, cmp_ge_int, cmp_isN, cmp_notN, cmp_inn, op_add, op_sub, op_mul, op_fdiv, op_mod, op_pow, cellI_zero, cellI_succ, cellI_lent, noOw, wipeC, backC, truth, bool?, int?, items?, vals?, ixF, biF, isTy, isNon, lentOf, avCells, putBack, outs, lentC]
  have en := enum_rw (k + 1) (fun i => Da.int (r.pl i))
  have hl : (rw (k + 1) fun i => Da.tup [.int (i : Nat), .int (r.pl i)]).length ≤ most := by rw [rw_len]; unfold most; omega
  rw [call_body (d := d_backs) rfl rfl]
  simp [d_backs, retOf, e1, en, lp, hl, evE_var, evE_cst, evE_lit, evE_bin, evE_neg, evE_not, evE_and, evE_or, evE_ife, evE_cmp, evE_chn, evE_tup, evE_ix, evE_sl, evE_call, evE_bi, evE_isi, evE_fr, evE_oix, evE_olen, evE_otup, evE_calO, evAs_nil, evAs_e, evAs_st, evAs_ln, evP_no, evP_so, evF_no, evF_so, evO_dis, evO_lc, evO_lis, evO_cat, evO_rep, evO_sl, evO_osl, evO_call, evO_mv, evO_orr, evI_it, evI_r1, evI_r2, evI_en, evI_zp, exS_asg, exS_par2, exS_par3, exS_own, exS_app, exS_set, exS_exp, exS_ret, exS_retO, exS_ife, exS_whl, exS_for_, exS_never, exS_frz, exSs_nil, exSs_cons, runDef, evT_eq, bd_some, bd_none, mpo_some, mpo_none, callV_eq, forG_eq, lcG_eq, getZ, getO, setT, putC, updO, isLent_un, isLent_fz, isLent_ow, isMine_un, isMine_fz, isMine_ow, isOw_un, isOw_fz, isOw_ow, lastI_succ, lastI_lent, lastI_ow, at_0, at_1, at_2, m_lt0, m_le1, m_le2, m_le3, m_le4, m_le5, m_le6, m_le7, m_le8, cmp_eq_int, cmp_ne_int, cmp_eq_bl, cmp_ne_bl, cmp_lt_int, cmp_le_int, cmp_gt_int, cmp_ge_int, cmp_isN, cmp_notN, cmp_inn, op_add, op_sub, op_mul, op_fdiv, op_mod, op_pow, cellI_zero, cellI_succ, cellI_lent, noOw, wipeC, backC, truth, bool?, int?, items?, vals?, ixF, biF, isTy, isNon, lentOf, avCells, putBack, outs, lentC]
def fr (a b : Int) : Da := .tup [.int (a.fdiv (Nat.gcd a.natAbs b.natAbs : Nat)), .int (b.fdiv (Nat.gcd a.natAbs b.natAbs : Nat))]
theorem fraction {n : Nat} {a b : Int} (h0 : 0 ≤ a) (h1 : 0 < b) (h2 : a < 2 ^ 2000) (h3 : b < 2 ^ 2000) : callF prog (n + 1) 21 [.fz (.int a), .fz (.int b)] = some (.fz (fr a b), [.fz (.int a), .fz (.int b)]) := by
  have hk : a * b < 2 ^ 4000 := by
    have e : (2 : Int) ^ 4000 = 2 ^ 2000 * 2 ^ 2000 := by rw [← Int.pow_add]
    rw [e]
    exact Int.lt_of_le_of_lt (Int.mul_le_mul_of_nonneg_left (Int.le_of_lt h3) h0) (Int.mul_lt_mul_of_pos_right h2 (Int.lt_trans h1 h3))
  have lp := whileS_gcd0 (test := evT (callF prog n) (.cmp .ne (.var 3) (.lit (.int 0)))) (step := exSs (callF prog n) (.cons (.par2 2 3 (.var 3) (.bin .mod (.var 2) (.var 3))) (.nil))) (fun x y => [.fz (.int a), .fz (.int b), .fz (.int x), .fz (.int y)])
    (fun x y => by
      by_cases h : y = 0
      · simp [h, evE_var, evE_cst, evE_lit, evE_bin, evE_neg, evE_not, evE_and, evE_or, evE_ife, evE_cmp, evE_chn, evE_tup, evE_ix, evE_sl, evE_call, evE_bi, evE_isi, evE_fr, evE_oix, evE_olen, evE_otup, evE_calO, evAs_nil, evAs_e, evAs_st, evAs_ln, evP_no, evP_so, evF_no, evF_so, evO_dis, evO_lc, evO_lis, evO_cat, evO_rep, evO_sl, evO_osl, evO_call, evO_mv, evO_orr, evI_it, evI_r1, evI_r2, evI_en, evI_zp, exS_asg, exS_par2, exS_par3, exS_own, exS_app, exS_set, exS_exp, exS_ret, exS_retO, exS_ife, exS_whl, exS_for_, exS_never, exS_frz, exSs_nil, exSs_cons, runDef, evT_eq, bd_some, bd_none, mpo_some, mpo_none, callV_eq, forG_eq, lcG_eq, getZ, getO, setT, putC, updO, isLent_un, isLent_fz, isLent_ow, isMine_un, isMine_fz, isMine_ow, isOw_un, isOw_fz, isOw_ow, lastI_succ, lastI_lent, lastI_ow, at_0, at_1, at_2, m_lt0, m_le1, m_le2, m_le3, m_le4, m_le5, m_le6, m_le7, m_le8, cmp_eq_int, cmp_ne_int, cmp_eq_bl, cmp_ne_bl, cmp_lt_int, cmp_le_int, cmp_gt_int, cmp_ge_int, cmp_isN, cmp_notN, cmp_inn, op_add, op_sub, op_mul, op_fdiv, op_mod, op_pow, cellI_zero, cellI_succ, cellI_lent, noOw, wipeC, backC, truth, bool?, int?, items?, vals?, ixF, biF, isTy, isNon, lentOf, avCells, putBack, outs, lentC]
      · simp [h, evE_var, evE_cst, evE_lit, evE_bin, evE_neg, evE_not, evE_and, evE_or, evE_ife, evE_cmp, evE_chn, evE_tup, evE_ix, evE_sl, evE_call, evE_bi, evE_isi, evE_fr, evE_oix, evE_olen, evE_otup, evE_calO, evAs_nil, evAs_e, evAs_st, evAs_ln, evP_no, evP_so, evF_no, evF_so, evO_dis, evO_lc, evO_lis, evO_cat, evO_rep, evO_sl, evO_osl, evO_call, evO_mv, evO_orr, evI_it, evI_r1, evI_r2, evI_en, evI_zp, exS_asg, exS_par2, exS_par3, exS_own, exS_app, exS_set, exS_exp, exS_ret, exS_retO, exS_ife, exS_whl, exS_for_, exS_never, exS_frz, exSs_nil, exSs_cons, runDef, evT_eq, bd_some, bd_none, mpo_some, mpo_none, callV_eq, forG_eq, lcG_eq, getZ, getO, setT, putC, updO, isLent_un, isLent_fz, isLent_ow, isMine_un, isMine_fz, isMine_ow, isOw_un, isOw_fz, isOw_ow, lastI_succ, lastI_lent, lastI_ow, at_0, at_1, at_2, m_lt0, m_le1, m_le2, m_le3, m_le4, m_le5, m_le6, m_le7, m_le8, cmp_eq_int, cmp_ne_int, cmp_eq_bl, cmp_ne_bl, cmp_lt_int, cmp_le_int, cmp_gt_int, cmp_ge_int, cmp_isN, cmp_notN, cmp_inn, op_add, op_sub, op_mul, op_fdiv, op_mod, op_pow, cellI_zero, cellI_succ, cellI_lent, noOw, wipeC, backC, truth, bool?, int?, items?, vals?, ixF, biF, isTy, isNon, lentOf, avCells, putBack, outs, lentC]) (fun x y hy => by simp [hy, evE_var, evE_cst, evE_lit, evE_bin, evE_neg, evE_not, evE_and, evE_or, evE_ife, evE_cmp, evE_chn, evE_tup, evE_ix, evE_sl, evE_call, evE_bi, evE_isi, evE_fr, evE_oix, evE_olen, evE_otup, evE_calO, evAs_nil, evAs_e, evAs_st, evAs_ln, evP_no, evP_so, evF_no, evF_so, evO_dis, evO_lc, evO_lis, evO_cat, evO_rep, evO_sl, evO_osl, evO_call, evO_mv, evO_orr, evI_it, evI_r1, evI_r2, evI_en, evI_zp, exS_asg, exS_par2, exS_par3, exS_own, exS_app, exS_set, exS_exp, exS_ret, exS_retO, exS_ife, exS_whl, exS_for_, exS_never, exS_frz, exSs_nil, exSs_cons, runDef, evT_eq, bd_some, bd_none, mpo_some, mpo_none, callV_eq, forG_eq, lcG_eq, getZ, getO, setT, putC, updO, isLent_un, isLent_fz, isLent_ow, isMine_un, isMine_fz, isMine_ow, isOw_un, isOw_fz, isOw_ow, lastI_succ, lastI_lent, lastI_ow, at_0, at_1, at_2, m_lt0, m_le1, m_le2, m_le3, m_le4, m_le5, m_le6, m_le7, m_le8, cmp_eq_int, cmp_ne_int, cmp_eq_bl, cmp_ne_bl, cmp_lt_int, cmp_le_int, cmp_gt_int, cmp_ge_int, cmp_isN, cmp_notN, cmp_inn, op_add, op_sub, op_mul, op_fdiv, op_mod, op_pow, cellI_zero, cellI_succ, cellI_lent, noOw, wipeC, backC, truth, bool?, int?, items?, vals?, ixF, biF, isTy, isNon, lentOf, avCells, putBack, outs, lentC]) 4000 fuel a b h1 h0 hk (by decide)
  obtain ⟨g, hg⟩ : ∃ g, g = Nat.gcd a.natAbs b.natAbs := ⟨_, rfl⟩
  have g0 : 0 < g := by rw [hg]; exact Nat.gcd_pos_of_pos_right _ (by omega)
  have g1 : g ≤ b.natAbs := by rw [hg]; exact Nat.gcd_le_right _ (by omega)
  have hd : divOk (g : Int) = true := div_big (a := 2000) (by omega) (by
    have : ((2 ^ 2000 : Nat) : Int) = 2 ^ 2000 := Int.natCast_pow 2 2000
    omega) (by decide)
  have ha : ¬ a < 0 := by omega
  rw [← hg] at lp
  rw [call_body (d := d_fraction) rfl rfl]
  simp [d_fraction, retOf, fr, ← hg, ha, lp, hd, evE_var, evE_cst, evE_lit, evE_bin, evE_neg, evE_not, evE_and, evE_or, evE_ife, evE_cmp, evE_chn, evE_tup, evE_ix, evE_sl, evE_call, evE_bi, evE_isi, evE_fr, evE_oix, evE_olen, evE_otup, evE_calO, evAs_nil, evAs_e, evAs_st, evAs_ln, evP_no, evP_so, evF_no, evF_so, evO_dis, evO_lc, evO_lis, evO_cat, evO_rep, evO_sl, evO_osl, evO_call, evO_mv, evO_orr, evI_it, evI_r1, evI_r2, evI_en, evI_zp, exS_asg, exS_par2, exS_par3, exS_own, exS_app, exS_set, exS_exp, exS_ret, exS_retO, exS_ife, exS_whl, exS_for_, exS_never, exS_frz, exSs_nil, exSs_cons, runDef, evT_eq, bd_some, bd_none, mpo_some, mpo_none, callV_eq, forG_eq, lcG_eq, getZ, getO, setT, putC, updO, isLent_un, isLent_fz, isLent_ow, isMine_un, isMine_fz, isMine_ow, isOw_un, isOw_fz, isOw_ow, lastI_succ, lastI_lent, lastI_ow, at_0, at_1, at_2, m_lt0, m_le1, m_le2, m_le3, m_le4, m_le5, m_le6, m_le7, m_le8, cmp_eq_int, cmp_ne_int, cmp_eq_bl, cmp_ne_bl, cmp_lt_int, cmp_le_int, cmp_gt_int, cmp_ge_int, cmp_isN, cmp_notN, cmp_inn, op_add, op_sub, op_mul, op_fdiv, op_mod, op_pow, cellI_zero, cellI_succ, cellI_lent, noOw, wipeC, backC, truth, bool?, int?, items?, vals?, ixF, biF, isTy, isNon, lentOf, avCells, putBack, outs, lentC]
theorem tupled : ∀ (k n : Nat) (d : Da), tt k d = true → callF prog (n + k + 1) 8 [.fz d] = some (.fz d, [.fz d]) := by
  intro k
  induction k with
  | zero =>
    intro n d h
    rw [call_body (d := d_tupled) rfl rfl]
    cases d with
    | tup l => simp [tt] at h
    | lst l => simp [tt] at h
    | _ => simp [d_tupled, retOf, evE_var, evE_cst, evE_lit, evE_bin, evE_neg, evE_not, evE_and, evE_or, evE_ife, evE_cmp, evE_chn, evE_tup, evE_ix, evE_sl, evE_call, evE_bi, evE_isi, evE_fr, evE_oix, evE_olen, evE_otup, evE_calO, evAs_nil, evAs_e, evAs_st, evAs_ln, evP_no, evP_so, evF_no, evF_so, evO_dis, evO_lc, evO_lis, evO_cat, evO_rep, evO_sl, evO_osl, evO_call, evO_mv, evO_orr, evI_it, evI_r1, evI_r2, evI_en, evI_zp, exS_asg, exS_par2, exS_par3, exS_own, exS_app, exS_set, exS_exp, exS_ret, exS_retO, exS_ife, exS_whl, exS_for_, exS_never, exS_frz, exSs_nil, exSs_cons, runDef, evT_eq, bd_some, bd_none, mpo_some, mpo_none, callV_eq, forG_eq, lcG_eq, getZ, getO, setT, putC, updO, isLent_un, isLent_fz, isLent_ow, isMine_un, isMine_fz, isMine_ow, isOw_un, isOw_fz, isOw_ow, lastI_succ, lastI_lent, lastI_ow, at_0, at_1, at_2, m_lt0, m_le1, m_le2, m_le3, m_le4, m_le5, m_le6, m_le7, m_le8, cmp_eq_int, cmp_ne_int, cmp_eq_bl, cmp_ne_bl, cmp_lt_int, cmp_le_int, cmp_gt_int, cmp_ge_int, cmp_isN, cmp_notN, cmp_inn, op_add, op_sub, op_mul, op_fdiv, op_mod, op_pow, cellI_zero, cellI_succ, cellI_lent, noOw, wipeC, backC, truth, bool?, int?, items?, vals?, ixF, biF, isTy, isNon, lentOf, avCells, putBack, outs, lentC]
  | succ k ih =>
    intro n d h
    rw [call_body (d := d_tupled) rfl rfl]
    cases d with
    | lst l => simp [tt] at h
    | tup l =>
      rw [tt, Bool.and_eq_true] at h
      have hl := of_decide_eq_true h.1
      have lp := mapL_const (step := lcG (evE (callF prog (n + (k + 1))) (.call 8 (.e (.var 1) .nil))) (evF (callF prog (n + (k + 1))) .no) (.nm 1) [1]) (l := [.fz (.tup l), .un]) some l fun x hx => by
        have e : callF prog (n + (k + 1)) 8 [.fz x] = some (.fz x, [.fz x]) := ih n x (ttL_all h.2 x hx)
        simp [e, evE_var, evE_cst, evE_lit, evE_bin, evE_neg, evE_not, evE_and, evE_or, evE_ife, evE_cmp, evE_chn, evE_tup, evE_ix, evE_sl, evE_call, evE_bi, evE_isi, evE_fr, evE_oix, evE_olen, evE_otup, evE_calO, evAs_nil, evAs_e, evAs_st, evAs_ln, evP_no, evP_so, evF_no, evF_so, evO_dis, evO_lc, evO_lis, evO_cat, evO_rep, evO_sl, evO_osl, evO_call, evO_mv, evO_orr, evI_it, evI_r1, evI_r2, evI_en, evI_zp, exS_asg, exS_par2, exS_par3, exS_own, exS_app, exS_set, exS_exp, exS_ret, exS_retO, exS_ife, exS_whl, exS_for_, exS_never, exS_frz, exSs_nil, exSs_cons, runDef, evT_eq, bd_some, bd_none, mpo_some, mpo_none, callV_eq, forG_eq, lcG_eq, getZ, getO, setT, putC, updO, isLent_un, isLent_fz, isLent_ow, isMine_un, isMine_fz, isMine_ow, isOw_un, isOw_fz, isOw_ow, lastI_succ, lastI_lent, lastI_ow, at_0, at_1, at_2, m_lt0, m_le1, m_le2, m_le3, m_le4, m_le5, m_le6, m_le7, m_le8, cmp_eq_int, cmp_ne_int, cmp_eq_bl, cmp_ne_bl, cmp_lt_int, cmp_le_int, cmp_gt_int, cmp_ge_int, cmp_isN, cmp_notN, cmp_inn, op_add, op_sub, op_mul, op_fdiv, op_mod, op_pow, cellI_zero, cellI_succ, cellI_lent, noOw, wipeC, backC, truth, bool?, int?, items?, vals?, ixF, biF, isTy, isNon, lentOf, avCells, putBack, outs, lentC]
      rw [filterMap_some] at lp
      simp [d_tupled, retOf, evE_var, evE_cst, evE_lit, evE_bin, evE_neg, evE_not, evE_and, evE_or, evE_ife, evE_cmp, evE_chn, evE_tup, evE_ix, evE_sl, evE_call, evE_bi, evE_isi, evE_fr, evE_oix, evE_olen, evE_otup, evE_calO, evAs_nil, evAs_e, evAs_st, evAs_ln, evP_no, evP_so, evF_no, evF_so, evO_dis, evO_lc, evO_lis, evO_cat, evO_rep, evO_sl, evO_osl, evO_call, evO_mv, evO_orr, evI_it, evI_r1, evI_r2, evI_en, evI_zp, exS_asg, exS_par2, exS_par3, exS_own, exS_app, exS_set, exS_exp, exS_ret, exS_retO, exS_ife, exS_whl, exS_for_, exS_never, exS_frz, exSs_nil, exSs_cons, runDef, evT_eq, bd_some, bd_none, mpo_some, mpo_none, callV_eq, forG_eq, lcG_eq, getZ, getO, setT, putC, updO, isLent_un, isLent_fz, isLent_ow, isMine_un, isMine_fz, isMine_ow, isOw_un, isOw_fz, isOw_ow, lastI_succ, lastI_lent, lastI_ow, at_0, at_1, at_2, m_lt0, m_le1, m_le2, m_le3, m_le4, m_le5, m_le6, m_le7, m_le8, cmp_eq_int, cmp_ne_int, cmp_eq_bl, cmp_ne_bl, cmp_lt_int, cmp_le_int, cmp_gt_int, cmp_ge_int, cmp_isN, cmp_notN, cmp_inn, op_add, op_sub, op_mul, op_fdiv, op_mod, op_pow, cellI_zero, cellI_succ, cellI_lent, noOw, wipeC, backC, truth, bool?, int?, items?, vals?, ixF_tup, ixF_lst, bi_len, bi_int, bi_lent, bi_intb, bi_abs, bi_tupl, bi_tupt, max_int2, isTy, isNon, lentOf, avCells, putBack, outs, lentC, lp, hl]
    | _ => simp [d_tupled, retOf, evE_var, evE_cst, evE_lit, evE_bin, evE_neg, evE_not, evE_and, evE_or, evE_ife, evE_cmp, evE_chn, evE_tup, evE_ix, evE_sl, evE_call, evE_bi, evE_isi, evE_fr, evE_oix, evE_olen, evE_otup, evE_calO, evAs_nil, evAs_e, evAs_st, evAs_ln, evP_no, evP_so, evF_no, evF_so, evO_dis, evO_lc, evO_lis, evO_cat, evO_rep, evO_sl, evO_osl, evO_call, evO_mv, evO_orr, evI_it, evI_r1, evI_r2, evI_en, evI_zp, exS_asg, exS_par2, exS_par3, exS_own, exS_app, exS_set, exS_exp, exS_ret, exS_retO, exS_ife, exS_whl, exS_for_, exS_never, exS_frz, exSs_nil, exSs_cons, runDef, evT_eq, bd_some, bd_none, mpo_some, mpo_none, callV_eq, forG_eq, lcG_eq, getZ, getO, setT, putC, updO, isLent_un, isLent_fz, isLent_ow, isMine_un, isMine_fz, isMine_ow, isOw_un, isOw_fz, isOw_ow, lastI_succ, lastI_lent, lastI_ow, at_0, at_1, at_2, m_lt0, m_le1, m_le2, m_le3, m_le4, m_le5, m_le6, m_le7, m_le8, cmp_eq_int, cmp_ne_int, cmp_eq_bl, cmp_ne_bl, cmp_lt_int, cmp_le_int, cmp_gt_int, cmp_ge_int, cmp_isN, cmp_notN, cmp_inn, op_add, op_sub, op_mul, op_fdiv, op_mod, op_pow, cellI_zero, cellI_succ, cellI_lent, noOw, wipeC, backC, truth, bool?, int?, items?, vals?, ixF, biF, isTy, isNon, lentOf, avCells, putBack, outs, lentC]
theorem comes_back {n : Nat} {p q m : Int} (h : Ok p q) : callF prog (n + 1) 16 [.fz (rl p q m)] = some (.fz (.bl (decide (p * p ≤ p * q + q * q))), [.fz (rl p q m)]) := by
  have a1 := h.mul p
  have a2 := h.mul q
  have a3 : mulOk q q = true := mul_l (sm_of (by have := h.q0; omega) (by have := h.q1; omega))
  rw [call_body (d := d_comes_back) rfl rfl]
  simp [d_comes_back, retOf, a1, a2, a3, evE_var, evE_cst, evE_lit, evE_bin, evE_neg, evE_not, evE_and, evE_or, evE_ife, evE_cmp, evE_chn, evE_tup, evE_ix, evE_sl, evE_call, evE_bi, evE_isi, evE_fr, evE_oix, evE_olen, evE_otup, evE_calO, evAs_nil, evAs_e, evAs_st, evAs_ln, evP_no, evP_so, evF_no, evF_so, evO_dis, evO_lc, evO_lis, evO_cat, evO_rep, evO_sl, evO_osl, evO_call, evO_mv, evO_orr, evI_it, evI_r1, evI_r2, evI_en, evI_zp, exS_asg, exS_par2, exS_par3, exS_own, exS_app, exS_set, exS_exp, exS_ret, exS_retO, exS_ife, exS_whl, exS_for_, exS_never, exS_frz, exSs_nil, exSs_cons, runDef, evT_eq, bd_some, bd_none, mpo_some, mpo_none, callV_eq, forG_eq, lcG_eq, getZ, getO, setT, putC, updO, isLent_un, isLent_fz, isLent_ow, isMine_un, isMine_fz, isMine_ow, isOw_un, isOw_fz, isOw_ow, lastI_succ, lastI_lent, lastI_ow, at_0, at_1, at_2, m_lt0, m_le1, m_le2, m_le3, m_le4, m_le5, m_le6, m_le7, m_le8, cmp_eq_int, cmp_ne_int, cmp_eq_bl, cmp_ne_bl, cmp_lt_int, cmp_le_int, cmp_gt_int, cmp_ge_int, cmp_isN, cmp_notN, cmp_inn, op_add, op_sub, op_mul, op_fdiv, op_mod, op_pow, cellI_zero, cellI_succ, cellI_lent, noOw, wipeC, backC, truth, bool?, int?, items?, vals?, ixF, biF, isTy, isNon, lentOf, avCells, putBack, outs, lentC]
def stD : Option Nat → Da
  | none => .non
  | some k => .int (k : Nat)
def slb : Ss := d_steady_lap.body
theorem steady_lap {n : Nat} {p q m : Int} (h0 : 1 ≤ q) (h1 : q ≤ p) (h2 : p ≤ 20) : callF prog (n + 2) 17 [.fz (rl p q m)] = some (.fz (stD (stl p q)), [.fz (rl p q m)]) := by
  have ok : Ok p q := ⟨by omega, by omega, by omega, by omega⟩
  have e1 := comes_back (n := n) (m := m) ok
  rw [call_body (d := d_steady_lap) rfl rfl]
  by_cases h : p * p ≤ p * q + q * q
  · obtain ⟨d, hd, d2, d60, hw, hj⟩ := stl_some h0 h1 h2 h
    rw [hd]
    rw [decide_eq_true h] at e1
    have a1 := ok.mul p
    have a3 : mulOk q q = true := mul_l (sm_of (by omega) (by omega))
    have a4 : ∀ x, mulOk x q = true := fun x => mul_r (sm_of (by omega) (by omega))
    have a5 : ∀ x, mulOk p x = true := fun x => mul_l (sm_of (by omega) (by omega))
    have s0 : exS (callF prog (n + 1)) (nthS 0 slb) [.fz (rl p q m), .un, .un, .un, .un, .un, .un] = some (.nx [.fz (rl p q m), .un, .un, .un, .un, .un, .un]) := by
      simp [nthS, slb, d_steady_lap, evE_var, evE_cst, evE_lit, evE_bin, evE_neg, evE_not, evE_and, evE_or, evE_ife, evE_cmp, evE_chn, evE_tup, evE_ix, evE_sl, evE_call, evE_bi, evE_isi, evE_fr, evE_oix, evE_olen, evE_otup, evE_calO, evAs_nil, evAs_e, evAs_st, evAs_ln, evP_no, evP_so, evF_no, evF_so, evO_dis, evO_lc, evO_lis, evO_cat, evO_rep, evO_sl, evO_osl, evO_call, evO_mv, evO_orr, evI_it, evI_r1, evI_r2, evI_en, evI_zp, exS_asg, exS_par2, exS_par3, exS_own, exS_app, exS_set, exS_exp, exS_ret, exS_retO, exS_ife, exS_whl, exS_for_, exS_never, exS_frz, exSs_nil, exSs_cons, runDef, evT_eq, bd_some, bd_none, mpo_some, mpo_none, callV_eq, forG_eq, lcG_eq, getZ, getO, setT, putC, updO, isLent_un, isLent_fz, isLent_ow, isMine_un, isMine_fz, isMine_ow, isOw_un, isOw_fz, isOw_ow, lastI_succ, lastI_lent, lastI_ow, at_0, at_1, at_2, m_lt0, m_le1, m_le2, m_le3, m_le4, m_le5, m_le6, m_le7, m_le8, cmp_eq_int, cmp_ne_int, cmp_eq_bl, cmp_ne_bl, cmp_lt_int, cmp_le_int, cmp_gt_int, cmp_ge_int, cmp_isN, cmp_notN, cmp_inn, op_add, op_sub, op_mul, op_fdiv, op_mod, op_pow, cellI_zero, cellI_succ, cellI_lent, noOw, wipeC, backC, truth, bool?, int?, items?, vals?, ixF, biF, isTy, isNon, lentOf, avCells, putBack, outs, lentC, e1]
    have s1 : exS (callF prog (n + 1)) (nthS 1 slb) [.fz (rl p q m), .un, .un, .un, .un, .un, .un] = some (.nx [.fz (rl p q m), .fz (.int p), .fz (.int q), .fz (.int m), .un, .un, .un]) := by
      simp [nthS, slb, d_steady_lap, evE_var, evE_cst, evE_lit, evE_bin, evE_neg, evE_not, evE_and, evE_or, evE_ife, evE_cmp, evE_chn, evE_tup, evE_ix, evE_sl, evE_call, evE_bi, evE_isi, evE_fr, evE_oix, evE_olen, evE_otup, evE_calO, evAs_nil, evAs_e, evAs_st, evAs_ln, evP_no, evP_so, evF_no, evF_so, evO_dis, evO_lc, evO_lis, evO_cat, evO_rep, evO_sl, evO_osl, evO_call, evO_mv, evO_orr, evI_it, evI_r1, evI_r2, evI_en, evI_zp, exS_asg, exS_par2, exS_par3, exS_own, exS_app, exS_set, exS_exp, exS_ret, exS_retO, exS_ife, exS_whl, exS_for_, exS_never, exS_frz, exSs_nil, exSs_cons, runDef, evT_eq, bd_some, bd_none, mpo_some, mpo_none, callV_eq, forG_eq, lcG_eq, getZ, getO, setT, putC, updO, isLent_un, isLent_fz, isLent_ow, isMine_un, isMine_fz, isMine_ow, isOw_un, isOw_fz, isOw_ow, lastI_succ, lastI_lent, lastI_ow, at_0, at_1, at_2, m_lt0, m_le1, m_le2, m_le3, m_le4, m_le5, m_le6, m_le7, m_le8, cmp_eq_int, cmp_ne_int, cmp_eq_bl, cmp_ne_bl, cmp_lt_int, cmp_le_int, cmp_gt_int, cmp_ge_int, cmp_isN, cmp_notN, cmp_inn, op_add, op_sub, op_mul, op_fdiv, op_mod, op_pow, cellI_zero, cellI_succ, cellI_lent, noOw, wipeC, backC, truth, bool?, int?, items?, vals?, ixF, biF, isTy, isNon, lentOf, avCells, putBack, outs, lentC]
    have s2 : exS (callF prog (n + 1)) (nthS 2 slb) [.fz (rl p q m), .fz (.int p), .fz (.int q), .fz (.int m), .un, .un, .un] = some (.nx [.fz (rl p q m), .fz (.int p), .fz (.int q), .fz (.int m), .fz (.int 1), .fz (.int (q * q - p * p)), .fz (.int (q * q))]) := by
      simp [nthS, slb, d_steady_lap, evE_var, evE_cst, evE_lit, evE_bin, evE_neg, evE_not, evE_and, evE_or, evE_ife, evE_cmp, evE_chn, evE_tup, evE_ix, evE_sl, evE_call, evE_bi, evE_isi, evE_fr, evE_oix, evE_olen, evE_otup, evE_calO, evAs_nil, evAs_e, evAs_st, evAs_ln, evP_no, evP_so, evF_no, evF_so, evO_dis, evO_lc, evO_lis, evO_cat, evO_rep, evO_sl, evO_osl, evO_call, evO_mv, evO_orr, evI_it, evI_r1, evI_r2, evI_en, evI_zp, exS_asg, exS_par2, exS_par3, exS_own, exS_app, exS_set, exS_exp, exS_ret, exS_retO, exS_ife, exS_whl, exS_for_, exS_never, exS_frz, exSs_nil, exSs_cons, runDef, evT_eq, bd_some, bd_none, mpo_some, mpo_none, callV_eq, forG_eq, lcG_eq, getZ, getO, setT, putC, updO, isLent_un, isLent_fz, isLent_ow, isMine_un, isMine_fz, isMine_ow, isOw_un, isOw_fz, isOw_ow, lastI_succ, lastI_lent, lastI_ow, at_0, at_1, at_2, m_lt0, m_le1, m_le2, m_le3, m_le4, m_le5, m_le6, m_le7, m_le8, cmp_eq_int, cmp_ne_int, cmp_eq_bl, cmp_ne_bl, cmp_lt_int, cmp_le_int, cmp_gt_int, cmp_ge_int, cmp_isN, cmp_notN, cmp_inn, op_add, op_sub, op_mul, op_fdiv, op_mod, op_pow, cellI_zero, cellI_succ, cellI_lent, noOw, wipeC, backC, truth, bool?, int?, items?, vals?, ixF, biF, isTy, isNon, lentOf, avCells, putBack, outs, lentC, a1, a3]
    have s3 : exS (callF prog (n + 1)) (nthS 3 slb) [.fz (rl p q m), .fz (.int p), .fz (.int q), .fz (.int m), .fz (.int 1), .fz (.int (q * q - p * p)), .fz (.int (q * q))] = some (.nx [.fz (rl p q m), .fz (.int p), .fz (.int q), .fz (.int m), .fz (.int (d : Nat)), .fz (.int (wk p q d - p ^ (d + 1))), .fz (.int (q ^ (d + 1)))]) := by
      refine exS_isWhl _ rfl ?_
      have z := whileS_to (test := evT (callF prog (n + 1)) (whT (nthS 3 slb))) (step := exSs (callF prog (n + 1)) (forBd (nthS 3 slb))) (fun i => [.fz (rl p q m), .fz (.int p), .fz (.int q), .fz (.int m), .fz (.int ((i : Nat) + 1)), .fz (.int (wk p q (i + 1) - p ^ (i + 2))), .fz (.int (q ^ (i + 2)))]) (d - 1) (fun i hi => by
          by_cases hi1 : i = 0
          · subst hi1
            simp [whT, nthS, slb, d_steady_lap, evE_var, evE_cst, evE_lit, evE_bin, evE_neg, evE_not, evE_and, evE_or, evE_ife, evE_cmp, evE_chn, evE_tup, evE_ix, evE_sl, evE_call, evE_bi, evE_isi, evE_fr, evE_oix, evE_olen, evE_otup, evE_calO, evAs_nil, evAs_e, evAs_st, evAs_ln, evP_no, evP_so, evF_no, evF_so, evO_dis, evO_lc, evO_lis, evO_cat, evO_rep, evO_sl, evO_osl, evO_call, evO_mv, evO_orr, evI_it, evI_r1, evI_r2, evI_en, evI_zp, exS_asg, exS_par2, exS_par3, exS_own, exS_app, exS_set, exS_exp, exS_ret, exS_retO, exS_ife, exS_whl, exS_for_, exS_never, exS_frz, exSs_nil, exSs_cons, runDef, evT_eq, bd_some, bd_none, mpo_some, mpo_none, callV_eq, forG_eq, lcG_eq, getZ, getO, setT, putC, updO, isLent_un, isLent_fz, isLent_ow, isMine_un, isMine_fz, isMine_ow, isOw_un, isOw_fz, isOw_ow, lastI_succ, lastI_lent, lastI_ow, at_0, at_1, at_2, m_lt0, m_le1, m_le2, m_le3, m_le4, m_le5, m_le6, m_le7, m_le8, cmp_eq_int, cmp_ne_int, cmp_eq_bl, cmp_ne_bl, cmp_lt_int, cmp_le_int, cmp_gt_int, cmp_ge_int, cmp_isN, cmp_notN, cmp_inn, op_add, op_sub, op_mul, op_fdiv, op_mod, op_pow, cellI_zero, cellI_succ, cellI_lent, noOw, wipeC, backC, truth, bool?, int?, items?, vals?, ixF, biF, isTy, isNon, lentOf, avCells, putBack, outs, lentC]
          · have hlt := hj (i + 1) (by omega) (by omega)
            have hn : ¬ ((i : Int) + 1 < 2) := by omega
            have hl : wk p q (i + 1) - p ^ (i + 2) < 0 := by
              have : p ^ (i + 1 + 1) = p ^ (i + 2) := rfl
              omega
            simp [whT, nthS, slb, d_steady_lap, evE_var, evE_cst, evE_lit, evE_bin, evE_neg, evE_not, evE_and, evE_or, evE_ife, evE_cmp, evE_chn, evE_tup, evE_ix, evE_sl, evE_call, evE_bi, evE_isi, evE_fr, evE_oix, evE_olen, evE_otup, evE_calO, evAs_nil, evAs_e, evAs_st, evAs_ln, evP_no, evP_so, evF_no, evF_so, evO_dis, evO_lc, evO_lis, evO_cat, evO_rep, evO_sl, evO_osl, evO_call, evO_mv, evO_orr, evI_it, evI_r1, evI_r2, evI_en, evI_zp, exS_asg, exS_par2, exS_par3, exS_own, exS_app, exS_set, exS_exp, exS_ret, exS_retO, exS_ife, exS_whl, exS_for_, exS_never, exS_frz, exSs_nil, exSs_cons, runDef, evT_eq, bd_some, bd_none, mpo_some, mpo_none, callV_eq, forG_eq, lcG_eq, getZ, getO, setT, putC, updO, isLent_un, isLent_fz, isLent_ow, isMine_un, isMine_fz, isMine_ow, isOw_un, isOw_fz, isOw_ow, lastI_succ, lastI_lent, lastI_ow, at_0, at_1, at_2, m_lt0, m_le1, m_le2, m_le3, m_le4, m_le5, m_le6, m_le7, m_le8, cmp_eq_int, cmp_ne_int, cmp_eq_bl, cmp_ne_bl, cmp_lt_int, cmp_le_int, cmp_gt_int, cmp_ge_int, cmp_isN, cmp_notN, cmp_inn, op_add, op_sub, op_mul, op_fdiv, op_mod, op_pow, cellI_zero, cellI_succ, cellI_lent, noOw, wipeC, backC, truth, bool?, int?, items?, vals?, ixF, biF, isTy, isNon, lentOf, avCells, putBack, outs, lentC, hn, hl]) (fun i hi => by
          have e1 : q ^ (i + 2) * q = q ^ (i + 1 + 2) := (Int.pow_succ q (i + 2)).symm
          have e2 : q ^ (i + 1 + 2) + p * (wk p q (i + 1) - p ^ (i + 2)) = wk p q (i + 1 + 1) - p ^ (i + 1 + 2) := by
            have ew : wk p q (i + 1 + 1) = q ^ (i + 1 + 2) + p * wk p q (i + 1) := rfl
            have ep : p * p ^ (i + 2) = p ^ (i + 1 + 2) := by rw [Int.mul_comm, ← Int.pow_succ]
            rw [ew, Int.mul_sub, ep]
            omega
          simp [forBd, nthS, slb, d_steady_lap, evE_var, evE_cst, evE_lit, evE_bin, evE_neg, evE_not, evE_and, evE_or, evE_ife, evE_cmp, evE_chn, evE_tup, evE_ix, evE_sl, evE_call, evE_bi, evE_isi, evE_fr, evE_oix, evE_olen, evE_otup, evE_calO, evAs_nil, evAs_e, evAs_st, evAs_ln, evP_no, evP_so, evF_no, evF_so, evO_dis, evO_lc, evO_lis, evO_cat, evO_rep, evO_sl, evO_osl, evO_call, evO_mv, evO_orr, evI_it, evI_r1, evI_r2, evI_en, evI_zp, exS_asg, exS_par2, exS_par3, exS_own, exS_app, exS_set, exS_exp, exS_ret, exS_retO, exS_ife, exS_whl, exS_for_, exS_never, exS_frz, exSs_nil, exSs_cons, runDef, evT_eq, bd_some, bd_none, mpo_some, mpo_none, callV_eq, forG_eq, lcG_eq, getZ, getO, setT, putC, updO, isLent_un, isLent_fz, isLent_ow, isMine_un, isMine_fz, isMine_ow, isOw_un, isOw_fz, isOw_ow, lastI_succ, lastI_lent, lastI_ow, at_0, at_1, at_2, m_lt0, m_le1, m_le2, m_le3, m_le4, m_le5, m_le6, m_le7, m_le8, cmp_eq_int, cmp_ne_int, cmp_eq_bl, cmp_ne_bl, cmp_lt_int, cmp_le_int, cmp_gt_int, cmp_ge_int, cmp_isN, cmp_notN, cmp_inn, op_add, op_sub, op_mul, op_fdiv, op_mod, op_pow, cellI_zero, cellI_succ, cellI_lent, noOw, wipeC, backC, truth, bool?, int?, items?, vals?, ixF, biF, isTy, isNon, lentOf, avCells, putBack, outs, lentC, a4, a5, e1, e2]) (by
          have hn : ¬ (((d - 1 : Nat) : Int) + 1 < 2) := by omega
          have ed : d - 1 + 1 = d := by omega
          have ed2 : d - 1 + 2 = d + 1 := by omega
          have hl : ¬ (wk p q d - p ^ (d + 1) < 0) := by omega
          simp only [ed, ed2]
          simp [whT, nthS, slb, d_steady_lap, evE_var, evE_cst, evE_lit, evE_bin, evE_neg, evE_not, evE_and, evE_or, evE_ife, evE_cmp, evE_chn, evE_tup, evE_ix, evE_sl, evE_call, evE_bi, evE_isi, evE_fr, evE_oix, evE_olen, evE_otup, evE_calO, evAs_nil, evAs_e, evAs_st, evAs_ln, evP_no, evP_so, evF_no, evF_so, evO_dis, evO_lc, evO_lis, evO_cat, evO_rep, evO_sl, evO_osl, evO_call, evO_mv, evO_orr, evI_it, evI_r1, evI_r2, evI_en, evI_zp, exS_asg, exS_par2, exS_par3, exS_own, exS_app, exS_set, exS_exp, exS_ret, exS_retO, exS_ife, exS_whl, exS_for_, exS_never, exS_frz, exSs_nil, exSs_cons, runDef, evT_eq, bd_some, bd_none, mpo_some, mpo_none, callV_eq, forG_eq, lcG_eq, getZ, getO, setT, putC, updO, isLent_un, isLent_fz, isLent_ow, isMine_un, isMine_fz, isMine_ow, isOw_un, isOw_fz, isOw_ow, lastI_succ, lastI_lent, lastI_ow, at_0, at_1, at_2, m_lt0, m_le1, m_le2, m_le3, m_le4, m_le5, m_le6, m_le7, m_le8, cmp_eq_int, cmp_ne_int, cmp_eq_bl, cmp_ne_bl, cmp_lt_int, cmp_le_int, cmp_gt_int, cmp_ge_int, cmp_isN, cmp_notN, cmp_inn, op_add, op_sub, op_mul, op_fdiv, op_mod, op_pow, cellI_zero, cellI_succ, cellI_lent, noOw, wipeC, backC, truth, bool?, int?, items?, vals?, ixF, biF, isTy, isNon, lentOf, avCells, putBack, outs, lentC, hn, hl]) fuel 0 (by omega) (by unfold fuel; omega)
      have ed : d - 1 + 1 = d := by omega
      have ed2 : d - 1 + 2 = d + 1 := by omega
      have ed3 : (((d - 1 : Nat) : Int) + 1) = (d : Int) := by omega
      simp only [ed, ed2, ed3] at z
      have w1 : wk p q (0 + 1) - p ^ (0 + 2) = q * q - p * p := by
        show q ^ 2 + p * 0 - p ^ 2 = _
        rw [Int.pow_succ, Int.pow_succ, Int.pow_succ, Int.pow_succ]
        simp
      have w2 : q ^ (0 + 2) = q * q := by
        show q ^ 2 = _
        rw [Int.pow_succ, Int.pow_succ]
        simp
      have w3 : (((0 : Nat) : Int) + 1) = 1 := rfl
      simp only [w1, w2, w3] at z
      exact z
    show (exSs (callF prog (n + 1)) (dropS 0 slb) [.fz (rl p q m), .un, .un, .un, .un, .un, .un]).mpo _ = _
    rw [exSs_nth 0 rfl s0, exSs_nth 1 rfl s1, exSs_nth 2 rfl s2, exSs_nth 3 rfl s3]
    simp [dropS, slb, d_steady_lap, evE_var, evE_cst, evE_lit, evE_bin, evE_neg, evE_not, evE_and, evE_or, evE_ife, evE_cmp, evE_chn, evE_tup, evE_ix, evE_sl, evE_call, evE_bi, evE_isi, evE_fr, evE_oix, evE_olen, evE_otup, evE_calO, evAs_nil, evAs_e, evAs_st, evAs_ln, evP_no, evP_so, evF_no, evF_so, evO_dis, evO_lc, evO_lis, evO_cat, evO_rep, evO_sl, evO_osl, evO_call, evO_mv, evO_orr, evI_it, evI_r1, evI_r2, evI_en, evI_zp, exS_asg, exS_par2, exS_par3, exS_own, exS_app, exS_set, exS_exp, exS_ret, exS_retO, exS_ife, exS_whl, exS_for_, exS_never, exS_frz, exSs_nil, exSs_cons, runDef, evT_eq, bd_some, bd_none, mpo_some, mpo_none, callV_eq, forG_eq, lcG_eq, getZ, getO, setT, putC, updO, isLent_un, isLent_fz, isLent_ow, isMine_un, isMine_fz, isMine_ow, isOw_un, isOw_fz, isOw_ow, lastI_succ, lastI_lent, lastI_ow, at_0, at_1, at_2, m_lt0, m_le1, m_le2, m_le3, m_le4, m_le5, m_le6, m_le7, m_le8, cmp_eq_int, cmp_ne_int, cmp_eq_bl, cmp_ne_bl, cmp_lt_int, cmp_le_int, cmp_gt_int, cmp_ge_int, cmp_isN, cmp_notN, cmp_inn, op_add, op_sub, op_mul, op_fdiv, op_mod, op_pow, cellI_zero, cellI_succ, cellI_lent, noOw, wipeC, backC, truth, bool?, int?, items?, vals?, ixF, biF, isTy, isNon, lentOf, avCells, putBack, outs, lentC, retOf, stD]
  · rw [stl_none (by omega)]
    rw [decide_eq_false h] at e1
    simp [d_steady_lap, retOf, evE_var, evE_cst, evE_lit, evE_bin, evE_neg, evE_not, evE_and, evE_or, evE_ife, evE_cmp, evE_chn, evE_tup, evE_ix, evE_sl, evE_call, evE_bi, evE_isi, evE_fr, evE_oix, evE_olen, evE_otup, evE_calO, evAs_nil, evAs_e, evAs_st, evAs_ln, evP_no, evP_so, evF_no, evF_so, evO_dis, evO_lc, evO_lis, evO_cat, evO_rep, evO_sl, evO_osl, evO_call, evO_mv, evO_orr, evI_it, evI_r1, evI_r2, evI_en, evI_zp, exS_asg, exS_par2, exS_par3, exS_own, exS_app, exS_set, exS_exp, exS_ret, exS_retO, exS_ife, exS_whl, exS_for_, exS_never, exS_frz, exSs_nil, exSs_cons, runDef, evT_eq, bd_some, bd_none, mpo_some, mpo_none, callV_eq, forG_eq, lcG_eq, getZ, getO, setT, putC, updO, isLent_un, isLent_fz, isLent_ow, isMine_un, isMine_fz, isMine_ow, isOw_un, isOw_fz, isOw_ow, lastI_succ, lastI_lent, lastI_ow, at_0, at_1, at_2, m_lt0, m_le1, m_le2, m_le3, m_le4, m_le5, m_le6, m_le7, m_le8, cmp_eq_int, cmp_ne_int, cmp_eq_bl, cmp_ne_bl, cmp_lt_int, cmp_le_int, cmp_gt_int, cmp_ge_int, cmp_isN, cmp_notN, cmp_inn, op_add, op_sub, op_mul, op_fdiv, op_mod, op_pow, cellI_zero, cellI_succ, cellI_lent, noOw, wipeC, backC, truth, bool?, int?, items?, vals?, ixF, biF, isTy, isNon, lentOf, avCells, putBack, outs, lentC, e1, stD]
def fbb : Ss := d_first_back.body
def fbD (r : R) : Option Nat → Da
  | none => .non
  | some k => .tup [.int (k : Nat), .int (r.sz (k + 1))]
def fbC (r : R) (i : Nat) : L := [.fz (rl r.p r.q r.m), .fz (.int r.s), .fz (.int r.p), .fz (.int r.q), .fz (.int r.m), .fz (.int (r.p * r.p - r.p * r.q - r.q * r.q)), .fz (.int (r.sz i)), .fz (.int (r.S i)), .fz (.int (i : Nat)), .fz (.int (r.sz (i + 1)))]
theorem first_back {r : R} (d : r.Dom) (hp : r.p ≤ 20) (hm : r.m ≤ 10) : ∃ o : Option Nat, (∀ k, o = some k → r.FB k ∧ k < 1000) ∧ (o = none → r.p * r.q + r.q * r.q < r.p * r.p) ∧ ∀ n, callF prog (n + 2) 13 [.fz (rl r.p r.q r.m), .fz (.int r.s)] = some (.fz (fbD r o), [.fz (rl r.p r.q r.m), .fz (.int r.s)]) := by
  have ok := d.ok
  obtain ⟨sp, hsp⟩ : ∃ sp, sp = r.p * r.p - r.p * r.q - r.q * r.q := ⟨_, rfl⟩
  have a1 := ok.mul r.p
  have a2 := ok.mul r.q
  have a3 : mulOk r.q r.q = true := mul_l (sm_of (by have := ok.q0; omega) (by have := ok.q1; omega))
  have q1 := d.q1
  have qp := d.qp
  have hspb : -1000 < sp ∧ sp < 1000 := by
    have b1 : r.p * r.p ≤ 20 * 20 := Int.mul_le_mul hp hp (by omega) (by omega)
    have b2 : r.p * r.q ≤ 20 * 20 := Int.mul_le_mul hp (by omega) (by omega) (by omega)
    have b3 : r.q * r.q ≤ 20 * 20 := Int.mul_le_mul (by omega) (by omega) (by omega) (by omega)
    have b4 : 0 ≤ r.p * r.q := Int.mul_nonneg (by omega) (by omega)
    have b5 : 0 ≤ r.q * r.q := Int.mul_nonneg (by omega) (by omega)
    have b6 : 0 ≤ r.p * r.p := Int.mul_nonneg (by omega) (by omega)
    omega
  have a4 : ∀ x, mulOk x sp = true := fun x => mul_r (sm_of (by omega) (by omega))
  have a5 : ∀ x, mulOk r.p x = true := fun x => mul_l (sm_of (by omega) (by omega))
  have st : ∀ n, exSs (callF prog (n + 1)) (dropS 0 fbb) [.fz (rl r.p r.q r.m), .fz (.int r.s), .un, .un, .un, .un, .un, .un, .un, .un] = exSs (callF prog (n + 1)) (dropS 4 fbb) (fbC r 0) := fun n => by
    have e1 := next_size (n := n) (m := r.m) (s := r.s) ok
    have s0 : exS (callF prog (n + 1)) (nthS 0 fbb) [.fz (rl r.p r.q r.m), .fz (.int r.s), .un, .un, .un, .un, .un, .un, .un, .un] = some (.nx [.fz (rl r.p r.q r.m), .fz (.int r.s), .fz (.int r.p), .fz (.int r.q), .fz (.int r.m), .un, .un, .un, .un, .un]) := by
      simp [nthS, fbb, d_first_back, evE_var, evE_cst, evE_lit, evE_bin, evE_neg, evE_not, evE_and, evE_or, evE_ife, evE_cmp, evE_chn, evE_tup, evE_ix, evE_sl, evE_call, evE_bi, evE_isi, evE_fr, evE_oix, evE_olen, evE_otup, evE_calO, evAs_nil, evAs_e, evAs_st, evAs_ln, evP_no, evP_so, evF_no, evF_so, evO_dis, evO_lc, evO_lis, evO_cat, evO_rep, evO_sl, evO_osl, evO_call, evO_mv, evO_orr, evI_it, evI_r1, evI_r2, evI_en, evI_zp, exS_asg, exS_par2, exS_par3, exS_own, exS_app, exS_set, exS_exp, exS_ret, exS_retO, exS_ife, exS_whl, exS_for_, exS_never, exS_frz, exSs_nil, exSs_cons, runDef, evT_eq, bd_some, bd_none, mpo_some, mpo_none, callV_eq, forG_eq, lcG_eq, getZ, getO, setT, putC, updO, isLent_un, isLent_fz, isLent_ow, isMine_un, isMine_fz, isMine_ow, isOw_un, isOw_fz, isOw_ow, lastI_succ, lastI_lent, lastI_ow, at_0, at_1, at_2, m_lt0, m_le1, m_le2, m_le3, m_le4, m_le5, m_le6, m_le7, m_le8, cmp_eq_int, cmp_ne_int, cmp_eq_bl, cmp_ne_bl, cmp_lt_int, cmp_le_int, cmp_gt_int, cmp_ge_int, cmp_isN, cmp_notN, cmp_inn, op_add, op_sub, op_mul, op_fdiv, op_mod, op_pow, cellI_zero, cellI_succ, cellI_lent, noOw, wipeC, backC, truth, bool?, int?, items?, vals?, ixF, biF, isTy, isNon, lentOf, avCells, putBack, outs, lentC]
    have s1 : exS (callF prog (n + 1)) (nthS 1 fbb) [.fz (rl r.p r.q r.m), .fz (.int r.s), .fz (.int r.p), .fz (.int r.q), .fz (.int r.m), .un, .un, .un, .un, .un] = some (.nx [.fz (rl r.p r.q r.m), .fz (.int r.s), .fz (.int r.p), .fz (.int r.q), .fz (.int r.m), .fz (.int sp), .un, .un, .un, .un]) := by
      simp [nthS, fbb, d_first_back, evE_var, evE_cst, evE_lit, evE_bin, evE_neg, evE_not, evE_and, evE_or, evE_ife, evE_cmp, evE_chn, evE_tup, evE_ix, evE_sl, evE_call, evE_bi, evE_isi, evE_fr, evE_oix, evE_olen, evE_otup, evE_calO, evAs_nil, evAs_e, evAs_st, evAs_ln, evP_no, evP_so, evF_no, evF_so, evO_dis, evO_lc, evO_lis, evO_cat, evO_rep, evO_sl, evO_osl, evO_call, evO_mv, evO_orr, evI_it, evI_r1, evI_r2, evI_en, evI_zp, exS_asg, exS_par2, exS_par3, exS_own, exS_app, exS_set, exS_exp, exS_ret, exS_retO, exS_ife, exS_whl, exS_for_, exS_never, exS_frz, exSs_nil, exSs_cons, runDef, evT_eq, bd_some, bd_none, mpo_some, mpo_none, callV_eq, forG_eq, lcG_eq, getZ, getO, setT, putC, updO, isLent_un, isLent_fz, isLent_ow, isMine_un, isMine_fz, isMine_ow, isOw_un, isOw_fz, isOw_ow, lastI_succ, lastI_lent, lastI_ow, at_0, at_1, at_2, m_lt0, m_le1, m_le2, m_le3, m_le4, m_le5, m_le6, m_le7, m_le8, cmp_eq_int, cmp_ne_int, cmp_eq_bl, cmp_ne_bl, cmp_lt_int, cmp_le_int, cmp_gt_int, cmp_ge_int, cmp_isN, cmp_notN, cmp_inn, op_add, op_sub, op_mul, op_fdiv, op_mod, op_pow, cellI_zero, cellI_succ, cellI_lent, noOw, wipeC, backC, truth, bool?, int?, items?, vals?, ixF, biF, isTy, isNon, lentOf, avCells, putBack, outs, lentC, a1, a2, a3, ← hsp]
    have s2 : exS (callF prog (n + 1)) (nthS 2 fbb) [.fz (rl r.p r.q r.m), .fz (.int r.s), .fz (.int r.p), .fz (.int r.q), .fz (.int r.m), .fz (.int sp), .un, .un, .un, .un] = some (.nx [.fz (rl r.p r.q r.m), .fz (.int r.s), .fz (.int r.p), .fz (.int r.q), .fz (.int r.m), .fz (.int sp), .fz (.int r.s), .fz (.int 0), .fz (.int 0), .un]) := by
      simp [nthS, fbb, d_first_back, evE_var, evE_cst, evE_lit, evE_bin, evE_neg, evE_not, evE_and, evE_or, evE_ife, evE_cmp, evE_chn, evE_tup, evE_ix, evE_sl, evE_call, evE_bi, evE_isi, evE_fr, evE_oix, evE_olen, evE_otup, evE_calO, evAs_nil, evAs_e, evAs_st, evAs_ln, evP_no, evP_so, evF_no, evF_so, evO_dis, evO_lc, evO_lis, evO_cat, evO_rep, evO_sl, evO_osl, evO_call, evO_mv, evO_orr, evI_it, evI_r1, evI_r2, evI_en, evI_zp, exS_asg, exS_par2, exS_par3, exS_own, exS_app, exS_set, exS_exp, exS_ret, exS_retO, exS_ife, exS_whl, exS_for_, exS_never, exS_frz, exSs_nil, exSs_cons, runDef, evT_eq, bd_some, bd_none, mpo_some, mpo_none, callV_eq, forG_eq, lcG_eq, getZ, getO, setT, putC, updO, isLent_un, isLent_fz, isLent_ow, isMine_un, isMine_fz, isMine_ow, isOw_un, isOw_fz, isOw_ow, lastI_succ, lastI_lent, lastI_ow, at_0, at_1, at_2, m_lt0, m_le1, m_le2, m_le3, m_le4, m_le5, m_le6, m_le7, m_le8, cmp_eq_int, cmp_ne_int, cmp_eq_bl, cmp_ne_bl, cmp_lt_int, cmp_le_int, cmp_gt_int, cmp_ge_int, cmp_isN, cmp_notN, cmp_inn, op_add, op_sub, op_mul, op_fdiv, op_mod, op_pow, cellI_zero, cellI_succ, cellI_lent, noOw, wipeC, backC, truth, bool?, int?, items?, vals?, ixF, biF, isTy, isNon, lentOf, avCells, putBack, outs, lentC]
    have s3 : exS (callF prog (n + 1)) (nthS 3 fbb) [.fz (rl r.p r.q r.m), .fz (.int r.s), .fz (.int r.p), .fz (.int r.q), .fz (.int r.m), .fz (.int sp), .fz (.int r.s), .fz (.int 0), .fz (.int 0), .un] = some (.nx (fbC r 0)) := by
      have ec : fbC r 0 = [.fz (rl r.p r.q r.m), .fz (.int r.s), .fz (.int r.p), .fz (.int r.q), .fz (.int r.m), .fz (.int sp), .fz (.int r.s), .fz (.int 0), .fz (.int 0), .fz (.int (nx r.p r.q r.m r.s))] := by unfold fbC; rw [← hsp]; rfl
      rw [ec]
      simp [nthS, fbb, d_first_back, evE_var, evE_cst, evE_lit, evE_bin, evE_neg, evE_not, evE_and, evE_or, evE_ife, evE_cmp, evE_chn, evE_tup, evE_ix, evE_sl, evE_call, evE_bi, evE_isi, evE_fr, evE_oix, evE_olen, evE_otup, evE_calO, evAs_nil, evAs_e, evAs_st, evAs_ln, evP_no, evP_so, evF_no, evF_so, evO_dis, evO_lc, evO_lis, evO_cat, evO_rep, evO_sl, evO_osl, evO_call, evO_mv, evO_orr, evI_it, evI_r1, evI_r2, evI_en, evI_zp, exS_asg, exS_par2, exS_par3, exS_own, exS_app, exS_set, exS_exp, exS_ret, exS_retO, exS_ife, exS_whl, exS_for_, exS_never, exS_frz, exSs_nil, exSs_cons, runDef, evT_eq, bd_some, bd_none, mpo_some, mpo_none, callV_eq, forG_eq, lcG_eq, getZ, getO, setT, putC, updO, isLent_un, isLent_fz, isLent_ow, isMine_un, isMine_fz, isMine_ow, isOw_un, isOw_fz, isOw_ow, lastI_succ, lastI_lent, lastI_ow, at_0, at_1, at_2, m_lt0, m_le1, m_le2, m_le3, m_le4, m_le5, m_le6, m_le7, m_le8, cmp_eq_int, cmp_ne_int, cmp_eq_bl, cmp_ne_bl, cmp_lt_int, cmp_le_int, cmp_gt_int, cmp_ge_int, cmp_isN, cmp_notN, cmp_inn, op_add, op_sub, op_mul, op_fdiv, op_mod, op_pow, cellI_zero, cellI_succ, cellI_lent, noOw, wipeC, backC, truth, bool?, int?, items?, vals?, ixF, biF, isTy, isNon, lentOf, avCells, putBack, outs, lentC, e1]
    exact ((exSs_nth 0 rfl s0).trans ((exSs_nth 1 rfl s1).trans ((exSs_nth 2 rfl s2).trans (exSs_nth 3 rfl s3))))
  have te : ∀ n i, r.S i < r.sz (i + 1) → evT (callF prog (n + 1)) (whT (nthS 4 fbb)) (fbC r i) = some (true, fbC r i) := fun n i h => by
    simp [whT, nthS, fbb, d_first_back, fbC, evE_var, evE_cst, evE_lit, evE_bin, evE_neg, evE_not, evE_and, evE_or, evE_ife, evE_cmp, evE_chn, evE_tup, evE_ix, evE_sl, evE_call, evE_bi, evE_isi, evE_fr, evE_oix, evE_olen, evE_otup, evE_calO, evAs_nil, evAs_e, evAs_st, evAs_ln, evP_no, evP_so, evF_no, evF_so, evO_dis, evO_lc, evO_lis, evO_cat, evO_rep, evO_sl, evO_osl, evO_call, evO_mv, evO_orr, evI_it, evI_r1, evI_r2, evI_en, evI_zp, exS_asg, exS_par2, exS_par3, exS_own, exS_app, exS_set, exS_exp, exS_ret, exS_retO, exS_ife, exS_whl, exS_for_, exS_never, exS_frz, exSs_nil, exSs_cons, runDef, evT_eq, bd_some, bd_none, mpo_some, mpo_none, callV_eq, forG_eq, lcG_eq, getZ, getO, setT, putC, updO, isLent_un, isLent_fz, isLent_ow, isMine_un, isMine_fz, isMine_ow, isOw_un, isOw_fz, isOw_ow, lastI_succ, lastI_lent, lastI_ow, at_0, at_1, at_2, m_lt0, m_le1, m_le2, m_le3, m_le4, m_le5, m_le6, m_le7, m_le8, cmp_eq_int, cmp_ne_int, cmp_eq_bl, cmp_ne_bl, cmp_lt_int, cmp_le_int, cmp_gt_int, cmp_ge_int, cmp_isN, cmp_notN, cmp_inn, op_add, op_sub, op_mul, op_fdiv, op_mod, op_pow, cellI_zero, cellI_succ, cellI_lent, noOw, wipeC, backC, truth, bool?, int?, items?, vals?, ixF, biF, isTy, isNon, lentOf, avCells, putBack, outs, lentC, h]
  have ste : ∀ n i, ¬ (0 < sp ∧ (0 < r.m ∨ r.p * (r.q - 1) ≤ r.sz i * sp)) → exSs (callF prog (n + 1)) (forBd (nthS 4 fbb)) (fbC r i) = some (.nx (fbC r (i + 1))) := fun n i h => by
    have e2 := next_size (n := n) (m := r.m) (s := r.sz (i + 1)) ok
    have e3 : nx r.p r.q r.m (r.sz (i + 1)) = r.sz (i + 1 + 1) := rfl
    have e4 : r.S i + r.sz i = r.S (i + 1) := rfl
    by_cases c1 : 0 < sp
    · by_cases c2 : 0 < r.m
      · exact absurd ⟨c1, .inl c2⟩ h
      · by_cases c3 : r.p * (r.q - 1) ≤ r.sz i * sp
        · exact absurd ⟨c1, .inr c3⟩ h
        · simp [forBd, nthS, fbb, d_first_back, fbC, evE_var, evE_cst, evE_lit, evE_bin, evE_neg, evE_not, evE_and, evE_or, evE_ife, evE_cmp, evE_chn, evE_tup, evE_ix, evE_sl, evE_call, evE_bi, evE_isi, evE_fr, evE_oix, evE_olen, evE_otup, evE_calO, evAs_nil, evAs_e, evAs_st, evAs_ln, evP_no, evP_so, evF_no, evF_so, evO_dis, evO_lc, evO_lis, evO_cat, evO_rep, evO_sl, evO_osl, evO_call, evO_mv, evO_orr, evI_it, evI_r1, evI_r2, evI_en, evI_zp, exS_asg, exS_par2, exS_par3, exS_own, exS_app, exS_set, exS_exp, exS_ret, exS_retO, exS_ife, exS_whl, exS_for_, exS_never, exS_frz, exSs_nil, exSs_cons, runDef, evT_eq, bd_some, bd_none, mpo_some, mpo_none, callV_eq, forG_eq, lcG_eq, getZ, getO, setT, putC, updO, isLent_un, isLent_fz, isLent_ow, isMine_un, isMine_fz, isMine_ow, isOw_un, isOw_fz, isOw_ow, lastI_succ, lastI_lent, lastI_ow, at_0, at_1, at_2, m_lt0, m_le1, m_le2, m_le3, m_le4, m_le5, m_le6, m_le7, m_le8, cmp_eq_int, cmp_ne_int, cmp_eq_bl, cmp_ne_bl, cmp_lt_int, cmp_le_int, cmp_gt_int, cmp_ge_int, cmp_isN, cmp_notN, cmp_inn, op_add, op_sub, op_mul, op_fdiv, op_mod, op_pow, cellI_zero, cellI_succ, cellI_lent, noOw, wipeC, backC, truth, bool?, int?, items?, vals?, ixF, biF, isTy, isNon, lentOf, avCells, putBack, outs, lentC, ← hsp, c1, c2, c3, a4, a5, e2, e3, e4]
    · simp [forBd, nthS, fbb, d_first_back, fbC, evE_var, evE_cst, evE_lit, evE_bin, evE_neg, evE_not, evE_and, evE_or, evE_ife, evE_cmp, evE_chn, evE_tup, evE_ix, evE_sl, evE_call, evE_bi, evE_isi, evE_fr, evE_oix, evE_olen, evE_otup, evE_calO, evAs_nil, evAs_e, evAs_st, evAs_ln, evP_no, evP_so, evF_no, evF_so, evO_dis, evO_lc, evO_lis, evO_cat, evO_rep, evO_sl, evO_osl, evO_call, evO_mv, evO_orr, evI_it, evI_r1, evI_r2, evI_en, evI_zp, exS_asg, exS_par2, exS_par3, exS_own, exS_app, exS_set, exS_exp, exS_ret, exS_retO, exS_ife, exS_whl, exS_for_, exS_never, exS_frz, exSs_nil, exSs_cons, runDef, evT_eq, bd_some, bd_none, mpo_some, mpo_none, callV_eq, forG_eq, lcG_eq, getZ, getO, setT, putC, updO, isLent_un, isLent_fz, isLent_ow, isMine_un, isMine_fz, isMine_ow, isOw_un, isOw_fz, isOw_ow, lastI_succ, lastI_lent, lastI_ow, at_0, at_1, at_2, m_lt0, m_le1, m_le2, m_le3, m_le4, m_le5, m_le6, m_le7, m_le8, cmp_eq_int, cmp_ne_int, cmp_eq_bl, cmp_ne_bl, cmp_lt_int, cmp_le_int, cmp_gt_int, cmp_ge_int, cmp_isN, cmp_notN, cmp_inn, op_add, op_sub, op_mul, op_fdiv, op_mod, op_pow, cellI_zero, cellI_succ, cellI_lent, noOw, wipeC, backC, truth, bool?, int?, items?, vals?, ixF, biF, isTy, isNon, lentOf, avCells, putBack, outs, lentC, ← hsp, c1, e2, e3, e4]
  have stn : ∀ n i, (0 < sp ∧ (0 < r.m ∨ r.p * (r.q - 1) ≤ r.sz i * sp)) → exSs (callF prog (n + 1)) (forBd (nthS 4 fbb)) (fbC r i) = some (.rt (.fz .non) (fbC r i)) := fun n i h => by
    obtain ⟨c1, h⟩ := h
    by_cases c2 : 0 < r.m
    · simp [forBd, nthS, fbb, d_first_back, fbC, evE_var, evE_cst, evE_lit, evE_bin, evE_neg, evE_not, evE_and, evE_or, evE_ife, evE_cmp, evE_chn, evE_tup, evE_ix, evE_sl, evE_call, evE_bi, evE_isi, evE_fr, evE_oix, evE_olen, evE_otup, evE_calO, evAs_nil, evAs_e, evAs_st, evAs_ln, evP_no, evP_so, evF_no, evF_so, evO_dis, evO_lc, evO_lis, evO_cat, evO_rep, evO_sl, evO_osl, evO_call, evO_mv, evO_orr, evI_it, evI_r1, evI_r2, evI_en, evI_zp, exS_asg, exS_par2, exS_par3, exS_own, exS_app, exS_set, exS_exp, exS_ret, exS_retO, exS_ife, exS_whl, exS_for_, exS_never, exS_frz, exSs_nil, exSs_cons, runDef, evT_eq, bd_some, bd_none, mpo_some, mpo_none, callV_eq, forG_eq, lcG_eq, getZ, getO, setT, putC, updO, isLent_un, isLent_fz, isLent_ow, isMine_un, isMine_fz, isMine_ow, isOw_un, isOw_fz, isOw_ow, lastI_succ, lastI_lent, lastI_ow, at_0, at_1, at_2, m_lt0, m_le1, m_le2, m_le3, m_le4, m_le5, m_le6, m_le7, m_le8, cmp_eq_int, cmp_ne_int, cmp_eq_bl, cmp_ne_bl, cmp_lt_int, cmp_le_int, cmp_gt_int, cmp_ge_int, cmp_isN, cmp_notN, cmp_inn, op_add, op_sub, op_mul, op_fdiv, op_mod, op_pow, cellI_zero, cellI_succ, cellI_lent, noOw, wipeC, backC, truth, bool?, int?, items?, vals?, ixF, biF, isTy, isNon, lentOf, avCells, putBack, outs, lentC, ← hsp, c1, c2]
    · have c3 : r.p * (r.q - 1) ≤ r.sz i * sp := by rcases h with h | h; exact absurd h c2; exact h
      simp [forBd, nthS, fbb, d_first_back, fbC, evE_var, evE_cst, evE_lit, evE_bin, evE_neg, evE_not, evE_and, evE_or, evE_ife, evE_cmp, evE_chn, evE_tup, evE_ix, evE_sl, evE_call, evE_bi, evE_isi, evE_fr, evE_oix, evE_olen, evE_otup, evE_calO, evAs_nil, evAs_e, evAs_st, evAs_ln, evP_no, evP_so, evF_no, evF_so, evO_dis, evO_lc, evO_lis, evO_cat, evO_rep, evO_sl, evO_osl, evO_call, evO_mv, evO_orr, evI_it, evI_r1, evI_r2, evI_en, evI_zp, exS_asg, exS_par2, exS_par3, exS_own, exS_app, exS_set, exS_exp, exS_ret, exS_retO, exS_ife, exS_whl, exS_for_, exS_never, exS_frz, exSs_nil, exSs_cons, runDef, evT_eq, bd_some, bd_none, mpo_some, mpo_none, callV_eq, forG_eq, lcG_eq, getZ, getO, setT, putC, updO, isLent_un, isLent_fz, isLent_ow, isMine_un, isMine_fz, isMine_ow, isOw_un, isOw_fz, isOw_ow, lastI_succ, lastI_lent, lastI_ow, at_0, at_1, at_2, m_lt0, m_le1, m_le2, m_le3, m_le4, m_le5, m_le6, m_le7, m_le8, cmp_eq_int, cmp_ne_int, cmp_eq_bl, cmp_ne_bl, cmp_lt_int, cmp_le_int, cmp_gt_int, cmp_ge_int, cmp_isN, cmp_notN, cmp_inn, op_add, op_sub, op_mul, op_fdiv, op_mod, op_pow, cellI_zero, cellI_succ, cellI_lent, noOw, wipeC, backC, truth, bool?, int?, items?, vals?, ixF, biF, isTy, isNon, lentOf, avCells, putBack, outs, lentC, ← hsp, c1, c2, c3, a4, a5]
  have fin : ∀ k, r.FB k → k < 1000 → (∀ i, i < k → ¬ (0 < sp ∧ (0 < r.m ∨ r.p * (r.q - 1) ≤ r.sz i * sp))) → ∀ n, callF prog (n + 2) 13 [.fz (rl r.p r.q r.m), .fz (.int r.s)] = some (.fz (fbD r (some k)), [.fz (rl r.p r.q r.m), .fz (.int r.s)]) := fun k f hk hg n => by
    have s4 : exS (callF prog (n + 1)) (nthS 4 fbb) (fbC r 0) = some (.nx (fbC r k)) := by
      refine exS_isWhl _ rfl ?_
      refine whileS_to (fbC r) k (fun i hi => te n i (f.lt i hi)) (fun i hi => ste n i (hg i hi)) ?_ fuel 0 (by omega) (by unfold fuel; omega)
      have : ¬ r.S k < r.sz (k + 1) := by have := f.le; omega
      simp [whT, nthS, fbb, d_first_back, fbC, evE_var, evE_cst, evE_lit, evE_bin, evE_neg, evE_not, evE_and, evE_or, evE_ife, evE_cmp, evE_chn, evE_tup, evE_ix, evE_sl, evE_call, evE_bi, evE_isi, evE_fr, evE_oix, evE_olen, evE_otup, evE_calO, evAs_nil, evAs_e, evAs_st, evAs_ln, evP_no, evP_so, evF_no, evF_so, evO_dis, evO_lc, evO_lis, evO_cat, evO_rep, evO_sl, evO_osl, evO_call, evO_mv, evO_orr, evI_it, evI_r1, evI_r2, evI_en, evI_zp, exS_asg, exS_par2, exS_par3, exS_own, exS_app, exS_set, exS_exp, exS_ret, exS_retO, exS_ife, exS_whl, exS_for_, exS_never, exS_frz, exSs_nil, exSs_cons, runDef, evT_eq, bd_some, bd_none, mpo_some, mpo_none, callV_eq, forG_eq, lcG_eq, getZ, getO, setT, putC, updO, isLent_un, isLent_fz, isLent_ow, isMine_un, isMine_fz, isMine_ow, isOw_un, isOw_fz, isOw_ow, lastI_succ, lastI_lent, lastI_ow, at_0, at_1, at_2, m_lt0, m_le1, m_le2, m_le3, m_le4, m_le5, m_le6, m_le7, m_le8, cmp_eq_int, cmp_ne_int, cmp_eq_bl, cmp_ne_bl, cmp_lt_int, cmp_le_int, cmp_gt_int, cmp_ge_int, cmp_isN, cmp_notN, cmp_inn, op_add, op_sub, op_mul, op_fdiv, op_mod, op_pow, cellI_zero, cellI_succ, cellI_lent, noOw, wipeC, backC, truth, bool?, int?, items?, vals?, ixF, biF, isTy, isNon, lentOf, avCells, putBack, outs, lentC, this]
    rw [call_body (d := d_first_back) rfl rfl]
    show (exSs (callF prog (n + 1)) (dropS 0 fbb) [.fz (rl r.p r.q r.m), .fz (.int r.s), .un, .un, .un, .un, .un, .un, .un, .un]).mpo _ = _
    rw [st n, exSs_nth 4 rfl s4]
    simp [dropS, fbb, d_first_back, fbC, evE_var, evE_cst, evE_lit, evE_bin, evE_neg, evE_not, evE_and, evE_or, evE_ife, evE_cmp, evE_chn, evE_tup, evE_ix, evE_sl, evE_call, evE_bi, evE_isi, evE_fr, evE_oix, evE_olen, evE_otup, evE_calO, evAs_nil, evAs_e, evAs_st, evAs_ln, evP_no, evP_so, evF_no, evF_so, evO_dis, evO_lc, evO_lis, evO_cat, evO_rep, evO_sl, evO_osl, evO_call, evO_mv, evO_orr, evI_it, evI_r1, evI_r2, evI_en, evI_zp, exS_asg, exS_par2, exS_par3, exS_own, exS_app, exS_set, exS_exp, exS_ret, exS_retO, exS_ife, exS_whl, exS_for_, exS_never, exS_frz, exSs_nil, exSs_cons, runDef, evT_eq, bd_some, bd_none, mpo_some, mpo_none, callV_eq, forG_eq, lcG_eq, getZ, getO, setT, putC, updO, isLent_un, isLent_fz, isLent_ow, isMine_un, isMine_fz, isMine_ow, isOw_un, isOw_fz, isOw_ow, lastI_succ, lastI_lent, lastI_ow, at_0, at_1, at_2, m_lt0, m_le1, m_le2, m_le3, m_le4, m_le5, m_le6, m_le7, m_le8, cmp_eq_int, cmp_ne_int, cmp_eq_bl, cmp_ne_bl, cmp_lt_int, cmp_le_int, cmp_gt_int, cmp_ge_int, cmp_isN, cmp_notN, cmp_inn, op_add, op_sub, op_mul, op_fdiv, op_mod, op_pow, cellI_zero, cellI_succ, cellI_lent, noOw, wipeC, backC, truth, bool?, int?, items?, vals?, ixF, biF, isTy, isNon, lentOf, avCells, putBack, outs, lentC, retOf, fbD]
  by_cases hs : sp ≤ 0
  · obtain ⟨k, hk, f⟩ := d.back hp hm (by omega)
    exact ⟨some k, fun j hj => by cases hj; exact ⟨f, by omega⟩, (fun h => by cases h), fin k f (by omega) fun i _ h => by omega⟩
  · -- the border is passed
    have grow : ∀ i : Nat, (i : Int) + 1 ≤ r.sz i := by
      intro i
      induction i with
      | zero => have := d.s0; show (0 : Int) + 1 ≤ r.s; omega
      | succ i ih => have := d.szlt i; omega
    have hex : r.sz (400 + 1) ≤ r.S 400 ∨ (0 < r.m ∨ r.p * (r.q - 1) ≤ r.sz 400 * sp) := by
      refine .inr (.inr ?_)
      have g := grow 400
      have b1 : r.p * (r.q - 1) ≤ 20 * 20 := Int.mul_le_mul hp (by omega) (by omega) (by omega)
      have b2 : r.sz 400 * 1 ≤ r.sz 400 * sp := Int.mul_le_mul_of_nonneg_left (by omega) (by have := d.sz0 400; omega)
      have g' : (400 : Int) + 1 ≤ r.sz 400 := g
      omega
    obtain ⟨k, hk, h1, h2⟩ := least_nat (P := fun i => r.sz (i + 1) ≤ r.S i ∨ (0 < r.m ∨ r.p * (r.q - 1) ≤ r.sz i * sp)) (fun i => inferInstance) 400 hex
    have hlt : ∀ i, i < k → r.S i < r.sz (i + 1) := fun i hi => by
      have := h2 i hi
      apply Int.not_le.mp
      intro hh
      exact this (.inl hh)
    have hng : ∀ i, i < k → ¬ (0 < sp ∧ (0 < r.m ∨ r.p * (r.q - 1) ≤ r.sz i * sp)) := fun i hi h => h2 i hi (.inr h.2)
    by_cases hb : r.sz (k + 1) ≤ r.S k
    · exact ⟨some k, fun j hj => by cases hj; exact ⟨⟨hlt, hb⟩, by omega⟩, (fun h => by cases h), fin k ⟨hlt, hb⟩ (by omega) hng⟩
    · refine ⟨none, (fun j hj => by cases hj), fun _ => by omega, fun n => ?_⟩
      have hg : 0 < sp ∧ (0 < r.m ∨ r.p * (r.q - 1) ≤ r.sz k * sp) := ⟨by omega, by rcases h1 with h | h; exact absurd h hb; exact h⟩
      have s4 : exS (callF prog (n + 1)) (nthS 4 fbb) (fbC r 0) = some (.rt (.fz .non) (fbC r k)) := by
        refine exS_isWhl _ rfl ?_
        exact whileS_ret (fbC r) k (fun i hi => te n i (by
          by_cases e : i = k
          · subst e; omega
          · exact hlt i (by omega))) (fun i hi => ste n i (hng i hi)) (stn n k hg) fuel 0 (by omega) (by unfold fuel; omega)
      rw [call_body (d := d_first_back) rfl rfl]
      show (exSs (callF prog (n + 1)) (dropS 0 fbb) [.fz (rl r.p r.q r.m), .fz (.int r.s), .un, .un, .un, .un, .un, .un, .un, .un]).mpo _ = _
      rw [st n, exSs_ret 4 rfl s4]
      simp only [mpo_some, retOf]
      rw [outs_fz _ _ (by simp [isOw])]
      rfl
theorem lap {r : R} (d : r.Dom) (hp : r.p ≤ 20) (hm : r.m ≤ 10) : ∃ o : Option Nat, (∀ k, o = some k → r.FB k ∧ k < 1000) ∧ (o = none → r.p * r.q + r.q * r.q < r.p * r.p) ∧ ∀ n, callF prog (n + 4) 14 [.fz (rl r.p r.q r.m), .fz (.int r.s)] = some (.fz (stD o), [.fz (rl r.p r.q r.m), .fz (.int r.s)]) := by
  obtain ⟨o, h1, h2, e⟩ := first_back d hp hm
  refine ⟨o, h1, h2, fun n => ?_⟩
  have e1 := check_start (n := n) d.good
  have e2 := e (n + 1)
  rw [call_body (d := d_lap) rfl rfl]
  cases o with
  | none => simp [d_lap, retOf, e1, e2, fbD, stD, evE_var, evE_cst, evE_lit, evE_bin, evE_neg, evE_not, evE_and, evE_or, evE_ife, evE_cmp, evE_chn, evE_tup, evE_ix, evE_sl, evE_call, evE_bi, evE_isi, evE_fr, evE_oix, evE_olen, evE_otup, evE_calO, evAs_nil, evAs_e, evAs_st, evAs_ln, evP_no, evP_so, evF_no, evF_so, evO_dis, evO_lc, evO_lis, evO_cat, evO_rep, evO_sl, evO_osl, evO_call, evO_mv, evO_orr, evI_it, evI_r1, evI_r2, evI_en, evI_zp, exS_asg, exS_par2, exS_par3, exS_own, exS_app, exS_set, exS_exp, exS_ret, exS_retO, exS_ife, exS_whl, exS_for_, exS_never, exS_frz, exSs_nil, exSs_cons, runDef, evT_eq, bd_some, bd_none, mpo_some, mpo_none, callV_eq, forG_eq, lcG_eq, getZ, getO, setT, putC, updO, isLent_un, isLent_fz, isLent_ow, isMine_un, isMine_fz, isMine_ow, isOw_un, isOw_fz, isOw_ow, lastI_succ, lastI_lent, lastI_ow, at_0, at_1, at_2, m_lt0, m_le1, m_le2, m_le3, m_le4, m_le5, m_le6, m_le7, m_le8, cmp_eq_int, cmp_ne_int, cmp_eq_bl, cmp_ne_bl, cmp_lt_int, cmp_le_int, cmp_gt_int, cmp_ge_int, cmp_isN, cmp_notN, cmp_inn, op_add, op_sub, op_mul, op_fdiv, op_mod, op_pow, cellI_zero, cellI_succ, cellI_lent, noOw, wipeC, backC, truth, bool?, int?, items?, vals?, ixF, biF, isTy, isNon, lentOf, avCells, putBack, outs, lentC]
  | some k => simp [d_lap, retOf, e1, e2, fbD, stD, evE_var, evE_cst, evE_lit, evE_bin, evE_neg, evE_not, evE_and, evE_or, evE_ife, evE_cmp, evE_chn, evE_tup, evE_ix, evE_sl, evE_call, evE_bi, evE_isi, evE_fr, evE_oix, evE_olen, evE_otup, evE_calO, evAs_nil, evAs_e, evAs_st, evAs_ln, evP_no, evP_so, evF_no, evF_so, evO_dis, evO_lc, evO_lis, evO_cat, evO_rep, evO_sl, evO_osl, evO_call, evO_mv, evO_orr, evI_it, evI_r1, evI_r2, evI_en, evI_zp, exS_asg, exS_par2, exS_par3, exS_own, exS_app, exS_set, exS_exp, exS_ret, exS_retO, exS_ife, exS_whl, exS_for_, exS_never, exS_frz, exSs_nil, exSs_cons, runDef, evT_eq, bd_some, bd_none, mpo_some, mpo_none, callV_eq, forG_eq, lcG_eq, getZ, getO, setT, putC, updO, isLent_un, isLent_fz, isLent_ow, isMine_un, isMine_fz, isMine_ow, isOw_un, isOw_fz, isOw_ow, lastI_succ, lastI_lent, lastI_ow, at_0, at_1, at_2, m_lt0, m_le1, m_le2, m_le3, m_le4, m_le5, m_le6, m_le7, m_le8, cmp_eq_int, cmp_ne_int, cmp_eq_bl, cmp_ne_bl, cmp_lt_int, cmp_le_int, cmp_gt_int, cmp_ge_int, cmp_isN, cmp_notN, cmp_inn, op_add, op_sub, op_mul, op_fdiv, op_mod, op_pow, cellI_zero, cellI_succ, cellI_lent, noOw, wipeC, backC, truth, bool?, int?, items?, vals?, ixF, biF, isTy, isNon, lentOf, avCells, putBack, outs, lentC]
/-! what is drawn -/
def Tin (k : Int) (l : List Da) : Prop := ∃ a b c : Int, l = [.int a, .int b, .int c] ∧ 0 ≤ a ∧ 0 ≤ c ∧ c ≤ k
theorem take {n : Nat} {k t : Int} {l : List Da} (hl : Tin k l) (hk : k < 10000) (t0 : 0 < t) (t1 : t < 1073741824) :
    ∃ (r : Int) (l' : List Da), callF prog (n + 1) 30 [.ow false l, .fz (.int t)] = some (.fz (.int r), [.ow false l', .fz (.int t)]) ∧ Tin (k + 1) l' ∧ 0 ≤ r ∧ r < t := by
  obtain ⟨a, b, c, rfl, ha, hc0, hc⟩ := hl
  have ht := div_ok t0 t1
  have tn : ¬ t = 0 := by omega
  by_cases h : 0 < a
  · refine ⟨a.fmod t, [.int (a.fdiv t), .int b, .int c], ?_, ⟨_, _, _, rfl, Int.fdiv_nonneg ha (by omega), hc0, by omega⟩, (fmod_lt t0).1, (fmod_lt t0).2⟩
    rw [call_body (d := d_law_take) rfl rfl]
    simp [d_law_take, retOf, h, tn, ht, evE_var, evE_cst, evE_lit, evE_bin, evE_neg, evE_not, evE_and, evE_or, evE_ife, evE_cmp, evE_chn, evE_tup, evE_ix, evE_sl, evE_call, evE_bi, evE_isi, evE_fr, evE_oix, evE_olen, evE_otup, evE_calO, evAs_nil, evAs_e, evAs_st, evAs_ln, evP_no, evP_so, evF_no, evF_so, evO_dis, evO_lc, evO_lis, evO_cat, evO_rep, evO_sl, evO_osl, evO_call, evO_mv, evO_orr, evI_it, evI_r1, evI_r2, evI_en, evI_zp, exS_asg, exS_par2, exS_par3, exS_own, exS_app, exS_set, exS_exp, exS_ret, exS_retO, exS_ife, exS_whl, exS_for_, exS_never, exS_frz, exSs_nil, exSs_cons, runDef, evT_eq, bd_some, bd_none, mpo_some, mpo_none, callV_eq, forG_eq, lcG_eq, getZ, getO, setT, putC, updO, isLent_un, isLent_fz, isLent_ow, isMine_un, isMine_fz, isMine_ow, isOw_un, isOw_fz, isOw_ow, lastI_succ, lastI_lent, lastI_ow, at_0, at_1, at_2, m_lt0, m_le1, m_le2, m_le3, m_le4, m_le5, m_le6, m_le7, m_le8, cmp_eq_int, cmp_ne_int, cmp_eq_bl, cmp_ne_bl, cmp_lt_int, cmp_le_int, cmp_gt_int, cmp_ge_int, cmp_isN, cmp_notN, cmp_inn, op_add, op_sub, op_mul, op_fdiv, op_mod, op_pow, cellI_zero, cellI_succ, cellI_lent, noOw, wipeC, backC, truth, bool?, int?, items?, vals?, ixF, biF, isTy, isNon, lentOf, avCells, putBack, outs, lentC, ixN]
  · obtain ⟨o, ho⟩ : ∃ o, o = ((b + 48271 * (c + 1)) * (39373 + (c + 1))).fmod 2147483647 := ⟨_, rfl⟩
    obtain ⟨f, hf⟩ : ∃ f, f = o.fmod 40009 + 7 := ⟨_, rfl⟩
    obtain ⟨w, hw⟩ : ∃ w, w = ((o + (c + 1) + b.fdiv 1000003) * f).fmod 2147483629 := ⟨_, rfl⟩
    have hfm := fmod_lt (a := o) (b := 40009) (by decide)
    have m1 : mulOk 48271 (c + 1) = true := mul_l (by decide)
    have m2 : mulOk (b + 48271 * (c + 1)) (39373 + (c + 1)) = true := mul_r (sm_of (by omega) (by omega))
    have m3 : mulOk (o + (c + 1) + b.fdiv 1000003) f = true := mul_r (sm_of (by omega) (by omega))
    have m4 : mulOk w 48271 = true := mul_r (by decide)
    have d1 : divOk 1000003 = true := by decide
    have d2 : divOk 64 = true := by decide
    refine ⟨(((w * 48271 + o).fmod 2147483587).fdiv 64).fmod t, [.int a, .int b, .int (c + 1)], ?_, ⟨_, _, _, rfl, ha, by omega, by omega⟩, (fmod_lt t0).1, (fmod_lt t0).2⟩
    rw [call_body (d := d_law_take) rfl rfl]
    simp [d_law_take, retOf, h, tn, ht, m1, m2, m3, m4, d1, d2, ← ho, ← hf, ← hw, evE_var, evE_cst, evE_lit, evE_bin, evE_neg, evE_not, evE_and, evE_or, evE_ife, evE_cmp, evE_chn, evE_tup, evE_ix, evE_sl, evE_call, evE_bi, evE_isi, evE_fr, evE_oix, evE_olen, evE_otup, evE_calO, evAs_nil, evAs_e, evAs_st, evAs_ln, evP_no, evP_so, evF_no, evF_so, evO_dis, evO_lc, evO_lis, evO_cat, evO_rep, evO_sl, evO_osl, evO_call, evO_mv, evO_orr, evI_it, evI_r1, evI_r2, evI_en, evI_zp, exS_asg, exS_par2, exS_par3, exS_own, exS_app, exS_set, exS_exp, exS_ret, exS_retO, exS_ife, exS_whl, exS_for_, exS_never, exS_frz, exSs_nil, exSs_cons, runDef, evT_eq, bd_some, bd_none, mpo_some, mpo_none, callV_eq, forG_eq, lcG_eq, getZ, getO, setT, putC, updO, isLent_un, isLent_fz, isLent_ow, isMine_un, isMine_fz, isMine_ow, isOw_un, isOw_fz, isOw_ow, lastI_succ, lastI_lent, lastI_ow, at_0, at_1, at_2, m_lt0, m_le1, m_le2, m_le3, m_le4, m_le5, m_le6, m_le7, m_le8, cmp_eq_int, cmp_ne_int, cmp_eq_bl, cmp_ne_bl, cmp_lt_int, cmp_le_int, cmp_gt_int, cmp_ge_int, cmp_isN, cmp_notN, cmp_inn, op_add, op_sub, op_mul, op_fdiv, op_mod, op_pow, cellI_zero, cellI_succ, cellI_lent, noOw, wipeC, backC, truth, bool?, int?, items?, vals?, ixF, biF, isTy, isNon, lentOf, avCells, putBack, outs, lentC, ixN]
theorem tin_eq {k k' : Int} {l : List Da} (h : Tin k l) (e : k = k') : Tin k' l := e ▸ h
theorem kin {n : Nat} {k a b : Int} {l : List Da} (hl : Tin k l) (hk : k < 9000) (ha : 1 ≤ a) (ha1 : a < 1000) (hb : 0 ≤ b) (hb1 : b < 1000) :
    ∃ (p q m : Int) (l' : List Da), callF prog (n + 2) 31 [.ow false l, .fz (.int a), .fz (.int b)] = some (.fz (rl p q m), [.ow false l', .fz (.int a), .fz (.int b)]) ∧ Tin (k + 3) l' ∧ 1 ≤ q ∧ q ≤ p ∧ p ≤ a ∧ 0 ≤ m ∧ m ≤ mx b 1 ∧ (p = q → 1 ≤ m) := by
  obtain ⟨r1, l1, e1, t1, a1, b1⟩ := take (n := n) (t := a) hl (by omega) (by omega) (by omega)
  obtain ⟨r2, l2, e2, t2, a2, b2⟩ := take (n := n) (t := a + 1 - (1 + r1)) t1 (by omega) (by omega) (by omega)
  obtain ⟨r3, l3, e3, t3, a3, b3⟩ := take (n := n) (t := b + 1) t2 (by omega) (by omega) (by omega)
  refine ⟨1 + r1 + r2, 1 + r1, if 1 + r1 + r2 = 1 + r1 then (if r3 > 1 then r3 else 1) else r3, l3, ?_, tin_eq t3 (by omega), by omega, by omega, by omega, ?_, ?_, ?_⟩
  · rw [call_body (d := d_law_kin) rfl rfl]
    by_cases hz : 1 + r1 + r2 = 1 + r1
    · simp [d_law_kin, retOf, evE_var, evE_cst, evE_lit, evE_bin, evE_neg, evE_not, evE_and, evE_or, evE_ife, evE_cmp, evE_chn, evE_tup, evE_ix, evE_sl, evE_call, evE_bi, evE_isi, evE_fr, evE_oix, evE_olen, evE_otup, evE_calO, evAs_nil, evAs_e, evAs_st, evAs_ln, evP_no, evP_so, evF_no, evF_so, evO_dis, evO_lc, evO_lis, evO_cat, evO_rep, evO_sl, evO_osl, evO_call, evO_mv, evO_orr, evI_it, evI_r1, evI_r2, evI_en, evI_zp, exS_asg, exS_par2, exS_par3, exS_own, exS_app, exS_set, exS_exp, exS_ret, exS_retO, exS_ife, exS_whl, exS_for_, exS_never, exS_frz, exSs_nil, exSs_cons, runDef, evT_eq, bd_some, bd_none, mpo_some, mpo_none, callV_eq, forG_eq, lcG_eq, getZ, getO, setT, putC, updO, isLent_un, isLent_fz, isLent_ow, isMine_un, isMine_fz, isMine_ow, isOw_un, isOw_fz, isOw_ow, lastI_succ, lastI_lent, lastI_ow, at_0, at_1, at_2, m_lt0, m_le1, m_le2, m_le3, m_le4, m_le5, m_le6, m_le7, m_le8, cmp_eq_int, cmp_ne_int, cmp_eq_bl, cmp_ne_bl, cmp_lt_int, cmp_le_int, cmp_gt_int, cmp_ge_int, cmp_isN, cmp_notN, cmp_inn, op_add, op_sub, op_mul, op_fdiv, op_mod, op_pow, cellI_zero, cellI_succ, cellI_lent, noOw, wipeC, backC, truth, bool?, int?, items?, vals?, ixF, biF, isTy, isNon, lentOf, avCells, putBack, outs, lentC, e1, e2, e3, hz]
    · simp [d_law_kin, retOf, evE_var, evE_cst, evE_lit, evE_bin, evE_neg, evE_not, evE_and, evE_or, evE_ife, evE_cmp, evE_chn, evE_tup, evE_ix, evE_sl, evE_call, evE_bi, evE_isi, evE_fr, evE_oix, evE_olen, evE_otup, evE_calO, evAs_nil, evAs_e, evAs_st, evAs_ln, evP_no, evP_so, evF_no, evF_so, evO_dis, evO_lc, evO_lis, evO_cat, evO_rep, evO_sl, evO_osl, evO_call, evO_mv, evO_orr, evI_it, evI_r1, evI_r2, evI_en, evI_zp, exS_asg, exS_par2, exS_par3, exS_own, exS_app, exS_set, exS_exp, exS_ret, exS_retO, exS_ife, exS_whl, exS_for_, exS_never, exS_frz, exSs_nil, exSs_cons, runDef, evT_eq, bd_some, bd_none, mpo_some, mpo_none, callV_eq, forG_eq, lcG_eq, getZ, getO, setT, putC, updO, isLent_un, isLent_fz, isLent_ow, isMine_un, isMine_fz, isMine_ow, isOw_un, isOw_fz, isOw_ow, lastI_succ, lastI_lent, lastI_ow, at_0, at_1, at_2, m_lt0, m_le1, m_le2, m_le3, m_le4, m_le5, m_le6, m_le7, m_le8, cmp_eq_int, cmp_ne_int, cmp_eq_bl, cmp_ne_bl, cmp_lt_int, cmp_le_int, cmp_gt_int, cmp_ge_int, cmp_isN, cmp_notN, cmp_inn, op_add, op_sub, op_mul, op_fdiv, op_mod, op_pow, cellI_zero, cellI_succ, cellI_lent, noOw, wipeC, backC, truth, bool?, int?, items?, vals?, ixF, biF, isTy, isNon, lentOf, avCells, putBack, outs, lentC, e1, e2, e3, hz]
  · split <;> (try split) <;> omega
  · unfold mx
    split <;> split <;> (try split) <;> omega
  · intro h
    rw [if_pos h]
    split <;> omega
theorem lnext {n : Nat} {p q m s : Int} (h : Ok p q) : callF prog (n + 1) 32 [.fz (rl p q m), .fz (.int s)] = some (.fz (.int (nx p q m s)), [.fz (rl p q m), .fz (.int s)]) := by
  have h1 := h.mul s
  have h2 := h.div
  rw [call_body (d := d_law_next) rfl rfl]
  simp [d_law_next, retOf, nx, h1, h2, evE_var, evE_cst, evE_lit, evE_bin, evE_neg, evE_not, evE_and, evE_or, evE_ife, evE_cmp, evE_chn, evE_tup, evE_ix, evE_sl, evE_call, evE_bi, evE_isi, evE_fr, evE_oix, evE_olen, evE_otup, evE_calO, evAs_nil, evAs_e, evAs_st, evAs_ln, evP_no, evP_so, evF_no, evF_so, evO_dis, evO_lc, evO_lis, evO_cat, evO_rep, evO_sl, evO_osl, evO_call, evO_mv, evO_orr, evI_it, evI_r1, evI_r2, evI_en, evI_zp, exS_asg, exS_par2, exS_par3, exS_own, exS_app, exS_set, exS_exp, exS_ret, exS_retO, exS_ife, exS_whl, exS_for_, exS_never, exS_frz, exSs_nil, exSs_cons, runDef, evT_eq, bd_some, bd_none, mpo_some, mpo_none, callV_eq, forG_eq, lcG_eq, getZ, getO, setT, putC, updO, isLent_un, isLent_fz, isLent_ow, isMine_un, isMine_fz, isMine_ow, isOw_un, isOw_fz, isOw_ow, lastI_succ, lastI_lent, lastI_ow, at_0, at_1, at_2, m_lt0, m_le1, m_le2, m_le3, m_le4, m_le5, m_le6, m_le7, m_le8, cmp_eq_int, cmp_ne_int, cmp_eq_bl, cmp_ne_bl, cmp_lt_int, cmp_le_int, cmp_gt_int, cmp_ge_int, cmp_isN, cmp_notN, cmp_inn, op_add, op_sub, op_mul, op_fdiv, op_mod, op_pow, cellI_zero, cellI_succ, cellI_lent, noOw, wipeC, backC, truth, bool?, int?, items?, vals?, ixF, biF, isTy, isNon, lentOf, avCells, putBack, outs, lentC]
theorem least {n : Nat} {p q m : Int} (h : Ok p q) (hq : q ≤ p) (hm : 0 ≤ m) (he : p = q → 1 ≤ m) : ∃ z : Int, callF prog (n + 2) 33 [.fz (rl p q m)] = some (.fz (.int z), [.fz (rl p q m)]) ∧ 1 ≤ z ∧ z ≤ q ∧ z < nx p q m z := by
  have q0 := h.q0
  have hqs : q < nx p q m q := by
    unfold nx
    rw [Int.mul_fdiv_cancel _ (by omega)]
    by_cases e : p = q
    · have := he e; omega
    · omega
  obtain ⟨k, h1, h2, h3⟩ := least_nat (P := fun i => 1 + (i : Int) < nx p q m (1 + (i : Int))) (fun i => inferInstance) (q - 1).toNat (by
    have : 1 + (((q - 1).toNat : Nat) : Int) = q := by omega
    rw [this]
    exact hqs)
  have lp := whileS_to (test := evT (callF prog (n + 1)) (.cmp .le (.call 32 (.e (.var 0) (.e (.var 1) .nil))) (.var 1))) (step := exSs (callF prog (n + 1)) (.cons (.asg (.nm 1) (.bin .add (.var 1) (.lit (.int 1)))) (.nil))) (fun i => [.fz (rl p q m), .fz (.int (1 + (i : Nat)))]) k
    (fun i hi => by
      have e := lnext (n := n) (m := m) (s := 1 + (i : Int)) h
      have := h3 i hi
      have : nx p q m (1 + (i : Int)) ≤ 1 + (i : Int) := by omega
      simp [e, this, evE_var, evE_cst, evE_lit, evE_bin, evE_neg, evE_not, evE_and, evE_or, evE_ife, evE_cmp, evE_chn, evE_tup, evE_ix, evE_sl, evE_call, evE_bi, evE_isi, evE_fr, evE_oix, evE_olen, evE_otup, evE_calO, evAs_nil, evAs_e, evAs_st, evAs_ln, evP_no, evP_so, evF_no, evF_so, evO_dis, evO_lc, evO_lis, evO_cat, evO_rep, evO_sl, evO_osl, evO_call, evO_mv, evO_orr, evI_it, evI_r1, evI_r2, evI_en, evI_zp, exS_asg, exS_par2, exS_par3, exS_own, exS_app, exS_set, exS_exp, exS_ret, exS_retO, exS_ife, exS_whl, exS_for_, exS_never, exS_frz, exSs_nil, exSs_cons, runDef, evT_eq, bd_some, bd_none, mpo_some, mpo_none, callV_eq, forG_eq, lcG_eq, getZ, getO, setT, putC, updO, isLent_un, isLent_fz, isLent_ow, isMine_un, isMine_fz, isMine_ow, isOw_un, isOw_fz, isOw_ow, lastI_succ, lastI_lent, lastI_ow, at_0, at_1, at_2, m_lt0, m_le1, m_le2, m_le3, m_le4, m_le5, m_le6, m_le7, m_le8, cmp_eq_int, cmp_ne_int, cmp_eq_bl, cmp_ne_bl, cmp_lt_int, cmp_le_int, cmp_gt_int, cmp_ge_int, cmp_isN, cmp_notN, cmp_inn, op_add, op_sub, op_mul, op_fdiv, op_mod, op_pow, cellI_zero, cellI_succ, cellI_lent, noOw, wipeC, backC, truth, bool?, int?, items?, vals?, ixF, biF, isTy, isNon, lentOf, avCells, putBack, outs, lentC]) (fun i hi => by
      have : 1 + (i : Int) + 1 = 1 + ((i : Int) + 1) := by omega
      simp [this, evE_var, evE_cst, evE_lit, evE_bin, evE_neg, evE_not, evE_and, evE_or, evE_ife, evE_cmp, evE_chn, evE_tup, evE_ix, evE_sl, evE_call, evE_bi, evE_isi, evE_fr, evE_oix, evE_olen, evE_otup, evE_calO, evAs_nil, evAs_e, evAs_st, evAs_ln, evP_no, evP_so, evF_no, evF_so, evO_dis, evO_lc, evO_lis, evO_cat, evO_rep, evO_sl, evO_osl, evO_call, evO_mv, evO_orr, evI_it, evI_r1, evI_r2, evI_en, evI_zp, exS_asg, exS_par2, exS_par3, exS_own, exS_app, exS_set, exS_exp, exS_ret, exS_retO, exS_ife, exS_whl, exS_for_, exS_never, exS_frz, exSs_nil, exSs_cons, runDef, evT_eq, bd_some, bd_none, mpo_some, mpo_none, callV_eq, forG_eq, lcG_eq, getZ, getO, setT, putC, updO, isLent_un, isLent_fz, isLent_ow, isMine_un, isMine_fz, isMine_ow, isOw_un, isOw_fz, isOw_ow, lastI_succ, lastI_lent, lastI_ow, at_0, at_1, at_2, m_lt0, m_le1, m_le2, m_le3, m_le4, m_le5, m_le6, m_le7, m_le8, cmp_eq_int, cmp_ne_int, cmp_eq_bl, cmp_ne_bl, cmp_lt_int, cmp_le_int, cmp_gt_int, cmp_ge_int, cmp_isN, cmp_notN, cmp_inn, op_add, op_sub, op_mul, op_fdiv, op_mod, op_pow, cellI_zero, cellI_succ, cellI_lent, noOw, wipeC, backC, truth, bool?, int?, items?, vals?, ixF, biF, isTy, isNon, lentOf, avCells, putBack, outs, lentC]) (by
      have e := lnext (n := n) (m := m) (s := 1 + (k : Int)) h
      have : ¬ nx p q m (1 + (k : Int)) ≤ 1 + (k : Int) := by omega
      simp [e, this, evE_var, evE_cst, evE_lit, evE_bin, evE_neg, evE_not, evE_and, evE_or, evE_ife, evE_cmp, evE_chn, evE_tup, evE_ix, evE_sl, evE_call, evE_bi, evE_isi, evE_fr, evE_oix, evE_olen, evE_otup, evE_calO, evAs_nil, evAs_e, evAs_st, evAs_ln, evP_no, evP_so, evF_no, evF_so, evO_dis, evO_lc, evO_lis, evO_cat, evO_rep, evO_sl, evO_osl, evO_call, evO_mv, evO_orr, evI_it, evI_r1, evI_r2, evI_en, evI_zp, exS_asg, exS_par2, exS_par3, exS_own, exS_app, exS_set, exS_exp, exS_ret, exS_retO, exS_ife, exS_whl, exS_for_, exS_never, exS_frz, exSs_nil, exSs_cons, runDef, evT_eq, bd_some, bd_none, mpo_some, mpo_none, callV_eq, forG_eq, lcG_eq, getZ, getO, setT, putC, updO, isLent_un, isLent_fz, isLent_ow, isMine_un, isMine_fz, isMine_ow, isOw_un, isOw_fz, isOw_ow, lastI_succ, lastI_lent, lastI_ow, at_0, at_1, at_2, m_lt0, m_le1, m_le2, m_le3, m_le4, m_le5, m_le6, m_le7, m_le8, cmp_eq_int, cmp_ne_int, cmp_eq_bl, cmp_ne_bl, cmp_lt_int, cmp_le_int, cmp_gt_int, cmp_ge_int, cmp_isN, cmp_notN, cmp_inn, op_add, op_sub, op_mul, op_fdiv, op_mod, op_pow, cellI_zero, cellI_succ, cellI_lent, noOw, wipeC, backC, truth, bool?, int?, items?, vals?, ixF, biF, isTy, isNon, lentOf, avCells, putBack, outs, lentC]) fuel 0 (by omega) (by have := h.q1; unfold fuel; omega)
  refine ⟨1 + (k : Int), ?_, by omega, by omega, h2⟩
  have ez : 1 + ((0 : Nat) : Int) = 1 := rfl
  rw [ez] at lp
  rw [call_body (d := d_law_least) rfl rfl]
  simp [d_law_least, retOf, lp, evE_var, evE_cst, evE_lit, evE_bin, evE_neg, evE_not, evE_and, evE_or, evE_ife, evE_cmp, evE_chn, evE_tup, evE_ix, evE_sl, evE_call, evE_bi, evE_isi, evE_fr, evE_oix, evE_olen, evE_otup, evE_calO, evAs_nil, evAs_e, evAs_st, evAs_ln, evP_no, evP_so, evF_no, evF_so, evO_dis, evO_lc, evO_lis, evO_cat, evO_rep, evO_sl, evO_osl, evO_call, evO_mv, evO_orr, evI_it, evI_r1, evI_r2, evI_en, evI_zp, exS_asg, exS_par2, exS_par3, exS_own, exS_app, exS_set, exS_exp, exS_ret, exS_retO, exS_ife, exS_whl, exS_for_, exS_never, exS_frz, exSs_nil, exSs_cons, runDef, evT_eq, bd_some, bd_none, mpo_some, mpo_none, callV_eq, forG_eq, lcG_eq, getZ, getO, setT, putC, updO, isLent_un, isLent_fz, isLent_ow, isMine_un, isMine_fz, isMine_ow, isOw_un, isOw_fz, isOw_ow, lastI_succ, lastI_lent, lastI_ow, at_0, at_1, at_2, m_lt0, m_le1, m_le2, m_le3, m_le4, m_le5, m_le6, m_le7, m_le8, cmp_eq_int, cmp_ne_int, cmp_eq_bl, cmp_ne_bl, cmp_lt_int, cmp_le_int, cmp_gt_int, cmp_ge_int, cmp_isN, cmp_notN, cmp_inn, op_add, op_sub, op_mul, op_fdiv, op_mod, op_pow, cellI_zero, cellI_succ, cellI_lent, noOw, wipeC, backC, truth, bool?, int?, items?, vals?, ixF, biF, isTy, isNon, lentOf, avCells, putBack, outs, lentC]
theorem first {n : Nat} {p q m k f : Int} {l : List Da} (hl : Tin k l) (hk : k < 9000) (h : Ok p q) (hq : q ≤ p) (hm : 0 ≤ m) (he : p = q → 1 ≤ m) (f0 : 0 ≤ f) (f1 : f ≤ 1073741822) :
    ∃ (s : Int) (l' : List Da), callF prog (n + 3) 34 [.ow false l, .fz (rl p q m), .fz (.int f)] = some (.fz (.int s), [.ow false l', .fz (rl p q m), .fz (.int f)]) ∧ Tin (k + 1) l' ∧ 1 ≤ s ∧ s < nx p q m s ∧ s ≤ q + f := by
  obtain ⟨z, e1, z0, z1, z2⟩ := least (n := n) h hq hm he
  obtain ⟨r, l', e2, t, r0, r1⟩ := take (n := n + 1) (t := f + 1) hl (by omega) (by omega) (by omega)
  refine ⟨z + r, l', ?_, t, by omega, ?_, by omega⟩
  · rw [call_body (d := d_law_first) rfl rfl]
    simp [d_law_first, retOf, evE_var, evE_cst, evE_lit, evE_bin, evE_neg, evE_not, evE_and, evE_or, evE_ife, evE_cmp, evE_chn, evE_tup, evE_ix, evE_sl, evE_call, evE_bi, evE_isi, evE_fr, evE_oix, evE_olen, evE_otup, evE_calO, evAs_nil, evAs_e, evAs_st, evAs_ln, evP_no, evP_so, evF_no, evF_so, evO_dis, evO_lc, evO_lis, evO_cat, evO_rep, evO_sl, evO_osl, evO_call, evO_mv, evO_orr, evI_it, evI_r1, evI_r2, evI_en, evI_zp, exS_asg, exS_par2, exS_par3, exS_own, exS_app, exS_set, exS_exp, exS_ret, exS_retO, exS_ife, exS_whl, exS_for_, exS_never, exS_frz, exSs_nil, exSs_cons, runDef, evT_eq, bd_some, bd_none, mpo_some, mpo_none, callV_eq, forG_eq, lcG_eq, getZ, getO, setT, putC, updO, isLent_un, isLent_fz, isLent_ow, isMine_un, isMine_fz, isMine_ow, isOw_un, isOw_fz, isOw_ow, lastI_succ, lastI_lent, lastI_ow, at_0, at_1, at_2, m_lt0, m_le1, m_le2, m_le3, m_le4, m_le5, m_le6, m_le7, m_le8, cmp_eq_int, cmp_ne_int, cmp_eq_bl, cmp_ne_bl, cmp_lt_int, cmp_le_int, cmp_gt_int, cmp_ge_int, cmp_isN, cmp_notN, cmp_inn, op_add, op_sub, op_mul, op_fdiv, op_mod, op_pow, cellI_zero, cellI_succ, cellI_lent, noOw, wipeC, backC, truth, bool?, int?, items?, vals?, ixF, biF, isTy, isNon, lentOf, avCells, putBack, outs, lentC, e1, e2]
  · by_cases e : r = 0
    · subst e; rw [Int.add_zero]; exact z2
    · exact nx_le h hq (by omega) z2
theorem box {n : Nat} {ns : List Int} {i : Nat} (hi : i < ns.length) (hn : ns.length < 1000) : ∃ l, callF prog (n + 1) 29 [.fz (.lst (intz ns)), .fz (.int i)] = some (.ow l, [.fz (.lst (intz ns)), .fz (.int i)]) ∧ Tin 0 l := by
  have e1 := ints_at hi
  have hm : mulOk 39373 (i : Int) = true := mul_l (by decide)
  have hm2 : ∀ x : Int, mulOk x 1 = true := fun x => mul_r (by decide)
  have hm3 : ∀ x : Int, mulOk x 0 = true := fun x => mul_r (by decide)
  have hp : powOk 10 18 = true := by decide
  obtain ⟨z, hz⟩ : ∃ z, z = ns[i] := ⟨_, rfl⟩
  rw [← hz] at e1
  have hl : (i : Int) < ((intz ns).length : Int) := by rw [ints_len]; omega
  have hl' : i < (intz ns).length := by rw [ints_len]; exact hi
  obtain ⟨a, ha⟩ : ∃ a : Int, a = if z < 0 then -z else z := ⟨_, rfl⟩
  have ha0 : 0 ≤ a := by rw [ha]; split <;> omega
  by_cases hb : 1000000000000000000 ≤ a
  · refine ⟨[.int a, .int (z.fmod 2305843009213693951 + 39373 * i + 3062), .int 0], ?_, ⟨_, _, _, rfl, ha0, by omega, by omega⟩⟩
    rw [call_body (d := d_law_box) rfl rfl]
    simp [d_law_box, retOf, evE_var, evE_cst, evE_lit, evE_bin, evE_neg, evE_not, evE_and, evE_or, evE_ife, evE_cmp, evE_chn, evE_tup, evE_ix, evE_sl, evE_call, evE_bi, evE_isi, evE_fr, evE_oix, evE_olen, evE_otup, evE_calO, evAs_nil, evAs_e, evAs_st, evAs_ln, evP_no, evP_so, evF_no, evF_so, evO_dis, evO_lc, evO_lis, evO_cat, evO_rep, evO_sl, evO_osl, evO_call, evO_mv, evO_orr, evI_it, evI_r1, evI_r2, evI_en, evI_zp, exS_asg, exS_par2, exS_par3, exS_own, exS_app, exS_set, exS_exp, exS_ret, exS_retO, exS_ife, exS_whl, exS_for_, exS_never, exS_frz, exSs_nil, exSs_cons, runDef, evT_eq, bd_some, bd_none, mpo_some, mpo_none, callV_eq, forG_eq, lcG_eq, getZ, getO, setT, putC, updO, isLent_un, isLent_fz, isLent_ow, isMine_un, isMine_fz, isMine_ow, isOw_un, isOw_fz, isOw_ow, lastI_succ, lastI_lent, lastI_ow, at_0, at_1, at_2, m_lt0, m_le1, m_le2, m_le3, m_le4, m_le5, m_le6, m_le7, m_le8, cmp_eq_int, cmp_ne_int, cmp_eq_bl, cmp_ne_bl, cmp_lt_int, cmp_le_int, cmp_gt_int, cmp_ge_int, cmp_isN, cmp_notN, cmp_inn, op_add, op_sub, op_mul, op_fdiv, op_mod, op_pow, cellI_zero, cellI_succ, cellI_lent, noOw, wipeC, backC, truth, bool?, int?, items?, vals?, ixF, biF, isTy, isNon, lentOf, avCells, putBack, outs, lentC, e1, hl', hp, hm, hm2, ← ha, hb]
  · refine ⟨[.int 0, .int (z.fmod 2305843009213693951 + 39373 * i + 3062), .int 0], ?_, ⟨_, _, _, rfl, by omega, by omega, by omega⟩⟩
    rw [call_body (d := d_law_box) rfl rfl]
    simp [d_law_box, retOf, evE_var, evE_cst, evE_lit, evE_bin, evE_neg, evE_not, evE_and, evE_or, evE_ife, evE_cmp, evE_chn, evE_tup, evE_ix, evE_sl, evE_call, evE_bi, evE_isi, evE_fr, evE_oix, evE_olen, evE_otup, evE_calO, evAs_nil, evAs_e, evAs_st, evAs_ln, evP_no, evP_so, evF_no, evF_so, evO_dis, evO_lc, evO_lis, evO_cat, evO_rep, evO_sl, evO_osl, evO_call, evO_mv, evO_orr, evI_it, evI_r1, evI_r2, evI_en, evI_zp, exS_asg, exS_par2, exS_par3, exS_own, exS_app, exS_set, exS_exp, exS_ret, exS_retO, exS_ife, exS_whl, exS_for_, exS_never, exS_frz, exSs_nil, exSs_cons, runDef, evT_eq, bd_some, bd_none, mpo_some, mpo_none, callV_eq, forG_eq, lcG_eq, getZ, getO, setT, putC, updO, isLent_un, isLent_fz, isLent_ow, isMine_un, isMine_fz, isMine_ow, isOw_un, isOw_fz, isOw_ow, lastI_succ, lastI_lent, lastI_ow, at_0, at_1, at_2, m_lt0, m_le1, m_le2, m_le3, m_le4, m_le5, m_le6, m_le7, m_le8, cmp_eq_int, cmp_ne_int, cmp_eq_bl, cmp_ne_bl, cmp_lt_int, cmp_le_int, cmp_gt_int, cmp_ge_int, cmp_isN, cmp_notN, cmp_inn, op_add, op_sub, op_mul, op_fdiv, op_mod, op_pow, cellI_zero, cellI_succ, cellI_lent, noOw, wipeC, backC, truth, bool?, int?, items?, vals?, ixF, biF, isTy, isNon, lentOf, avCells, putBack, outs, lentC, e1, hl', hp, hm, hm3, ← ha, hb]
theorem cells {n : Nat} {ns : List Int} (hn : ns.length ≤ 63) : ∃ ms : List Int, callF prog (n + 1) 0 [.fz (.lst (intz ns)), .fz (.int 3)] = some (.ow (intz ms), [.fz (.lst (intz ns)), .fz (.int 3)]) ∧ 1 ≤ ms.length ∧ ms.length ≤ 3 := by
  obtain ⟨m0, hm0⟩ : ∃ m0, m0 = if (ns.take 3).isEmpty then [0] else ns.take 3 := ⟨_, rfl⟩
  have hl0 : 1 ≤ m0.length ∧ m0.length ≤ 3 := by
    rw [hm0]
    cases ns with
    | nil => simp
    | cons a r => simp; omega
  have hl3 : 3 < ns.length → m0.length = 3 := by
    intro h
    rw [hm0]
    cases ns with
    | nil => simp at h
    | cons a r => simp at h ⊢; omega
  have h63 := cut_ints ns (some (3 : Nat)) (some 63)
  obtain ⟨zs, hzs⟩ : ∃ zs, zs = cut ns (some ((3 : Nat) : Int)) (some 63) := ⟨_, rfl⟩
  rw [← hzs] at h63
  have hz3 : zs ≠ [] → m0.length = 3 := fun h => by
    by_cases q : 3 < ns.length
    · exact hl3 q
    · exact absurd (by rw [hzs]; exact cut_late ns 3 _ (by omega)) h
  have hzl : zs.length ≤ 63 := by rw [hzs]; exact Nat.le_trans (cut_len _ _ _) hn
  have lp := forS_inv (step := forG (exSs (callF prog n) (.cons (.asg (.nm 5) (.bin .mod (.bi .int (.e (.var 3) .nil)) (.var 1))) (.cons (.set 2 (.var 5) (.bin .add (.oix 2 (.var 5)) (.bin .mul (.var 4) (.bin .add (.var 3) (.lit (.int 2)))))) (.nil)))) (.t2 (.nm 3) (.nm 4)))
    (fun _ l => ∃ (ms : List Int) (c3 c4 c5 : Cell), l = [.fz (.lst (intz ns)), .fz (.int 3), .ow true (intz ms), c3, c4, c5] ∧ isLent c3 = false ∧ isLent c4 = false ∧ isLent c5 = false ∧ ms.length = m0.length) (enumL 0 (intz zs)) 0
    [.fz (.lst (intz ns)), .fz (.int 3), .ow true (intz m0), .un, .un, .un] (by
      rintro i d l hd ⟨ms, c3, c4, c5, rfl, h3, h4, h5, hlen⟩
      rw [enum_get] at hd
      cases q : (intz zs)[i]? with
      | none => rw [q] at hd; cases hd
      | some w =>
        rw [q] at hd
        cases hd
        obtain ⟨z, hz, rfl⟩ := ints_get q
        rw [Nat.zero_add]
        have hi : i < zs.length := (List.getElem?_eq_some_iff.mp hz).1
        have hms : ms.length = 3 := by rw [hlen]; exact hz3 (by intro e; rw [e] at hi; simp at hi)
        obtain ⟨j, hj0⟩ : ∃ j, j = i % 3 := ⟨_, rfl⟩
        have hj : ((i : Nat) : Int).fmod 3 = (j : Int) := by
          rw [Int.fmod_eq_emod_of_nonneg _ (by decide)]
          omega
        have hlt : j < ms.length := by omega
        have ha := ints_at hlt
        have hx := ix_nat (n := (intz ms).length) (i := j) (by rw [ints_len]; exact hlt)
        have hm : mulOk z ((i : Int) + 2) = true := mul_r (sm_of (by omega) (by omega))
        have hs := ints_set ms (j) (ms[j] + z * ((i : Int) + 2))
        refine ⟨_, ?_, ms.set (j) (ms[j] + z * ((i : Int) + 2)), .fz (.int i), .fz (.int z), .fz (.int (j : Int)), rfl, rfl, rfl, rfl, by rw [List.length_set]; exact hlen⟩
        have h3n : ¬ (3 : Int) = 0 := by decide
        simp [evE_var, evE_cst, evE_lit, evE_bin, evE_neg, evE_not, evE_and, evE_or, evE_ife, evE_cmp, evE_chn, evE_tup, evE_ix, evE_sl, evE_call, evE_bi, evE_isi, evE_fr, evE_oix, evE_olen, evE_otup, evE_calO, evAs_nil, evAs_e, evAs_st, evAs_ln, evP_no, evP_so, evF_no, evF_so, evO_dis, evO_lc, evO_lis, evO_cat, evO_rep, evO_sl, evO_osl, evO_call, evO_mv, evO_orr, evI_it, evI_r1, evI_r2, evI_en, evI_zp, exS_asg, exS_par2, exS_par3, exS_own, exS_app, exS_set, exS_exp, exS_ret, exS_retO, exS_ife, exS_whl, exS_for_, exS_never, exS_frz, exSs_nil, exSs_cons, runDef, evT_eq, bd_some, bd_none, mpo_some, mpo_none, callV_eq, forG_eq, lcG_eq, getZ, getO, setT, putC, updO, isLent_un, isLent_fz, isLent_ow, isMine_un, isMine_fz, isMine_ow, isOw_un, isOw_fz, isOw_ow, lastI_succ, lastI_lent, lastI_ow, at_0, at_1, at_2, m_lt0, m_le1, m_le2, m_le3, m_le4, m_le5, m_le6, m_le7, m_le8, cmp_eq_int, cmp_ne_int, cmp_eq_bl, cmp_ne_bl, cmp_lt_int, cmp_le_int, cmp_gt_int, cmp_ge_int, cmp_isN, cmp_notN, cmp_inn, op_add, op_sub, op_mul, op_fdiv, op_mod, op_pow, cellI_zero, cellI_succ, cellI_lent, noOw, wipeC, backC, truth, bool?, int?, items?, vals?, ixF, biF, isTy, isNon, lentOf, avCells, putBack, outs, lentC, h3, h4, h5, hj, ha, hx, hm, h3n, hs]) ⟨m0, .un, .un, .un, rfl, rfl, rfl, rfl, rfl⟩
  obtain ⟨l', lp1, ms, c3, c4, c5, rfl, _, _, _, hlen⟩ := lp
  refine ⟨ms, ?_, by omega, by omega⟩
  have e3 := cut_to (intz ns) 3
  rw [ints_take] at e3
  have e3 : cut (intz ns) none (some 3) = intz (ns.take 3) := e3
  have h63 : cut (intz ns) (some 3) (some 63) = intz zs := h63
  rw [call_body (d := d_law_cells) rfl rfl]
  have hml : (intz m0).length ≤ most := by rw [ints_len]; unfold most; omega
  by_cases he : intz (ns.take 3) = []
  · have hm : [Da.int 0] = intz m0 := by
      rw [hm0]
      have : ns.take 3 = [] := by simpa [intz] using he
      rw [this]
      rfl
    simp [d_law_cells, retOf, evE_var, evE_cst, evE_lit, evE_bin, evE_neg, evE_not, evE_and, evE_or, evE_ife, evE_cmp, evE_chn, evE_tup, evE_ix, evE_sl, evE_call, evE_bi, evE_isi, evE_fr, evE_oix, evE_olen, evE_otup, evE_calO, evAs_nil, evAs_e, evAs_st, evAs_ln, evP_no, evP_so, evF_no, evF_so, evO_dis, evO_lc, evO_lis, evO_cat, evO_rep, evO_sl, evO_osl, evO_call, evO_mv, evO_orr, evI_it, evI_r1, evI_r2, evI_en, evI_zp, exS_asg, exS_par2, exS_par3, exS_own, exS_app, exS_set, exS_exp, exS_ret, exS_retO, exS_ife, exS_whl, exS_for_, exS_never, exS_frz, exSs_nil, exSs_cons, runDef, evT_eq, bd_some, bd_none, mpo_some, mpo_none, callV_eq, forG_eq, lcG_eq, getZ, getO, setT, putC, updO, isLent_un, isLent_fz, isLent_ow, isMine_un, isMine_fz, isMine_ow, isOw_un, isOw_fz, isOw_ow, lastI_succ, lastI_lent, lastI_ow, at_0, at_1, at_2, m_lt0, m_le1, m_le2, m_le3, m_le4, m_le5, m_le6, m_le7, m_le8, cmp_eq_int, cmp_ne_int, cmp_eq_bl, cmp_ne_bl, cmp_lt_int, cmp_le_int, cmp_gt_int, cmp_ge_int, cmp_isN, cmp_notN, cmp_inn, op_add, op_sub, op_mul, op_fdiv, op_mod, op_pow, cellI_zero, cellI_succ, cellI_lent, noOw, wipeC, backC, truth, bool?, int?, items?, vals?, ixF, biF, isTy, isNon, lentOf, avCells, putBack, outs, lentC, e3, he, hm, h63, lp1, hml]
  · have hm : intz (ns.take 3) = intz m0 := by
      rw [hm0]
      have : (ns.take 3).isEmpty = false := by
        cases q : ns.take 3 with
        | nil => rw [q] at he; exact absurd rfl he
        | cons _ _ => rfl
      rw [this]
      rfl
    have hq : intz m0 ≠ [] := by rw [← hm]; exact he
    simp [d_law_cells, retOf, evE_var, evE_cst, evE_lit, evE_bin, evE_neg, evE_not, evE_and, evE_or, evE_ife, evE_cmp, evE_chn, evE_tup, evE_ix, evE_sl, evE_call, evE_bi, evE_isi, evE_fr, evE_oix, evE_olen, evE_otup, evE_calO, evAs_nil, evAs_e, evAs_st, evAs_ln, evP_no, evP_so, evF_no, evF_so, evO_dis, evO_lc, evO_lis, evO_cat, evO_rep, evO_sl, evO_osl, evO_call, evO_mv, evO_orr, evI_it, evI_r1, evI_r2, evI_en, evI_zp, exS_asg, exS_par2, exS_par3, exS_own, exS_app, exS_set, exS_exp, exS_ret, exS_retO, exS_ife, exS_whl, exS_for_, exS_never, exS_frz, exSs_nil, exSs_cons, runDef, evT_eq, bd_some, bd_none, mpo_some, mpo_none, callV_eq, forG_eq, lcG_eq, getZ, getO, setT, putC, updO, isLent_un, isLent_fz, isLent_ow, isMine_un, isMine_fz, isMine_ow, isOw_un, isOw_fz, isOw_ow, lastI_succ, lastI_lent, lastI_ow, at_0, at_1, at_2, m_lt0, m_le1, m_le2, m_le3, m_le4, m_le5, m_le6, m_le7, m_le8, cmp_eq_int, cmp_ne_int, cmp_eq_bl, cmp_ne_bl, cmp_lt_int, cmp_le_int, cmp_gt_int, cmp_ge_int, cmp_isN, cmp_notN, cmp_inn, op_add, op_sub, op_mul, op_fdiv, op_mod, op_pow, cellI_zero, cellI_succ, cellI_lent, noOw, wipeC, backC, truth, bool?, int?, items?, vals?, ixF, biF, isTy, isNon, lentOf, avCells, putBack, outs, lentC, e3, hm, h63, lp1, hq, hml]
end K97

set_option linter.all false
set_option maxRecDepth 100000
/-! K97B: the walk of the readings. -/
namespace K97
open Mini
def tb (r : R) (i : Nat) : Da := if r.pl (i + 1) = 0 then .non else .int (r.sz i)
def sg (r : R) (i : Nat) : Da := .bl (decide (r.pl (i + 1) = 0))
def rdT (r : R) (k : Nat) : Da := .tup (rw k fun i => .int (r.pl (i + 1)))
theorem cmp_eq_gen {x y : Da} (h : sh 8 x = true) (h' : sh 8 y = true) : cmpF .eq x y = some (eqv x y) := by
  have : cmpF .eq x y = if sh 8 x && sh 8 y then some (eqv x y) else none := by cases x <;> cases y <;> rfl
  rw [this, h, h']
  rfl
theorem sizes_read {n k : Nat} {r : R} (hk : k < 1000) : callF prog (n + 1) 1 [.fz (rdT r k)] = some (.fz (.tup (rw k (tb r))), [.fz (rdT r k)]) := by
  have er : (Da.int 0 :: rw k fun i => .int (r.pl (i + 1))) = rw (k + 1) fun i => .int (r.pl i) := by rw [rw_succ]; rfl
  have ez : zipL (rw (k + 1) fun i => Da.int (r.pl i)) (cut (rw (k + 1) fun i => .int (r.pl i)) (some 1) none) = rw k fun i => .tup [.int (r.pl i), .int (r.pl (i + 1))] := by
    rw [cut_tail, zip_rw _ _ _ _ (by omega)]
  obtain ⟨rows, hrows⟩ : ∃ rows, rows = rw (k + 1) fun i => Da.int (r.pl i) := ⟨_, rfl⟩
  rw [← hrows] at er ez
  have lp := mapL_rw (step := lcG (evE (callF prog n) (.ife (.cmp .eq (.var 3) (.lit (.int 0))) (.lit (.non)) (.bin .sub (.var 3) (.var 2)))) (evF (callF prog n) .no) (.t2 (.nm 2) (.nm 3)) [2, 3]) (l := [.fz (rdT r k), .fz (.lst rows), .un, .un]) (f := fun i => .tup [.int (r.pl i), .int (r.pl (i + 1))]) k (tb r) fun i hi => by
    by_cases h : r.pl (i + 1) = 0
    · simp [evE_var, evE_cst, evE_lit, evE_bin, evE_neg, evE_not, evE_and, evE_or, evE_ife, evE_cmp, evE_chn, evE_tup, evE_ix, evE_sl, evE_call, evE_bi, evE_isi, evE_fr, evE_oix, evE_olen, evE_otup, evE_calO, evAs_nil, evAs_e, evAs_st, evAs_ln, evP_no, evP_so, evF_no, evF_so, evO_dis, evO_lc, evO_lis, evO_cat, evO_rep, evO_sl, evO_osl, evO_call, evO_mv, evO_orr, evI_it, evI_r1, evI_r2, evI_en, evI_zp, exS_asg, exS_par2, exS_par3, exS_own, exS_app, exS_set, exS_exp, exS_ret, exS_retO, exS_ife, exS_whl, exS_for_, exS_never, exS_frz, exSs_nil, exSs_cons, runDef, evT_eq, bd_some, bd_none, mpo_some, mpo_none, callV_eq, forG_eq, lcG_eq, getZ, getO, setT, putC, updO, isLent_un, isLent_fz, isLent_ow, isMine_un, isMine_fz, isMine_ow, isOw_un, isOw_fz, isOw_ow, lastI_succ, lastI_lent, lastI_ow, at_0, at_1, at_2, m_lt0, m_le1, m_le2, m_le3, m_le4, m_le5, m_le6, m_le7, m_le8, cmp_eq_int, cmp_ne_int, cmp_eq_bl, cmp_ne_bl, cmp_lt_int, cmp_le_int, cmp_gt_int, cmp_ge_int, cmp_isN, cmp_notN, cmp_inn, op_add, op_sub, op_mul, op_fdiv, op_mod, op_pow, cellI_zero, cellI_succ, cellI_lent, noOw, wipeC, backC, truth, bool?, int?, items?, vals?, ixF, biF, isTy, isNon, lentOf, avCells, putBack, outs, lentC, tb, h]
    · have e : r.pl (i + 1) - r.pl i = r.sz i := by
        rw [R.pl] at h ⊢
        split at h
        · exact absurd rfl h
        · rename_i hc
          rw [if_neg hc]
          omega
      simp [evE_var, evE_cst, evE_lit, evE_bin, evE_neg, evE_not, evE_and, evE_or, evE_ife, evE_cmp, evE_chn, evE_tup, evE_ix, evE_sl, evE_call, evE_bi, evE_isi, evE_fr, evE_oix, evE_olen, evE_otup, evE_calO, evAs_nil, evAs_e, evAs_st, evAs_ln, evP_no, evP_so, evF_no, evF_so, evO_dis, evO_lc, evO_lis, evO_cat, evO_rep, evO_sl, evO_osl, evO_call, evO_mv, evO_orr, evI_it, evI_r1, evI_r2, evI_en, evI_zp, exS_asg, exS_par2, exS_par3, exS_own, exS_app, exS_set, exS_exp, exS_ret, exS_retO, exS_ife, exS_whl, exS_for_, exS_never, exS_frz, exSs_nil, exSs_cons, runDef, evT_eq, bd_some, bd_none, mpo_some, mpo_none, callV_eq, forG_eq, lcG_eq, getZ, getO, setT, putC, updO, isLent_un, isLent_fz, isLent_ow, isMine_un, isMine_fz, isMine_ow, isOw_un, isOw_fz, isOw_ow, lastI_succ, lastI_lent, lastI_ow, at_0, at_1, at_2, m_lt0, m_le1, m_le2, m_le3, m_le4, m_le5, m_le6, m_le7, m_le8, cmp_eq_int, cmp_ne_int, cmp_eq_bl, cmp_ne_bl, cmp_lt_int, cmp_le_int, cmp_gt_int, cmp_ge_int, cmp_isN, cmp_notN, cmp_inn, op_add, op_sub, op_mul, op_fdiv, op_mod, op_pow, cellI_zero, cellI_succ, cellI_lent, noOw, wipeC, backC, truth, bool?, int?, items?, vals?, ixF, biF, isTy, isNon, lentOf, avCells, putBack, outs, lentC, tb, h, e]
  have hv := vals_all (rw k fun i => Da.int (r.pl (i + 1)))
  have hl : rows.length ≤ most := by rw [hrows, rw_len]; unfold most; omega
  have hl2 : (rw k fun i => Da.tup [.int (r.pl i), .int (r.pl (i + 1))]).length ≤ most := by rw [rw_len]; unfold most; omega
  unfold rdT at lp ⊢
  rw [call_body (d := d_sizes_read) rfl rfl]
  simp [d_sizes_read, retOf, evE_var, evE_cst, evE_lit, evE_bin, evE_neg, evE_not, evE_and, evE_or, evE_ife, evE_cmp, evE_chn, evE_tup, evE_ix, evE_sl, evE_call, evE_bi, evE_isi, evE_fr, evE_oix, evE_olen, evE_otup, evE_calO, evAs_nil, evAs_e, evAs_st, evAs_ln, evP_no, evP_so, evF_no, evF_so, evO_dis, evO_lc, evO_lis, evO_cat, evO_rep, evO_sl, evO_osl, evO_call, evO_mv, evO_orr, evI_it, evI_r1, evI_r2, evI_en, evI_zp, exS_asg, exS_par2, exS_par3, exS_own, exS_app, exS_set, exS_exp, exS_ret, exS_retO, exS_ife, exS_whl, exS_for_, exS_never, exS_frz, exSs_nil, exSs_cons, runDef, evT_eq, bd_some, bd_none, mpo_some, mpo_none, callV_eq, forG_eq, lcG_eq, getZ, getO, setT, putC, updO, isLent_un, isLent_fz, isLent_ow, isMine_un, isMine_fz, isMine_ow, isOw_un, isOw_fz, isOw_ow, lastI_succ, lastI_lent, lastI_ow, at_0, at_1, at_2, m_lt0, m_le1, m_le2, m_le3, m_le4, m_le5, m_le6, m_le7, m_le8, cmp_eq_int, cmp_ne_int, cmp_eq_bl, cmp_ne_bl, cmp_lt_int, cmp_le_int, cmp_gt_int, cmp_ge_int, cmp_isN, cmp_notN, cmp_inn, op_add, op_sub, op_mul, op_fdiv, op_mod, op_pow, cellI_zero, cellI_succ, cellI_lent, noOw, wipeC, backC, truth, bool?, int?, items?, vals?, ixF, biF, isTy, isNon, lentOf, avCells, putBack, outs, lentC, hv, hl, hl2, er, ez, lp]
theorem backs_read {n k : Nat} {r : R} (g : r.Good) (hk : k < 1000) : callF prog (n + 5) 7 [.fz (rl r.p r.q r.m), .fz (.int r.s), .fz (.int k)] = some (.fz (.tup (rw k (sg r))), [.fz (rl r.p r.q r.m), .fz (.int r.s), .fz (.int k)]) := by
  have e1 := blocks_along (n := n) g (k := k) hk
  have ec := cut_tail k r.row
  have lp := mapL_rw (step := lcG (evE (callF prog (n + 4)) (.cmp .eq (.var 3) (.lit (.int 0)))) (evF (callF prog (n + 4)) .no) (.t2 (.nm 3) (.nm 4)) [3, 4]) (l := [.fz (rl r.p r.q r.m), .fz (.int r.s), .fz (.int k), .un, .un]) (f := fun i => r.row (i + 1)) k (sg r) fun i hi => by
    by_cases h : r.pl (i + 1) = 0 <;> simp [evE_var, evE_cst, evE_lit, evE_bin, evE_neg, evE_not, evE_and, evE_or, evE_ife, evE_cmp, evE_chn, evE_tup, evE_ix, evE_sl, evE_call, evE_bi, evE_isi, evE_fr, evE_oix, evE_olen, evE_otup, evE_calO, evAs_nil, evAs_e, evAs_st, evAs_ln, evP_no, evP_so, evF_no, evF_so, evO_dis, evO_lc, evO_lis, evO_cat, evO_rep, evO_sl, evO_osl, evO_call, evO_mv, evO_orr, evI_it, evI_r1, evI_r2, evI_en, evI_zp, exS_asg, exS_par2, exS_par3, exS_own, exS_app, exS_set, exS_exp, exS_ret, exS_retO, exS_ife, exS_whl, exS_for_, exS_never, exS_frz, exSs_nil, exSs_cons, runDef, evT_eq, bd_some, bd_none, mpo_some, mpo_none, callV_eq, forG_eq, lcG_eq, getZ, getO, setT, putC, updO, isLent_un, isLent_fz, isLent_ow, isMine_un, isMine_fz, isMine_ow, isOw_un, isOw_fz, isOw_ow, lastI_succ, lastI_lent, lastI_ow, at_0, at_1, at_2, m_lt0, m_le1, m_le2, m_le3, m_le4, m_le5, m_le6, m_le7, m_le8, cmp_eq_int, cmp_ne_int, cmp_eq_bl, cmp_ne_bl, cmp_lt_int, cmp_le_int, cmp_gt_int, cmp_ge_int, cmp_isN, cmp_notN, cmp_inn, op_add, op_sub, op_mul, op_fdiv, op_mod, op_pow, cellI_zero, cellI_succ, cellI_lent, noOw, wipeC, backC, truth, bool?, int?, items?, vals?, ixF, biF, isTy, isNon, lentOf, avCells, putBack, outs, lentC, sg, R.row, h]
  have hl : (rw k fun i => r.row (i + 1)).length ≤ most := by rw [rw_len]; unfold most; omega
  rw [call_body (d := d_backs_read) rfl rfl]
  simp [d_backs_read, retOf, evE_var, evE_cst, evE_lit, evE_bin, evE_neg, evE_not, evE_and, evE_or, evE_ife, evE_cmp, evE_chn, evE_tup, evE_ix, evE_sl, evE_call, evE_bi, evE_isi, evE_fr, evE_oix, evE_olen, evE_otup, evE_calO, evAs_nil, evAs_e, evAs_st, evAs_ln, evP_no, evP_so, evF_no, evF_so, evO_dis, evO_lc, evO_lis, evO_cat, evO_rep, evO_sl, evO_osl, evO_call, evO_mv, evO_orr, evI_it, evI_r1, evI_r2, evI_en, evI_zp, exS_asg, exS_par2, exS_par3, exS_own, exS_app, exS_set, exS_exp, exS_ret, exS_retO, exS_ife, exS_whl, exS_for_, exS_never, exS_frz, exSs_nil, exSs_cons, runDef, evT_eq, bd_some, bd_none, mpo_some, mpo_none, callV_eq, forG_eq, lcG_eq, getZ, getO, setT, putC, updO, isLent_un, isLent_fz, isLent_ow, isMine_un, isMine_fz, isMine_ow, isOw_un, isOw_fz, isOw_ow, lastI_succ, lastI_lent, lastI_ow, at_0, at_1, at_2, m_lt0, m_le1, m_le2, m_le3, m_le4, m_le5, m_le6, m_le7, m_le8, cmp_eq_int, cmp_ne_int, cmp_eq_bl, cmp_ne_bl, cmp_lt_int, cmp_le_int, cmp_gt_int, cmp_ge_int, cmp_isN, cmp_notN, cmp_inn, op_add, op_sub, op_mul, op_fdiv, op_mod, op_pow, cellI_zero, cellI_succ, cellI_lent, noOw, wipeC, backC, truth, bool?, int?, items?, vals?, ixF, biF, isTy, isNon, lentOf, avCells, putBack, outs, lentC, e1, ec, lp, hl]
/-- whether a rule reads so -/
def isS (p q m s : Int) : Bool := decide (1 ≤ s) && decide (s < nx p q m s)
def rdB (p q m s : Int) (k : Nat) (D : Da) : Bool := isS p q m s && eqv (rdT ⟨p, q, m, s⟩ k) D
theorem rdT_ok (r : R) (k : Nat) : sh 8 (rdT r k) = true := sh_rw fun i _ => by simp [sh]
theorem is_read_by {n k : Nat} {p q m s : Int} (ok : Ok p q) {g : Nat → Int} (hg : g 0 = s) (hk : k < 900) : callF prog (n + 5) 20 [.fz (rl p q m), .fz (.tup (rw (k + 1) fun i => .int (g i)))] = some (.fz (.bl (rdB p q m s (k + 1) (.tup (rw (k + 1) fun i => .int (g i))))), [.fz (rl p q m), .fz (.tup (rw (k + 1) fun i => .int (g i)))]) := by
  have e0 : callF prog (n + 4) 8 [.fz (.tup (rw (k + 1) fun i => .int (g i)))] = some (.fz (.tup (rw (k + 1) fun i => .int (g i))), [.fz (.tup (rw (k + 1) fun i => .int (g i)))]) := tupled 1 (n + 2) _ (tt_rw (by unfold most; omega) fun i _ => by simp [tt])
  have hD : sh 8 (.tup (rw (k + 1) fun i => Da.int (g i))) = true := sh_rw fun i _ => by simp [sh]
  have hlen : (rw (k + 1) fun i => Da.int (g i)).length = k + 1 := rw_len _ _
  have hat : at? (rw (k + 1) fun i => Da.int (g i)) 0 = some (.int s) := by
    have := rw_at (n := k + 1) (i := 0) (fun i => Da.int (g i)) (by omega)
    rw [hg] at this
    exact this
  obtain ⟨D, hDe⟩ : ∃ D, D = rw (k + 1) fun i => Da.int (g i) := ⟨_, rfl⟩
  rw [← hDe] at e0 hD hlen hat ⊢
  have e1 := is_start (n := n + 2) (m := m) (s := s) ok
  have hn0 : ¬ ((k : Int) + 1 = 0) := by omega
  have hlen' : (D.length : Int) = (k : Int) + 1 := by rw [hlen]; omega
  unfold rdB isS
  rw [call_body (d := d_is_read_by) rfl rfl]
  by_cases h : (decide (1 ≤ s) && decide (s < nx p q m s)) = true
  · have h' := h
    rw [Bool.and_eq_true] at h'
    have gd : (⟨p, q, m, s⟩ : R).Good := ⟨ok, of_decide_eq_true h'.1, of_decide_eq_true h'.2⟩
    have e2 := blocks_along (n := n) gd (k := k + 1) (by omega)
    have ek : ((k + 1 : Nat) : Int) = (k : Int) + 1 := by omega
    rw [ek] at e2
    have ec := cut_tail (k + 1) (⟨p, q, m, s⟩ : R).row
    have lp := mapL_rw (step := lcG (evE (callF prog (n + 4)) (.var 3)) (evF (callF prog (n + 4)) .no) (.t2 (.nm 3) (.nm 4)) [3, 4]) (l := [.fz (rl p q m), .fz (.tup D), .fz (.tup D), .un, .un]) (f := fun i => (⟨p, q, m, s⟩ : R).row (i + 1)) (k + 1) (fun i => .int ((⟨p, q, m, s⟩ : R).pl (i + 1))) fun i hi => by
      simp [evE_var, evE_cst, evE_lit, evE_bin, evE_neg, evE_not, evE_and, evE_or, evE_ife, evE_cmp, evE_chn, evE_tup, evE_ix, evE_sl, evE_call, evE_bi, evE_isi, evE_fr, evE_oix, evE_olen, evE_otup, evE_calO, evAs_nil, evAs_e, evAs_st, evAs_ln, evP_no, evP_so, evF_no, evF_so, evO_dis, evO_lc, evO_lis, evO_cat, evO_rep, evO_sl, evO_osl, evO_call, evO_mv, evO_orr, evI_it, evI_r1, evI_r2, evI_en, evI_zp, exS_asg, exS_par2, exS_par3, exS_own, exS_app, exS_set, exS_exp, exS_ret, exS_retO, exS_ife, exS_whl, exS_for_, exS_never, exS_frz, exSs_nil, exSs_cons, runDef, evT_eq, bd_some, bd_none, mpo_some, mpo_none, callV_eq, forG_eq, lcG_eq, getZ, getO, setT, putC, updO, isLent_un, isLent_fz, isLent_ow, isMine_un, isMine_fz, isMine_ow, isOw_un, isOw_fz, isOw_ow, lastI_succ, lastI_lent, lastI_ow, at_0, at_1, at_2, m_lt0, m_le1, m_le2, m_le3, m_le4, m_le5, m_le6, m_le7, m_le8, cmp_eq_int, cmp_ne_int, cmp_eq_bl, cmp_ne_bl, cmp_lt_int, cmp_le_int, cmp_gt_int, cmp_ge_int, cmp_isN, cmp_notN, cmp_inn, op_add, op_sub, op_mul, op_fdiv, op_mod, op_pow, cellI_zero, cellI_succ, cellI_lent, noOw, wipeC, backC, truth, bool?, int?, items?, vals?, ixF, biF, isTy, isNon, lentOf, avCells, putBack, outs, lentC, R.row]
    have hl : (rw (k + 1) fun i => (⟨p, q, m, s⟩ : R).row (i + 1)).length ≤ most := by rw [rw_len]; unfold most; omega
    have hc := cmp_eq_gen (rdT_ok ⟨p, q, m, s⟩ (k + 1)) hD
    unfold rdT at hc ⊢
    rw [h] at e1 ⊢
    simp [d_is_read_by, retOf, evE_var, evE_cst, evE_lit, evE_bin, evE_neg, evE_not, evE_and, evE_or, evE_ife, evE_cmp, evE_chn, evE_tup, evE_ix, evE_sl, evE_call, evE_bi, evE_isi, evE_fr, evE_oix, evE_olen, evE_otup, evE_calO, evAs_nil, evAs_e, evAs_st, evAs_ln, evP_no, evP_so, evF_no, evF_so, evO_dis, evO_lc, evO_lis, evO_cat, evO_rep, evO_sl, evO_osl, evO_call, evO_mv, evO_orr, evI_it, evI_r1, evI_r2, evI_en, evI_zp, exS_asg, exS_par2, exS_par3, exS_own, exS_app, exS_set, exS_exp, exS_ret, exS_retO, exS_ife, exS_whl, exS_for_, exS_never, exS_frz, exSs_nil, exSs_cons, runDef, evT_eq, bd_some, bd_none, mpo_some, mpo_none, callV_eq, forG_eq, lcG_eq, getZ, getO, setT, putC, updO, isLent_un, isLent_fz, isLent_ow, isMine_un, isMine_fz, isMine_ow, isOw_un, isOw_fz, isOw_ow, lastI_succ, lastI_lent, lastI_ow, at_0, at_1, at_2, m_lt0, m_le1, m_le2, m_le3, m_le4, m_le5, m_le6, m_le7, m_le8, cmp_eq_int, cmp_ne_int, cmp_eq_bl, cmp_ne_bl, cmp_lt_int, cmp_le_int, cmp_gt_int, cmp_ge_int, cmp_isN, cmp_notN, cmp_inn, op_add, op_sub, op_mul, op_fdiv, op_mod, op_pow, cellI_zero, cellI_succ, cellI_lent, noOw, wipeC, backC, truth, bool?, int?, items?, vals?, ixF_tup, ixF_lst, bi_len, bi_int, bi_lent, bi_intb, bi_abs, bi_tupl, bi_tupt, max_int2, isTy, isNon, lentOf, avCells, putBack, outs, lentC, e0, hlen', hn0, hat, e1, e2, ec, lp, hl, hc]
  · have h2 : (decide (1 ≤ s) && decide (s < nx p q m s)) = false := by simpa using h
    rw [h2] at e1 ⊢
    simp [d_is_read_by, retOf, evE_var, evE_cst, evE_lit, evE_bin, evE_neg, evE_not, evE_and, evE_or, evE_ife, evE_cmp, evE_chn, evE_tup, evE_ix, evE_sl, evE_call, evE_bi, evE_isi, evE_fr, evE_oix, evE_olen, evE_otup, evE_calO, evAs_nil, evAs_e, evAs_st, evAs_ln, evP_no, evP_so, evF_no, evF_so, evO_dis, evO_lc, evO_lis, evO_cat, evO_rep, evO_sl, evO_osl, evO_call, evO_mv, evO_orr, evI_it, evI_r1, evI_r2, evI_en, evI_zp, exS_asg, exS_par2, exS_par3, exS_own, exS_app, exS_set, exS_exp, exS_ret, exS_retO, exS_ife, exS_whl, exS_for_, exS_never, exS_frz, exSs_nil, exSs_cons, runDef, evT_eq, bd_some, bd_none, mpo_some, mpo_none, callV_eq, forG_eq, lcG_eq, getZ, getO, setT, putC, updO, isLent_un, isLent_fz, isLent_ow, isMine_un, isMine_fz, isMine_ow, isOw_un, isOw_fz, isOw_ow, lastI_succ, lastI_lent, lastI_ow, at_0, at_1, at_2, m_lt0, m_le1, m_le2, m_le3, m_le4, m_le5, m_le6, m_le7, m_le8, cmp_eq_int, cmp_ne_int, cmp_eq_bl, cmp_ne_bl, cmp_lt_int, cmp_le_int, cmp_gt_int, cmp_ge_int, cmp_isN, cmp_notN, cmp_inn, op_add, op_sub, op_mul, op_fdiv, op_mod, op_pow, cellI_zero, cellI_succ, cellI_lent, noOw, wipeC, backC, truth, bool?, int?, items?, vals?, ixF_tup, ixF_lst, bi_len, bi_int, bi_lent, bi_intb, bi_abs, bi_tupl, bi_tupt, max_int2, isTy, isNon, lentOf, avCells, putBack, outs, lentC, e0, hlen', hn0, hat, e1]
/-! ### starts that read so -/
theorem mapL_keep {step : Da → L → Option (Option Da × L)} {l : L} {ds : List Da} {c : Da → Bool} (h : ∀ d, d ∈ ds → step d l = some (if c d then some d else none, l)) : mapL step ds l = some (ds.filter c, l) := by
  have := mapL_const (step := step) (l := l) (fun d => if c d then some d else none) ds h
  rw [this]
  congr 2
  clear this h
  induction ds with
  | nil => rfl
  | cons d r ih =>
    by_cases q : c d = true
    · simp [q, ih]
    · simp [q, ih]
def stC (p q m : Int) (K : Nat) (D : Da) : Da → Bool
  | .int t => eqv (.tup (rw K (sg ⟨p, q, m, t⟩))) D
  | _ => false
def startsL (p q m : Int) (K M : Nat) (D : Da) : List Da := (rwF M (fun i => isS p q m (1 + (i : Nat))) (fun i => .int (1 + (i : Nat)))).filter (stC p q m K D)
theorem starts_read {n K M : Nat} {p q m : Int} (ok : Ok p q) {g : Nat → Bool} (hK : K < 900) (hM : M < 900) :
    callF prog (n + 6) 12 [.fz (rl p q m), .fz (.tup (rw K fun i => .bl (g i))), .fz (.int M)] = some (.fz (.tup (startsL p q m K M (.tup (rw K fun i => .bl (g i))))), [.fz (rl p q m), .fz (.tup (rw K fun i => .bl (g i))), .fz (.int M)]) := by
  have e0 : callF prog (n + 5) 8 [.fz (.tup (rw K fun i => .bl (g i)))] = some (.fz (.tup (rw K fun i => .bl (g i))), [.fz (.tup (rw K fun i => .bl (g i)))]) := tupled 1 (n + 3) _ (tt_rw (by unfold most; omega) fun i _ => by simp [tt])
  have hD : sh 8 (.tup (rw K fun i => Da.bl (g i))) = true := sh_rw fun i _ => by simp [sh]
  have hlen : ((rw K fun i => Da.bl (g i)).length : Int) = K := by rw [rw_len]
  obtain ⟨D, hDe⟩ : ∃ D, D = rw K fun i => Da.bl (g i) := ⟨_, rfl⟩
  rw [← hDe] at e0 hD hlen ⊢
  have hr1 : rngOk 1 = true := by decide
  have hr2 : rngOk ((M : Int) + 1) = true := by unfold rngOk; simp; omega
  have hm : ((M : Int) + 1 - 1).toNat = M := by omega
  have hrl : (rangeL 1 M).length ≤ most := by rw [rangeL_len]; unfold most; omega
  have lp1 := mapL_rwF (step := lcG (evE (callF prog (n + 5)) (.var 5)) (evF (callF prog (n + 5)) (.so (.call 4 (.e (.var 0) (.e (.var 5) .nil))))) (.nm 5) [5]) (l := [.fz (rl p q m), .fz (.tup D), .fz (.int M), .un, .un, .un]) (f := fun i => .int (1 + (i : Nat))) M (fun i => isS p q m (1 + (i : Nat))) (fun i => .int (1 + (i : Nat))) fun i hi => by
    have e1 := is_start (n := n + 3) (m := m) (s := 1 + (i : Int)) ok
    by_cases h : isS p q m (1 + (i : Int)) = true
    · unfold isS at h ⊢
      rw [h] at e1 ⊢
      simp [evE_var, evE_cst, evE_lit, evE_bin, evE_neg, evE_not, evE_and, evE_or, evE_ife, evE_cmp, evE_chn, evE_tup, evE_ix, evE_sl, evE_call, evE_bi, evE_isi, evE_fr, evE_oix, evE_olen, evE_otup, evE_calO, evAs_nil, evAs_e, evAs_st, evAs_ln, evP_no, evP_so, evF_no, evF_so, evO_dis, evO_lc, evO_lis, evO_cat, evO_rep, evO_sl, evO_osl, evO_call, evO_mv, evO_orr, evI_it, evI_r1, evI_r2, evI_en, evI_zp, exS_asg, exS_par2, exS_par3, exS_own, exS_app, exS_set, exS_exp, exS_ret, exS_retO, exS_ife, exS_whl, exS_for_, exS_never, exS_frz, exSs_nil, exSs_cons, runDef, evT_eq, bd_some, bd_none, mpo_some, mpo_none, callV_eq, forG_eq, lcG_eq, getZ, getO, setT, putC, updO, isLent_un, isLent_fz, isLent_ow, isMine_un, isMine_fz, isMine_ow, isOw_un, isOw_fz, isOw_ow, lastI_succ, lastI_lent, lastI_ow, at_0, at_1, at_2, m_lt0, m_le1, m_le2, m_le3, m_le4, m_le5, m_le6, m_le7, m_le8, cmp_eq_int, cmp_ne_int, cmp_eq_bl, cmp_ne_bl, cmp_lt_int, cmp_le_int, cmp_gt_int, cmp_ge_int, cmp_isN, cmp_notN, cmp_inn, op_add, op_sub, op_mul, op_fdiv, op_mod, op_pow, cellI_zero, cellI_succ, cellI_lent, noOw, wipeC, backC, truth, bool?, int?, items?, vals?, ixF, biF, isTy, isNon, lentOf, avCells, putBack, outs, lentC, e1]
    · have h : isS p q m (1 + (i : Int)) = false := by simpa using h
      unfold isS at h ⊢
      rw [h] at e1 ⊢
      simp [evE_var, evE_cst, evE_lit, evE_bin, evE_neg, evE_not, evE_and, evE_or, evE_ife, evE_cmp, evE_chn, evE_tup, evE_ix, evE_sl, evE_call, evE_bi, evE_isi, evE_fr, evE_oix, evE_olen, evE_otup, evE_calO, evAs_nil, evAs_e, evAs_st, evAs_ln, evP_no, evP_so, evF_no, evF_so, evO_dis, evO_lc, evO_lis, evO_cat, evO_rep, evO_sl, evO_osl, evO_call, evO_mv, evO_orr, evI_it, evI_r1, evI_r2, evI_en, evI_zp, exS_asg, exS_par2, exS_par3, exS_own, exS_app, exS_set, exS_exp, exS_ret, exS_retO, exS_ife, exS_whl, exS_for_, exS_never, exS_frz, exSs_nil, exSs_cons, runDef, evT_eq, bd_some, bd_none, mpo_some, mpo_none, callV_eq, forG_eq, lcG_eq, getZ, getO, setT, putC, updO, isLent_un, isLent_fz, isLent_ow, isMine_un, isMine_fz, isMine_ow, isOw_un, isOw_fz, isOw_ow, lastI_succ, lastI_lent, lastI_ow, at_0, at_1, at_2, m_lt0, m_le1, m_le2, m_le3, m_le4, m_le5, m_le6, m_le7, m_le8, cmp_eq_int, cmp_ne_int, cmp_eq_bl, cmp_ne_bl, cmp_lt_int, cmp_le_int, cmp_gt_int, cmp_ge_int, cmp_isN, cmp_notN, cmp_inn, op_add, op_sub, op_mul, op_fdiv, op_mod, op_pow, cellI_zero, cellI_succ, cellI_lent, noOw, wipeC, backC, truth, bool?, int?, items?, vals?, ixF, biF, isTy, isNon, lentOf, avCells, putBack, outs, lentC, e1]
  rw [← rangeL_rw] at lp1
  obtain ⟨ss, hss⟩ : ∃ ss, ss = rwF M (fun i => isS p q m (1 + (i : Nat))) (fun i => Da.int (1 + (i : Nat))) := ⟨_, rfl⟩
  rw [← hss] at lp1
  have lp2 := mapL_keep (step := lcG (evE (callF prog (n + 5)) (.var 5)) (evF (callF prog (n + 5)) (.so (.cmp .eq (.call 7 (.e (.var 0) (.e (.var 5) (.e (.bi .len (.e (.var 3) .nil)) .nil)))) (.var 3)))) (.nm 5) [5]) (l := [.fz (rl p q m), .fz (.tup D), .fz (.int M), .fz (.tup D), .fz (.lst ss), .un]) (ds := ss) (c := stC p q m K (.tup D)) fun d hd => by
    rw [hss] at hd
    obtain ⟨i, hi, hc, rfl⟩ := rwF_mem hd
    unfold isS at hc
    rw [Bool.and_eq_true] at hc
    have gd : (⟨p, q, m, 1 + (i : Nat)⟩ : R).Good := ⟨ok, of_decide_eq_true hc.1, of_decide_eq_true hc.2⟩
    have e1 := backs_read (n := n) gd (k := K) (by omega)
    have hc2 := cmp_eq_gen (x := .tup (rw K (sg ⟨p, q, m, 1 + (i : Nat)⟩))) (y := .tup D) (sh_rw fun i _ => by simp [sg, sh]) hD
    have es : stC p q m K (.tup D) (.int (1 + (i : Nat))) = eqv (.tup (rw K (sg ⟨p, q, m, 1 + (i : Nat)⟩))) (.tup D) := rfl
    rw [es]
    by_cases h : eqv (.tup (rw K (sg ⟨p, q, m, 1 + (i : Nat)⟩))) (.tup D) = true
    · rw [h] at hc2 ⊢
      simp [evE_var, evE_cst, evE_lit, evE_bin, evE_neg, evE_not, evE_and, evE_or, evE_ife, evE_cmp, evE_chn, evE_tup, evE_ix, evE_sl, evE_call, evE_bi, evE_isi, evE_fr, evE_oix, evE_olen, evE_otup, evE_calO, evAs_nil, evAs_e, evAs_st, evAs_ln, evP_no, evP_so, evF_no, evF_so, evO_dis, evO_lc, evO_lis, evO_cat, evO_rep, evO_sl, evO_osl, evO_call, evO_mv, evO_orr, evI_it, evI_r1, evI_r2, evI_en, evI_zp, exS_asg, exS_par2, exS_par3, exS_own, exS_app, exS_set, exS_exp, exS_ret, exS_retO, exS_ife, exS_whl, exS_for_, exS_never, exS_frz, exSs_nil, exSs_cons, runDef, evT_eq, bd_some, bd_none, mpo_some, mpo_none, callV_eq, forG_eq, lcG_eq, getZ, getO, setT, putC, updO, isLent_un, isLent_fz, isLent_ow, isMine_un, isMine_fz, isMine_ow, isOw_un, isOw_fz, isOw_ow, lastI_succ, lastI_lent, lastI_ow, at_0, at_1, at_2, m_lt0, m_le1, m_le2, m_le3, m_le4, m_le5, m_le6, m_le7, m_le8, cmp_eq_int, cmp_ne_int, cmp_eq_bl, cmp_ne_bl, cmp_lt_int, cmp_le_int, cmp_gt_int, cmp_ge_int, cmp_isN, cmp_notN, cmp_inn, op_add, op_sub, op_mul, op_fdiv, op_mod, op_pow, cellI_zero, cellI_succ, cellI_lent, noOw, wipeC, backC, truth, bool?, int?, items?, vals?, ixF_tup, ixF_lst, bi_len, bi_int, bi_lent, bi_intb, bi_abs, bi_tupl, bi_tupt, max_int2, isTy, isNon, lentOf, avCells, putBack, outs, lentC, e1, hlen, hc2]
    · have h : eqv (.tup (rw K (sg ⟨p, q, m, 1 + (i : Nat)⟩))) (.tup D) = false := by simpa using h
      rw [h] at hc2 ⊢
      simp [evE_var, evE_cst, evE_lit, evE_bin, evE_neg, evE_not, evE_and, evE_or, evE_ife, evE_cmp, evE_chn, evE_tup, evE_ix, evE_sl, evE_call, evE_bi, evE_isi, evE_fr, evE_oix, evE_olen, evE_otup, evE_calO, evAs_nil, evAs_e, evAs_st, evAs_ln, evP_no, evP_so, evF_no, evF_so, evO_dis, evO_lc, evO_lis, evO_cat, evO_rep, evO_sl, evO_osl, evO_call, evO_mv, evO_orr, evI_it, evI_r1, evI_r2, evI_en, evI_zp, exS_asg, exS_par2, exS_par3, exS_own, exS_app, exS_set, exS_exp, exS_ret, exS_retO, exS_ife, exS_whl, exS_for_, exS_never, exS_frz, exSs_nil, exSs_cons, runDef, evT_eq, bd_some, bd_none, mpo_some, mpo_none, callV_eq, forG_eq, lcG_eq, getZ, getO, setT, putC, updO, isLent_un, isLent_fz, isLent_ow, isMine_un, isMine_fz, isMine_ow, isOw_un, isOw_fz, isOw_ow, lastI_succ, lastI_lent, lastI_ow, at_0, at_1, at_2, m_lt0, m_le1, m_le2, m_le3, m_le4, m_le5, m_le6, m_le7, m_le8, cmp_eq_int, cmp_ne_int, cmp_eq_bl, cmp_ne_bl, cmp_lt_int, cmp_le_int, cmp_gt_int, cmp_ge_int, cmp_isN, cmp_notN, cmp_inn, op_add, op_sub, op_mul, op_fdiv, op_mod, op_pow, cellI_zero, cellI_succ, cellI_lent, noOw, wipeC, backC, truth, bool?, int?, items?, vals?, ixF_tup, ixF_lst, bi_len, bi_int, bi_lent, bi_intb, bi_abs, bi_tupl, bi_tupt, max_int2, isTy, isNon, lentOf, avCells, putBack, outs, lentC, e1, hlen, hc2]
  have hsl : ss.length ≤ most := by rw [hss]; exact Nat.le_trans (rwF_len _ _ _) (by unfold most; omega)
  unfold startsL
  rw [← hss]
  rw [call_body (d := d_starts_read) rfl rfl]
  simp [d_starts_read, retOf, evE_var, evE_cst, evE_lit, evE_bin, evE_neg, evE_not, evE_and, evE_or, evE_ife, evE_cmp, evE_chn, evE_tup, evE_ix, evE_sl, evE_call, evE_bi, evE_isi, evE_fr, evE_oix, evE_olen, evE_otup, evE_calO, evAs_nil, evAs_e, evAs_st, evAs_ln, evP_no, evP_so, evF_no, evF_so, evO_dis, evO_lc, evO_lis, evO_cat, evO_rep, evO_sl, evO_osl, evO_call, evO_mv, evO_orr, evI_it, evI_r1, evI_r2, evI_en, evI_zp, exS_asg, exS_par2, exS_par3, exS_own, exS_app, exS_set, exS_exp, exS_ret, exS_retO, exS_ife, exS_whl, exS_for_, exS_never, exS_frz, exSs_nil, exSs_cons, runDef, evT_eq, bd_some, bd_none, mpo_some, mpo_none, callV_eq, forG_eq, lcG_eq, getZ, getO, setT, putC, updO, isLent_un, isLent_fz, isLent_ow, isMine_un, isMine_fz, isMine_ow, isOw_un, isOw_fz, isOw_ow, lastI_succ, lastI_lent, lastI_ow, at_0, at_1, at_2, m_lt0, m_le1, m_le2, m_le3, m_le4, m_le5, m_le6, m_le7, m_le8, cmp_eq_int, cmp_ne_int, cmp_eq_bl, cmp_ne_bl, cmp_lt_int, cmp_le_int, cmp_gt_int, cmp_ge_int, cmp_isN, cmp_notN, cmp_inn, op_add, op_sub, op_mul, op_fdiv, op_mod, op_pow, cellI_zero, cellI_succ, cellI_lent, noOw, wipeC, backC, truth, bool?, int?, items?, vals?, ixF_tup, ixF_lst, bi_len, bi_int, bi_lent, bi_intb, bi_abs, bi_tupl, bi_tupt, max_int2, isTy, isNon, lentOf, avCells, putBack, outs, lentC, e0, hr1, hr2, hm, hrl, lp1, lp2, hsl]
theorem starts_mem {p q m : Int} {K M : Nat} {D d : Da} (h : d ∈ startsL p q m K M D) : ∃ t : Int, d = .int t ∧ 1 ≤ t ∧ t ≤ M ∧ isS p q m t = true := by
  unfold startsL at h
  obtain ⟨h1, h2⟩ := List.mem_filter.mp h
  obtain ⟨i, hi, hc, rfl⟩ := rwF_mem h1
  exact ⟨_, rfl, by omega, by omega, hc⟩
theorem starts_has {p q m t : Int} {K M : Nat} {D : Da} (h1 : 1 ≤ t) (h2 : t ≤ M) (h3 : isS p q m t = true) (h4 : eqv (.tup (rw K (sg ⟨p, q, m, t⟩))) D = true) : Da.int t ∈ startsL p q m K M D := by
  unfold startsL
  refine List.mem_filter.mpr ⟨?_, h4⟩
  unfold rwF
  have e : 1 + (((t - 1).toNat : Nat) : Int) = t := by omega
  refine List.mem_map.mpr ⟨(t - 1).toNat, List.mem_filter.mpr ⟨List.mem_range.mpr (by omega), ?_⟩, ?_⟩
  · rw [e]; exact h3
  · rw [e]
theorem starts_len (p q m : Int) (K M : Nat) (D : Da) : (startsL p q m K M D).length ≤ M := Nat.le_trans (List.length_filter_le _ _) (rwF_len _ _ _)
end K97

set_option linter.all false
set_option maxRecDepth 100000
/-! K97C: what is barred. -/
namespace K97
open Mini
def earlyB : Option Nat → Nat → Bool
  | none, _ => true
  | some k, h => decide (h < k)
def lateB : Option Nat → Nat → Bool
  | none, _ => false
  | some k, h => decide (k < h)
def barred (d : Option Nat) (m : Int) : Nat → List Bool → Bool
  | _, [] => false
  | h, b :: r => (b && (decide (0 < m) && earlyB d h)) || ((decide (m = 0) && lateB d (if b then 0 else h + 1)) || barred d m (if b then 0 else h + 1) r)
theorem barred_cons (d : Option Nat) (m : Int) (h : Nat) (b : Bool) (r : List Bool) : barred d m h (b :: r) = ((b && (decide (0 < m) && earlyB d h)) || ((decide (m = 0) && lateB d (if b then 0 else h + 1)) || barred d m (if b then 0 else h + 1) r)) := (rfl)
def ibb : Ss := d_is_barred.body
theorem is_barred {n : Nat} {p q m : Int} (h0 : 1 ≤ q) (h1 : q ≤ p) (h2 : p ≤ 20) (bs : List Bool) : callF prog (n + 3) 18 [.fz (rl p q m), .fz (.tup (bs.map .bl))] = some (.fz (.bl (barred (stl p q) m 0 bs)), [.fz (rl p q m), .fz (.tup (bs.map .bl))]) := by
  obtain ⟨D, hD⟩ : ∃ D, D = bs.map Da.bl := ⟨_, rfl⟩
  obtain ⟨d, hd⟩ : ∃ d, d = stl p q := ⟨_, rfl⟩
  have e1 := steady_lap (n := n) (m := m) h0 h1 h2
  rw [← hd] at e1 ⊢
  have lp : ∀ (cs : List Bool) (h : Nat) (c : Cell), isLent c = false → ∃ o, forS (forG (exSs (callF prog (n + 2)) (forBd (nthS 1 ibb))) (.nm 5)) (cs.map .bl) [.fz (rl p q m), .fz (.tup D), .fz (stD d), .fz (.int m), .fz (.int (h : Nat)), c] = some o ∧
      (if barred d m h cs then rtOf o = some (.fz (.bl true)) else ∃ l, o = .nx l) := by
    intro cs
    induction cs with
    | nil => intro h c _; exact ⟨_, rfl, _, rfl⟩
    | cons b r ih =>
      intro h c hc
      rw [List.map_cons, forS]
      have step : ∃ o, forG (exSs (callF prog (n + 2)) (forBd (nthS 1 ibb))) (.nm 5) (.bl b) [.fz (rl p q m), .fz (.tup D), .fz (stD d), .fz (.int m), .fz (.int (h : Nat)), c] = some o ∧
          (if (b && (decide (0 < m) && earlyB d h)) || (decide (m = 0) && lateB d (if b then 0 else h + 1)) then rtOf o = some (.fz (.bl true)) else o = .nx [.fz (rl p q m), .fz (.tup D), .fz (stD d), .fz (.int m), .fz (.int ((if b then 0 else h + 1 : Nat) : Int)), .fz (.bl b)]) := by
        cases b with
        | true =>
          by_cases hm : 0 < m
          · have hm0 : ¬ m = 0 := by omega
            cases d with
            | none => exact ⟨.rt (.fz (.bl true)) [.fz (rl p q m), .fz (.tup D), .fz .non, .fz (.int m), .fz (.int (h : Nat)), .fz (.bl true)], by simp [forBd, nthS, ibb, d_is_barred, evE_var, evE_cst, evE_lit, evE_bin, evE_neg, evE_not, evE_and, evE_or, evE_ife, evE_cmp, evE_chn, evE_tup, evE_ix, evE_sl, evE_call, evE_bi, evE_isi, evE_fr, evE_oix, evE_olen, evE_otup, evE_calO, evAs_nil, evAs_e, evAs_st, evAs_ln, evP_no, evP_so, evF_no, evF_so, evO_dis, evO_lc, evO_lis, evO_cat, evO_rep, evO_sl, evO_osl, evO_call, evO_mv, evO_orr, evI_it, evI_r1, evI_r2, evI_en, evI_zp, exS_asg, exS_par2, exS_par3, exS_own, exS_app, exS_set, exS_exp, exS_ret, exS_retO, exS_ife, exS_whl, exS_for_, exS_never, exS_frz, exSs_nil, exSs_cons, runDef, evT_eq, bd_some, bd_none, mpo_some, mpo_none, callV_eq, forG_eq, lcG_eq, getZ, getO, setT, putC, updO, isLent_un, isLent_fz, isLent_ow, isMine_un, isMine_fz, isMine_ow, isOw_un, isOw_fz, isOw_ow, lastI_succ, lastI_lent, lastI_ow, at_0, at_1, at_2, m_lt0, m_le1, m_le2, m_le3, m_le4, m_le5, m_le6, m_le7, m_le8, cmp_eq_int, cmp_ne_int, cmp_eq_bl, cmp_ne_bl, cmp_lt_int, cmp_le_int, cmp_gt_int, cmp_ge_int, cmp_isN, cmp_notN, cmp_inn, op_add, op_sub, op_mul, op_fdiv, op_mod, op_pow, cellI_zero, cellI_succ, cellI_lent, noOw, wipeC, backC, truth, bool?, int?, items?, vals?, ixF, biF, isTy, isNon, lentOf, avCells, putBack, outs, lentC, hc, hm, stD], by simp [hm, rtOf, earlyB, lateB]⟩
            | some k =>
              by_cases hk : h < k
              · have hk' : (h : Int) < (k : Int) := by omega
                exact ⟨.rt (.fz (.bl true)) [.fz (rl p q m), .fz (.tup D), .fz (.int k), .fz (.int m), .fz (.int (h : Nat)), .fz (.bl true)], by simp [forBd, nthS, ibb, d_is_barred, evE_var, evE_cst, evE_lit, evE_bin, evE_neg, evE_not, evE_and, evE_or, evE_ife, evE_cmp, evE_chn, evE_tup, evE_ix, evE_sl, evE_call, evE_bi, evE_isi, evE_fr, evE_oix, evE_olen, evE_otup, evE_calO, evAs_nil, evAs_e, evAs_st, evAs_ln, evP_no, evP_so, evF_no, evF_so, evO_dis, evO_lc, evO_lis, evO_cat, evO_rep, evO_sl, evO_osl, evO_call, evO_mv, evO_orr, evI_it, evI_r1, evI_r2, evI_en, evI_zp, exS_asg, exS_par2, exS_par3, exS_own, exS_app, exS_set, exS_exp, exS_ret, exS_retO, exS_ife, exS_whl, exS_for_, exS_never, exS_frz, exSs_nil, exSs_cons, runDef, evT_eq, bd_some, bd_none, mpo_some, mpo_none, callV_eq, forG_eq, lcG_eq, getZ, getO, setT, putC, updO, isLent_un, isLent_fz, isLent_ow, isMine_un, isMine_fz, isMine_ow, isOw_un, isOw_fz, isOw_ow, lastI_succ, lastI_lent, lastI_ow, at_0, at_1, at_2, m_lt0, m_le1, m_le2, m_le3, m_le4, m_le5, m_le6, m_le7, m_le8, cmp_eq_int, cmp_ne_int, cmp_eq_bl, cmp_ne_bl, cmp_lt_int, cmp_le_int, cmp_gt_int, cmp_ge_int, cmp_isN, cmp_notN, cmp_inn, op_add, op_sub, op_mul, op_fdiv, op_mod, op_pow, cellI_zero, cellI_succ, cellI_lent, noOw, wipeC, backC, truth, bool?, int?, items?, vals?, ixF, biF, isTy, isNon, lentOf, avCells, putBack, outs, lentC, hc, hm, stD, hk'], by simp [hm, rtOf, hk, earlyB, lateB]⟩
              · have hk' : ¬ (h : Int) < (k : Int) := by omega
                exact ⟨.nx [.fz (rl p q m), .fz (.tup D), .fz (.int k), .fz (.int m), .fz (.int 0), .fz (.bl true)], by simp [forBd, nthS, ibb, d_is_barred, evE_var, evE_cst, evE_lit, evE_bin, evE_neg, evE_not, evE_and, evE_or, evE_ife, evE_cmp, evE_chn, evE_tup, evE_ix, evE_sl, evE_call, evE_bi, evE_isi, evE_fr, evE_oix, evE_olen, evE_otup, evE_calO, evAs_nil, evAs_e, evAs_st, evAs_ln, evP_no, evP_so, evF_no, evF_so, evO_dis, evO_lc, evO_lis, evO_cat, evO_rep, evO_sl, evO_osl, evO_call, evO_mv, evO_orr, evI_it, evI_r1, evI_r2, evI_en, evI_zp, exS_asg, exS_par2, exS_par3, exS_own, exS_app, exS_set, exS_exp, exS_ret, exS_retO, exS_ife, exS_whl, exS_for_, exS_never, exS_frz, exSs_nil, exSs_cons, runDef, evT_eq, bd_some, bd_none, mpo_some, mpo_none, callV_eq, forG_eq, lcG_eq, getZ, getO, setT, putC, updO, isLent_un, isLent_fz, isLent_ow, isMine_un, isMine_fz, isMine_ow, isOw_un, isOw_fz, isOw_ow, lastI_succ, lastI_lent, lastI_ow, at_0, at_1, at_2, m_lt0, m_le1, m_le2, m_le3, m_le4, m_le5, m_le6, m_le7, m_le8, cmp_eq_int, cmp_ne_int, cmp_eq_bl, cmp_ne_bl, cmp_lt_int, cmp_le_int, cmp_gt_int, cmp_ge_int, cmp_isN, cmp_notN, cmp_inn, op_add, op_sub, op_mul, op_fdiv, op_mod, op_pow, cellI_zero, cellI_succ, cellI_lent, noOw, wipeC, backC, truth, bool?, int?, items?, vals?, ixF, biF, isTy, isNon, lentOf, avCells, putBack, outs, lentC, hc, hm, stD, hk, hm0], by simp [hm, hk, hm0, stD, earlyB, lateB]⟩
          · by_cases hm0 : m = 0
            · cases d with
              | none => exact ⟨.nx [.fz (rl p q m), .fz (.tup D), .fz .non, .fz (.int m), .fz (.int 0), .fz (.bl true)], by simp [forBd, nthS, ibb, d_is_barred, evE_var, evE_cst, evE_lit, evE_bin, evE_neg, evE_not, evE_and, evE_or, evE_ife, evE_cmp, evE_chn, evE_tup, evE_ix, evE_sl, evE_call, evE_bi, evE_isi, evE_fr, evE_oix, evE_olen, evE_otup, evE_calO, evAs_nil, evAs_e, evAs_st, evAs_ln, evP_no, evP_so, evF_no, evF_so, evO_dis, evO_lc, evO_lis, evO_cat, evO_rep, evO_sl, evO_osl, evO_call, evO_mv, evO_orr, evI_it, evI_r1, evI_r2, evI_en, evI_zp, exS_asg, exS_par2, exS_par3, exS_own, exS_app, exS_set, exS_exp, exS_ret, exS_retO, exS_ife, exS_whl, exS_for_, exS_never, exS_frz, exSs_nil, exSs_cons, runDef, evT_eq, bd_some, bd_none, mpo_some, mpo_none, callV_eq, forG_eq, lcG_eq, getZ, getO, setT, putC, updO, isLent_un, isLent_fz, isLent_ow, isMine_un, isMine_fz, isMine_ow, isOw_un, isOw_fz, isOw_ow, lastI_succ, lastI_lent, lastI_ow, at_0, at_1, at_2, m_lt0, m_le1, m_le2, m_le3, m_le4, m_le5, m_le6, m_le7, m_le8, cmp_eq_int, cmp_ne_int, cmp_eq_bl, cmp_ne_bl, cmp_lt_int, cmp_le_int, cmp_gt_int, cmp_ge_int, cmp_isN, cmp_notN, cmp_inn, op_add, op_sub, op_mul, op_fdiv, op_mod, op_pow, cellI_zero, cellI_succ, cellI_lent, noOw, wipeC, backC, truth, bool?, int?, items?, vals?, ixF, biF, isTy, isNon, lentOf, avCells, putBack, outs, lentC, hc, stD, hm0], by simp [hm0, stD, earlyB, lateB]⟩
              | some k => exact ⟨.nx [.fz (rl p q m), .fz (.tup D), .fz (.int k), .fz (.int m), .fz (.int 0), .fz (.bl true)], by simp [forBd, nthS, ibb, d_is_barred, evE_var, evE_cst, evE_lit, evE_bin, evE_neg, evE_not, evE_and, evE_or, evE_ife, evE_cmp, evE_chn, evE_tup, evE_ix, evE_sl, evE_call, evE_bi, evE_isi, evE_fr, evE_oix, evE_olen, evE_otup, evE_calO, evAs_nil, evAs_e, evAs_st, evAs_ln, evP_no, evP_so, evF_no, evF_so, evO_dis, evO_lc, evO_lis, evO_cat, evO_rep, evO_sl, evO_osl, evO_call, evO_mv, evO_orr, evI_it, evI_r1, evI_r2, evI_en, evI_zp, exS_asg, exS_par2, exS_par3, exS_own, exS_app, exS_set, exS_exp, exS_ret, exS_retO, exS_ife, exS_whl, exS_for_, exS_never, exS_frz, exSs_nil, exSs_cons, runDef, evT_eq, bd_some, bd_none, mpo_some, mpo_none, callV_eq, forG_eq, lcG_eq, getZ, getO, setT, putC, updO, isLent_un, isLent_fz, isLent_ow, isMine_un, isMine_fz, isMine_ow, isOw_un, isOw_fz, isOw_ow, lastI_succ, lastI_lent, lastI_ow, at_0, at_1, at_2, m_lt0, m_le1, m_le2, m_le3, m_le4, m_le5, m_le6, m_le7, m_le8, cmp_eq_int, cmp_ne_int, cmp_eq_bl, cmp_ne_bl, cmp_lt_int, cmp_le_int, cmp_gt_int, cmp_ge_int, cmp_isN, cmp_notN, cmp_inn, op_add, op_sub, op_mul, op_fdiv, op_mod, op_pow, cellI_zero, cellI_succ, cellI_lent, noOw, wipeC, backC, truth, bool?, int?, items?, vals?, ixF, biF, isTy, isNon, lentOf, avCells, putBack, outs, lentC, hc, stD, hm0, show ¬ (k : Int) < 0 by omega], by simp [hm0, stD, earlyB, lateB]⟩
            · exact ⟨.nx [.fz (rl p q m), .fz (.tup D), .fz (stD d), .fz (.int m), .fz (.int 0), .fz (.bl true)], by simp [forBd, nthS, ibb, d_is_barred, evE_var, evE_cst, evE_lit, evE_bin, evE_neg, evE_not, evE_and, evE_or, evE_ife, evE_cmp, evE_chn, evE_tup, evE_ix, evE_sl, evE_call, evE_bi, evE_isi, evE_fr, evE_oix, evE_olen, evE_otup, evE_calO, evAs_nil, evAs_e, evAs_st, evAs_ln, evP_no, evP_so, evF_no, evF_so, evO_dis, evO_lc, evO_lis, evO_cat, evO_rep, evO_sl, evO_osl, evO_call, evO_mv, evO_orr, evI_it, evI_r1, evI_r2, evI_en, evI_zp, exS_asg, exS_par2, exS_par3, exS_own, exS_app, exS_set, exS_exp, exS_ret, exS_retO, exS_ife, exS_whl, exS_for_, exS_never, exS_frz, exSs_nil, exSs_cons, runDef, evT_eq, bd_some, bd_none, mpo_some, mpo_none, callV_eq, forG_eq, lcG_eq, getZ, getO, setT, putC, updO, isLent_un, isLent_fz, isLent_ow, isMine_un, isMine_fz, isMine_ow, isOw_un, isOw_fz, isOw_ow, lastI_succ, lastI_lent, lastI_ow, at_0, at_1, at_2, m_lt0, m_le1, m_le2, m_le3, m_le4, m_le5, m_le6, m_le7, m_le8, cmp_eq_int, cmp_ne_int, cmp_eq_bl, cmp_ne_bl, cmp_lt_int, cmp_le_int, cmp_gt_int, cmp_ge_int, cmp_isN, cmp_notN, cmp_inn, op_add, op_sub, op_mul, op_fdiv, op_mod, op_pow, cellI_zero, cellI_succ, cellI_lent, noOw, wipeC, backC, truth, bool?, int?, items?, vals?, ixF, biF, isTy, isNon, lentOf, avCells, putBack, outs, lentC, hc, hm, hm0], by simp [hm, hm0]⟩
        | false =>
          by_cases hm0 : m = 0
          · cases d with
            | none => exact ⟨.nx [.fz (rl p q m), .fz (.tup D), .fz .non, .fz (.int m), .fz (.int ((h : Int) + 1)), .fz (.bl false)], by simp [forBd, nthS, ibb, d_is_barred, evE_var, evE_cst, evE_lit, evE_bin, evE_neg, evE_not, evE_and, evE_or, evE_ife, evE_cmp, evE_chn, evE_tup, evE_ix, evE_sl, evE_call, evE_bi, evE_isi, evE_fr, evE_oix, evE_olen, evE_otup, evE_calO, evAs_nil, evAs_e, evAs_st, evAs_ln, evP_no, evP_so, evF_no, evF_so, evO_dis, evO_lc, evO_lis, evO_cat, evO_rep, evO_sl, evO_osl, evO_call, evO_mv, evO_orr, evI_it, evI_r1, evI_r2, evI_en, evI_zp, exS_asg, exS_par2, exS_par3, exS_own, exS_app, exS_set, exS_exp, exS_ret, exS_retO, exS_ife, exS_whl, exS_for_, exS_never, exS_frz, exSs_nil, exSs_cons, runDef, evT_eq, bd_some, bd_none, mpo_some, mpo_none, callV_eq, forG_eq, lcG_eq, getZ, getO, setT, putC, updO, isLent_un, isLent_fz, isLent_ow, isMine_un, isMine_fz, isMine_ow, isOw_un, isOw_fz, isOw_ow, lastI_succ, lastI_lent, lastI_ow, at_0, at_1, at_2, m_lt0, m_le1, m_le2, m_le3, m_le4, m_le5, m_le6, m_le7, m_le8, cmp_eq_int, cmp_ne_int, cmp_eq_bl, cmp_ne_bl, cmp_lt_int, cmp_le_int, cmp_gt_int, cmp_ge_int, cmp_isN, cmp_notN, cmp_inn, op_add, op_sub, op_mul, op_fdiv, op_mod, op_pow, cellI_zero, cellI_succ, cellI_lent, noOw, wipeC, backC, truth, bool?, int?, items?, vals?, ixF, biF, isTy, isNon, lentOf, avCells, putBack, outs, lentC, hc, stD, hm0], by simp [hm0, stD, earlyB, lateB]⟩
            | some k =>
              by_cases hk : k < h + 1
              · have hk' : (k : Int) < (h : Int) + 1 := by omega
                exact ⟨.rt (.fz (.bl true)) [.fz (rl p q m), .fz (.tup D), .fz (.int k), .fz (.int m), .fz (.int ((h : Int) + 1)), .fz (.bl false)], by simp [forBd, nthS, ibb, d_is_barred, evE_var, evE_cst, evE_lit, evE_bin, evE_neg, evE_not, evE_and, evE_or, evE_ife, evE_cmp, evE_chn, evE_tup, evE_ix, evE_sl, evE_call, evE_bi, evE_isi, evE_fr, evE_oix, evE_olen, evE_otup, evE_calO, evAs_nil, evAs_e, evAs_st, evAs_ln, evP_no, evP_so, evF_no, evF_so, evO_dis, evO_lc, evO_lis, evO_cat, evO_rep, evO_sl, evO_osl, evO_call, evO_mv, evO_orr, evI_it, evI_r1, evI_r2, evI_en, evI_zp, exS_asg, exS_par2, exS_par3, exS_own, exS_app, exS_set, exS_exp, exS_ret, exS_retO, exS_ife, exS_whl, exS_for_, exS_never, exS_frz, exSs_nil, exSs_cons, runDef, evT_eq, bd_some, bd_none, mpo_some, mpo_none, callV_eq, forG_eq, lcG_eq, getZ, getO, setT, putC, updO, isLent_un, isLent_fz, isLent_ow, isMine_un, isMine_fz, isMine_ow, isOw_un, isOw_fz, isOw_ow, lastI_succ, lastI_lent, lastI_ow, at_0, at_1, at_2, m_lt0, m_le1, m_le2, m_le3, m_le4, m_le5, m_le6, m_le7, m_le8, cmp_eq_int, cmp_ne_int, cmp_eq_bl, cmp_ne_bl, cmp_lt_int, cmp_le_int, cmp_gt_int, cmp_ge_int, cmp_isN, cmp_notN, cmp_inn, op_add, op_sub, op_mul, op_fdiv, op_mod, op_pow, cellI_zero, cellI_succ, cellI_lent, noOw, wipeC, backC, truth, bool?, int?, items?, vals?, ixF, biF, isTy, isNon, lentOf, avCells, putBack, outs, lentC, hc, stD, hm0, hk'], by simp [hm0, rtOf, hk, earlyB, lateB]⟩
              · have hk' : ¬ (k : Int) < (h : Int) + 1 := by omega
                exact ⟨.nx [.fz (rl p q m), .fz (.tup D), .fz (.int k), .fz (.int m), .fz (.int ((h : Int) + 1)), .fz (.bl false)], by simp [forBd, nthS, ibb, d_is_barred, evE_var, evE_cst, evE_lit, evE_bin, evE_neg, evE_not, evE_and, evE_or, evE_ife, evE_cmp, evE_chn, evE_tup, evE_ix, evE_sl, evE_call, evE_bi, evE_isi, evE_fr, evE_oix, evE_olen, evE_otup, evE_calO, evAs_nil, evAs_e, evAs_st, evAs_ln, evP_no, evP_so, evF_no, evF_so, evO_dis, evO_lc, evO_lis, evO_cat, evO_rep, evO_sl, evO_osl, evO_call, evO_mv, evO_orr, evI_it, evI_r1, evI_r2, evI_en, evI_zp, exS_asg, exS_par2, exS_par3, exS_own, exS_app, exS_set, exS_exp, exS_ret, exS_retO, exS_ife, exS_whl, exS_for_, exS_never, exS_frz, exSs_nil, exSs_cons, runDef, evT_eq, bd_some, bd_none, mpo_some, mpo_none, callV_eq, forG_eq, lcG_eq, getZ, getO, setT, putC, updO, isLent_un, isLent_fz, isLent_ow, isMine_un, isMine_fz, isMine_ow, isOw_un, isOw_fz, isOw_ow, lastI_succ, lastI_lent, lastI_ow, at_0, at_1, at_2, m_lt0, m_le1, m_le2, m_le3, m_le4, m_le5, m_le6, m_le7, m_le8, cmp_eq_int, cmp_ne_int, cmp_eq_bl, cmp_ne_bl, cmp_lt_int, cmp_le_int, cmp_gt_int, cmp_ge_int, cmp_isN, cmp_notN, cmp_inn, op_add, op_sub, op_mul, op_fdiv, op_mod, op_pow, cellI_zero, cellI_succ, cellI_lent, noOw, wipeC, backC, truth, bool?, int?, items?, vals?, ixF, biF, isTy, isNon, lentOf, avCells, putBack, outs, lentC, hc, stD, hm0, hk'], by simp [hm0, hk, stD, earlyB, lateB]⟩
          · exact ⟨.nx [.fz (rl p q m), .fz (.tup D), .fz (stD d), .fz (.int m), .fz (.int ((h : Int) + 1)), .fz (.bl false)], by simp [forBd, nthS, ibb, d_is_barred, evE_var, evE_cst, evE_lit, evE_bin, evE_neg, evE_not, evE_and, evE_or, evE_ife, evE_cmp, evE_chn, evE_tup, evE_ix, evE_sl, evE_call, evE_bi, evE_isi, evE_fr, evE_oix, evE_olen, evE_otup, evE_calO, evAs_nil, evAs_e, evAs_st, evAs_ln, evP_no, evP_so, evF_no, evF_so, evO_dis, evO_lc, evO_lis, evO_cat, evO_rep, evO_sl, evO_osl, evO_call, evO_mv, evO_orr, evI_it, evI_r1, evI_r2, evI_en, evI_zp, exS_asg, exS_par2, exS_par3, exS_own, exS_app, exS_set, exS_exp, exS_ret, exS_retO, exS_ife, exS_whl, exS_for_, exS_never, exS_frz, exSs_nil, exSs_cons, runDef, evT_eq, bd_some, bd_none, mpo_some, mpo_none, callV_eq, forG_eq, lcG_eq, getZ, getO, setT, putC, updO, isLent_un, isLent_fz, isLent_ow, isMine_un, isMine_fz, isMine_ow, isOw_un, isOw_fz, isOw_ow, lastI_succ, lastI_lent, lastI_ow, at_0, at_1, at_2, m_lt0, m_le1, m_le2, m_le3, m_le4, m_le5, m_le6, m_le7, m_le8, cmp_eq_int, cmp_ne_int, cmp_eq_bl, cmp_ne_bl, cmp_lt_int, cmp_le_int, cmp_gt_int, cmp_ge_int, cmp_isN, cmp_notN, cmp_inn, op_add, op_sub, op_mul, op_fdiv, op_mod, op_pow, cellI_zero, cellI_succ, cellI_lent, noOw, wipeC, backC, truth, bool?, int?, items?, vals?, ixF, biF, isTy, isNon, lentOf, avCells, putBack, outs, lentC, hc, hm0], by simp [hm0]⟩
      obtain ⟨o, ho, hr⟩ := step
      rw [ho]
      simp only [Option.bind_some]
      rw [barred_cons]
      obtain ⟨A, hA⟩ : ∃ A, A = (b && (decide (0 < m) && earlyB d h)) := ⟨_, rfl⟩
      obtain ⟨B, hB⟩ : ∃ B, B = (decide (m = 0) && lateB d (if b then 0 else h + 1)) := ⟨_, rfl⟩
      rw [← hA, ← hB] at hr ⊢
      by_cases hAB : (A || B) = true
      · rw [if_pos hAB] at hr
        have : (A || (B || barred d m (if b then 0 else h + 1) r)) = true := by
          rw [← Bool.or_assoc, hAB]; rfl
        cases o with
        | nx l => cases hr
        | rt v l => exact ⟨_, rfl, by rw [if_pos this]; exact hr⟩
      · rw [if_neg hAB] at hr
        subst hr
        have hAB' : (A || B) = false := by simpa using hAB
        rw [← Bool.or_assoc, hAB', Bool.false_or]
        exact ih _ _ rfl
  rw [← hD]
  have e3 : ixF (rl p q m) (.int 2) = some (.int m) := at_2 _ _ _ _
  rw [call_body (d := d_is_barred) rfl rfl]
  have s0 : exS (callF prog (n + 2)) (nthS 0 ibb) [.fz (rl p q m), .fz (.tup D), .un, .un, .un, .un] = some (.nx [.fz (rl p q m), .fz (.tup D), .fz (stD d), .fz (.int m), .fz (.int 0), .un]) := by
    simp [nthS, ibb, d_is_barred, evE_var, evE_cst, evE_lit, evE_bin, evE_neg, evE_not, evE_and, evE_or, evE_ife, evE_cmp, evE_chn, evE_tup, evE_ix, evE_sl, evE_call, evE_bi, evE_isi, evE_fr, evE_oix, evE_olen, evE_otup, evE_calO, evAs_nil, evAs_e, evAs_st, evAs_ln, evP_no, evP_so, evF_no, evF_so, evO_dis, evO_lc, evO_lis, evO_cat, evO_rep, evO_sl, evO_osl, evO_call, evO_mv, evO_orr, evI_it, evI_r1, evI_r2, evI_en, evI_zp, exS_asg, exS_par2, exS_par3, exS_own, exS_app, exS_set, exS_exp, exS_ret, exS_retO, exS_ife, exS_whl, exS_for_, exS_never, exS_frz, exSs_nil, exSs_cons, runDef, evT_eq, bd_some, bd_none, mpo_some, mpo_none, callV_eq, forG_eq, lcG_eq, getZ, getO, setT, putC, updO, isLent_un, isLent_fz, isLent_ow, isMine_un, isMine_fz, isMine_ow, isOw_un, isOw_fz, isOw_ow, lastI_succ, lastI_lent, lastI_ow, at_0, at_1, at_2, m_lt0, m_le1, m_le2, m_le3, m_le4, m_le5, m_le6, m_le7, m_le8, cmp_eq_int, cmp_ne_int, cmp_eq_bl, cmp_ne_bl, cmp_lt_int, cmp_le_int, cmp_gt_int, cmp_ge_int, cmp_isN, cmp_notN, cmp_inn, op_add, op_sub, op_mul, op_fdiv, op_mod, op_pow, cellI_zero, cellI_succ, cellI_lent, noOw, wipeC, backC, truth, bool?, int?, items?, vals?, ixF, biF, isTy, isNon, lentOf, avCells, putBack, outs, lentC, e1]
  obtain ⟨o, ho, hr⟩ := lp bs 0 .un rfl
  rw [← hD] at ho
  have s1 : exS (callF prog (n + 2)) (nthS 1 ibb) [.fz (rl p q m), .fz (.tup D), .fz (stD d), .fz (.int m), .fz (.int 0), .un] = some o := by
    refine exS_isFor _ (ds := D) rfl ?_ ho
    simp [nthS, forIt, ibb, d_is_barred, evE_var, evE_cst, evE_lit, evE_bin, evE_neg, evE_not, evE_and, evE_or, evE_ife, evE_cmp, evE_chn, evE_tup, evE_ix, evE_sl, evE_call, evE_bi, evE_isi, evE_fr, evE_oix, evE_olen, evE_otup, evE_calO, evAs_nil, evAs_e, evAs_st, evAs_ln, evP_no, evP_so, evF_no, evF_so, evO_dis, evO_lc, evO_lis, evO_cat, evO_rep, evO_sl, evO_osl, evO_call, evO_mv, evO_orr, evI_it, evI_r1, evI_r2, evI_en, evI_zp, exS_asg, exS_par2, exS_par3, exS_own, exS_app, exS_set, exS_exp, exS_ret, exS_retO, exS_ife, exS_whl, exS_for_, exS_never, exS_frz, exSs_nil, exSs_cons, runDef, evT_eq, bd_some, bd_none, mpo_some, mpo_none, callV_eq, forG_eq, lcG_eq, getZ, getO, setT, putC, updO, isLent_un, isLent_fz, isLent_ow, isMine_un, isMine_fz, isMine_ow, isOw_un, isOw_fz, isOw_ow, lastI_succ, lastI_lent, lastI_ow, at_0, at_1, at_2, m_lt0, m_le1, m_le2, m_le3, m_le4, m_le5, m_le6, m_le7, m_le8, cmp_eq_int, cmp_ne_int, cmp_eq_bl, cmp_ne_bl, cmp_lt_int, cmp_le_int, cmp_gt_int, cmp_ge_int, cmp_isN, cmp_notN, cmp_inn, op_add, op_sub, op_mul, op_fdiv, op_mod, op_pow, cellI_zero, cellI_succ, cellI_lent, noOw, wipeC, backC, truth, bool?, int?, items?, vals?, ixF, biF, isTy, isNon, lentOf, avCells, putBack, outs, lentC]
  show (exSs (callF prog (n + 2)) (dropS 0 ibb) [.fz (rl p q m), .fz (.tup D), .un, .un, .un, .un]).mpo _ = _
  rw [exSs_nth 0 rfl s0]
  cases hb : barred d m 0 bs with
  | true =>
    rw [hb] at hr
    simp only [if_true] at hr
    cases o with
    | nx l => cases hr
    | rt v l =>
      cases hr
      rw [exSs_ret 1 rfl s1]
      simp only [mpo_some, retOf]
      rw [outs_fz _ _ (by simp [isOw])]
  | false =>
    rw [hb] at hr
    simp only [Bool.false_eq_true, if_false] at hr
    obtain ⟨l, rfl⟩ := hr
    rw [exSs_nth 1 rfl s1]
    have : exSs (callF prog (n + 2)) (dropS 2 ibb) l = some (.rt (.fz (.bl false)) l) := by
      simp [dropS, ibb, d_is_barred, evE_var, evE_cst, evE_lit, evE_bin, evE_neg, evE_not, evE_and, evE_or, evE_ife, evE_cmp, evE_chn, evE_tup, evE_ix, evE_sl, evE_call, evE_bi, evE_isi, evE_fr, evE_oix, evE_olen, evE_otup, evE_calO, evAs_nil, evAs_e, evAs_st, evAs_ln, evP_no, evP_so, evF_no, evF_so, evO_dis, evO_lc, evO_lis, evO_cat, evO_rep, evO_sl, evO_osl, evO_call, evO_mv, evO_orr, evI_it, evI_r1, evI_r2, evI_en, evI_zp, exS_asg, exS_par2, exS_par3, exS_own, exS_app, exS_set, exS_exp, exS_ret, exS_retO, exS_ife, exS_whl, exS_for_, exS_never, exS_frz, exSs_nil, exSs_cons, runDef, evT_eq, bd_some, bd_none, mpo_some, mpo_none, callV_eq, forG_eq, lcG_eq, getZ, getO, setT, putC, updO, isLent_un, isLent_fz, isLent_ow, isMine_un, isMine_fz, isMine_ow, isOw_un, isOw_fz, isOw_ow, lastI_succ, lastI_lent, lastI_ow, at_0, at_1, at_2, m_lt0, m_le1, m_le2, m_le3, m_le4, m_le5, m_le6, m_le7, m_le8, cmp_eq_int, cmp_ne_int, cmp_eq_bl, cmp_ne_bl, cmp_lt_int, cmp_le_int, cmp_gt_int, cmp_ge_int, cmp_isN, cmp_notN, cmp_inn, op_add, op_sub, op_mul, op_fdiv, op_mod, op_pow, cellI_zero, cellI_succ, cellI_lent, noOw, wipeC, backC, truth, bool?, int?, items?, vals?, ixF, biF, isTy, isNon, lentOf, avCells, putBack, outs, lentC]
    rw [this]
    simp only [mpo_some, retOf]
    rw [outs_fz _ _ (by simp [isOw])]
/-! ### the maths -/
theorem Dom_at {r : R} (d : r.Dom) (hs : r.s < 2 ^ 100) {b : Nat} (hb : b ≤ 60) : (⟨r.p, r.q, r.m, r.sz b⟩ : R).Dom := d.at (d.small hs hb)
theorem not_barred {r : R} (d : r.Dom) (hs : r.s < 2 ^ 100) (hp : r.p ≤ 20) (hm : r.m ≤ 10) : ∀ (K b h : Nat), b + h + K ≤ 60 → r.pl b = 0 → (∀ j, b < j → j ≤ b + h → r.pl j ≠ 0) → barred (stl r.p r.q) r.m h ((List.range K).map fun t => decide (r.pl (b + h + t + 1) = 0)) = false
  | 0, b, h, _, _, _ => rfl
  | K + 1, b, h, hK, hb, hj => by
    have dd := Dom_at d hs (b := b) (by omega)
    have hpl := R.pl_add r b hb
    have ne : ∀ i, 1 ≤ i → i ≤ h → (⟨r.p, r.q, r.m, r.sz b⟩ : R).pl i ≠ 0 := fun i h1 h2 => by
      rw [← hpl i]
      exact hj (b + i) (by omega) (by omega)
    have lt := dd.no_pl h ne
    rw [List.range_succ_eq_map, List.map_cons, List.map_map]
    have e0 : b + h + 0 + 1 = b + h + 1 := rfl
    have ep : (⟨r.p, r.q, r.m, r.sz b⟩ : R).pl (h + 1) = r.pl (b + h + 1) := (hpl (h + 1)).symm
    rw [barred_cons, e0]
    by_cases hz : r.pl (b + h + 1) = 0
    · -- back
      have fb : (⟨r.p, r.q, r.m, r.sz b⟩ : R).FB h := by
        refine ⟨lt, ?_⟩
        have e1 := R.pl_S _ lt h (Nat.le_refl _)
        rw [hz, R.pl, e1] at ep
        apply Int.not_lt.mp
        intro hh
        rw [if_neg (by omega)] at ep
        have := dd.sz0 h
        have e2 : 0 ≤ (⟨r.p, r.q, r.m, r.sz b⟩ : R).S h := by
          rw [← e1]; exact R.pl_nn dd.good dd.qp h
        omega
      have nb : (decide (0 < r.m) && earlyB (stl r.p r.q) h) = false := by
        by_cases hm0 : 0 < r.m
        · rw [decide_eq_true hm0, Bool.true_and]
          by_cases hb2 : r.p * r.p ≤ r.p * r.q + r.q * r.q
          · obtain ⟨e, he, e2, _, _, hw⟩ := stl_some d.q1 d.qp hp hb2
            rw [he]
            show decide (h < e) = false
            have := dd.not_sooner (show 1 ≤ r.m by omega) fb hw e2
            exact decide_eq_false (by omega)
          · exfalso
            have := dd.never (show 1 ≤ r.m by omega) (show r.p * r.q + r.q * r.q < r.p * r.p by omega) h
            have := fb.le
            omega
        · rw [decide_eq_false hm0]; rfl
      have nb2 : (decide (r.m = 0) && lateB (stl r.p r.q) 0) = false := by
        cases stl r.p r.q <;> simp [lateB]
      have ih := not_barred d hs hp hm K (b + h + 1) 0 (by omega) hz (fun j h1 h2 => by omega)
      rw [decide_eq_true hz]
      simp only [Bool.true_and, if_true]
      rw [nb, Bool.false_or]
      have el : ((List.range K).map ((fun t => decide (r.pl (b + h + t + 1) = 0)) ∘ Nat.succ)) = (List.range K).map fun t => decide (r.pl (b + h + 1 + 0 + t + 1) = 0) := by
        apply List.map_congr_left
        intro t _
        have : b + h + Nat.succ t + 1 = b + h + 1 + 0 + t + 1 := by omega
        simp only [Function.comp]
        rw [this]
      rw [el, ih, Bool.or_false]
      exact nb2
    · have ih := not_barred d hs hp hm K b (h + 1) (by omega) hb (fun j h1 h2 => by
        by_cases e : j = b + h + 1
        · subst e; exact hz
        · exact hj j h1 (by omega))
      rw [decide_eq_false hz]
      simp only [Bool.false_and, Bool.false_or, Bool.false_eq_true, if_false]
      have el : ((List.range K).map ((fun t => decide (r.pl (b + h + t + 1) = 0)) ∘ Nat.succ)) = (List.range K).map fun t => decide (r.pl (b + (h + 1) + t + 1) = 0) := by
        apply List.map_congr_left
        intro t _
        have : b + h + Nat.succ t + 1 = b + (h + 1) + t + 1 := by omega
        simp only [Function.comp]
        rw [this]
      rw [el, ih, Bool.or_false]
      by_cases hm0 : r.m = 0
      · rw [decide_eq_true hm0, Bool.true_and]
        by_cases hb2 : r.p * r.p ≤ r.p * r.q + r.q * r.q
        · obtain ⟨e, he, e2, _, hw, _⟩ := stl_some d.q1 d.qp hp hb2
          rw [he]
          show decide (e < h + 1) = false
          apply decide_eq_false
          intro hlt
          have ne' : ∀ i, 1 ≤ i → i ≤ h + 1 → (⟨r.p, r.q, r.m, r.sz b⟩ : R).pl i ≠ 0 := fun i h1 h2 => by
            by_cases e : i = h + 1
            · subst e; rw [ep]; exact hz
            · exact ne i h1 (by omega)
          have lt' := dd.no_pl (h + 1) ne' e (by omega)
          have := dd.late (show r.m = 0 from hm0) hw
          omega
        · rw [stl_none (by omega)]; rfl
      · rw [decide_eq_false hm0]; rfl
theorem barred_run {r : R} (d : r.Dom) (hs : r.s < 2 ^ 100) (hp : r.p ≤ 20) (hm : r.m ≤ 10) (K : Nat) (hK : K ≤ 60) : barred (stl r.p r.q) r.m 0 ((List.range K).map fun t => decide (r.pl (t + 1) = 0)) = false := by
  have := not_barred d hs hp hm K 0 0 (by omega) rfl (fun j h1 h2 => by omega)
  simpa using this
theorem barred_long (e : Nat) : ∀ k h : Nat, h ≤ e → e < h + k → barred (some e) 0 h (List.replicate k false) = true
  | 0, h, h1, h2 => by omega
  | k + 1, h, h1, h2 => by
    rw [List.replicate_succ, barred_cons]
    by_cases c : e < h + 1
    · simp [c, lateB]
    · have := barred_long e k (h + 1) (by omega) (by omega)
      simp [this]
theorem barred_short {m : Int} (hm : 1 ≤ m) (e : Nat) : ∀ k h : Nat, h + k < e → barred (some e) m h (List.replicate k false ++ [true]) = true
  | 0, h, h1 => by
    have : 0 < m := by omega
    simp [barred, this, earlyB]
    omega
  | k + 1, h, h1 => by
    have := barred_short hm e k (h + 1) (by omega)
    rw [List.replicate_succ, List.cons_append, barred_cons]
    simp [this]
end K97

set_option linter.all false
set_option maxRecDepth 100000
/-! K97D: rules that fit. -/
namespace K97
open Mini
theorem ints_rwF (n : Nat) (c : Nat → Bool) (g : Nat → Int) : ints? (rwF n c fun i => .int (g i)) = some (((List.range n).filter c).map g) := by
  unfold rwF
  generalize (List.range n).filter c = is
  induction is with
  | nil => rfl
  | cons i r ih => rw [List.map_cons, ints?, ih]; rfl
theorem ints_map : ∀ zs : List Int, ints? (zs.map Da.int) = some zs
  | [] => rfl
  | z :: r => by rw [List.map_cons, ints?, ints_map r]; rfl
theorem minI_spec : ∀ l : List Int, l ≠ [] → minI l ∈ l ∧ ∀ y, y ∈ l → minI l ≤ y
  | [], h => absurd rfl h
  | [x], _ => ⟨List.mem_cons_self, fun y hy => by simp at hy; subst hy; exact Int.le_refl _⟩
  | x :: y :: r, _ => by
    obtain ⟨h1, h2⟩ := minI_spec (y :: r) (by simp)
    obtain ⟨z, hz⟩ : ∃ z, z = minI (y :: r) := ⟨_, rfl⟩
    have e : minI (x :: y :: r) = if z < x then z else x := by rw [hz]; rfl
    rw [← hz] at h1 h2
    rw [e]
    split
    · exact ⟨List.mem_cons_of_mem _ h1, fun w hw => by
        rcases List.mem_cons.mp hw with rfl | hw
        · omega
        · exact h2 w hw⟩
    · exact ⟨List.mem_cons_self, fun w hw => by
        rcases List.mem_cons.mp hw with rfl | hw
        · omega
        · have := h2 w hw; omega⟩
def ptD : Option Nat → Da
  | none => .non
  | some k => .int ((k : Int) + 1)
theorem growths_to_part {a b : R} (ha : a.Good) (hb : b.Good) (hs : b.s = a.s) : ∃ o : Option Nat, (∀ k, o = some k → k < 60 ∧ (decide (a.pl (k + 1) = 0) ≠ decide (b.pl (k + 1) = 0)) ∧ ∀ j, j < k → sg a j = sg b j) ∧ (∀ k, o = some k → sg a k ≠ sg b k) ∧
    ∀ n, callF prog (n + 6) 23 [.fz (rl a.p a.q a.m), .fz (rl b.p b.q b.m), .fz (.int a.s)] = some (.fz (ptD o), [.fz (rl a.p a.q a.m), .fz (rl b.p b.q b.m), .fz (.int a.s)]) := by
  obtain ⟨c, hc⟩ : ∃ c : Nat → Bool, c = fun i => decide (a.pl (i + 1) = 0) != decide (b.pl (i + 1) = 0) := ⟨_, rfl⟩
  obtain ⟨zs, hzs⟩ : ∃ zs, zs = ((List.range 60).filter c).map fun i => ((i : Nat) : Int) + 1 := ⟨_, rfl⟩
  have run : ∀ n, callF prog (n + 6) 23 [.fz (rl a.p a.q a.m), .fz (rl b.p b.q b.m), .fz (.int a.s)] = some (.fz (if zs.isEmpty then .non else .int (minI zs)), [.fz (rl a.p a.q a.m), .fz (rl b.p b.q b.m), .fz (.int a.s)]) := fun n => by
    have e1 := check_start (n := n + 2) ha
    have e2 := check_start (n := n + 2) hb
    have e3 := backs_read (n := n) ha (k := 60) (by decide)
    have e4 := backs_read (n := n) hb (k := 60) (by decide)
    rw [hs] at e2 e4
    simp only [Int.cast_ofNat_Int] at e3 e4
    have lp := mapL_rwF (step := lcG (evE (callF prog (n + 5)) (.bin .add (.var 5) (.lit (.int 1)))) (evF (callF prog (n + 5)) (.so (.cmp .ne (.var 6) (.ix (.var 4) (.var 5))))) (.t2 (.nm 5) (.nm 6)) [5, 6]) (l := [.fz (rl a.p a.q a.m), .fz (rl b.p b.q b.m), .fz (.int a.s), .fz (.tup (rw 60 (sg a))), .fz (.tup (rw 60 (sg b))), .un, .un]) (f := fun i => .tup [.int (i : Nat), sg a i]) 60 c (fun i => .int ((i : Nat) + 1)) fun i hi => by
      have h1 := rw_at (sg b) hi
      have hci : c i = (decide (a.pl (i + 1) = 0) != decide (b.pl (i + 1) = 0)) := by rw [hc]
      cases h : c i with
      | true =>
        rw [h] at hci
        simp [evE_var, evE_cst, evE_lit, evE_bin, evE_neg, evE_not, evE_and, evE_or, evE_ife, evE_cmp, evE_chn, evE_tup, evE_ix, evE_sl, evE_call, evE_bi, evE_isi, evE_fr, evE_oix, evE_olen, evE_otup, evE_calO, evE_mind, evAs_nil, evAs_e, evAs_st, evAs_ln, evP_no, evP_so, evF_no, evF_so, evO_dis, evO_lc, evO_lis, evO_cat, evO_rep, evO_sl, evO_osl, evO_call, evO_mv, evO_orr, evO_sst, evO_srt, evI_it, evI_r1, evI_r2, evI_en, evI_zp, exS_asg, exS_par2, exS_par3, exS_own, exS_app, exS_set, exS_exp, exS_ret, exS_retO, exS_ife, exS_whl, exS_for_, exS_never, exS_frz, exSs_nil, exSs_cons, runDef, evT_eq, bd_some, bd_none, mpo_some, mpo_none, callV_eq, forG_eq, lcG_eq, getZ, getO, setT, putC, updO, isLent_un, isLent_fz, isLent_ow, isMine_un, isMine_fz, isMine_ow, isOw_un, isOw_fz, isOw_ow, lastI_succ, lastI_lent, lastI_ow, at_0, at_1, at_2, m_lt0, m_le1, m_le2, m_le3, m_le4, m_le5, m_le6, m_le7, m_le8, cmp_eq_int, cmp_ne_int, cmp_eq_bl, cmp_ne_bl, cmp_lt_int, cmp_le_int, cmp_gt_int, cmp_ge_int, cmp_isN, cmp_notN, cmp_inn, op_add, op_sub, op_mul, op_fdiv, op_mod, op_pow, cellI_zero, cellI_succ, cellI_lent, noOw, wipeC, backC, truth, bool?, int?, items?, vals?, ixF_tup, ixF_lst, bi_len, bi_int, bi_lent, bi_intb, bi_abs, bi_tupl, bi_tupt, max_int2, isTy, isNon, lentOf, avCells, putBack, outs, lentC, h1, sg, ← hci]
      | false =>
        rw [h] at hci
        simp [evE_var, evE_cst, evE_lit, evE_bin, evE_neg, evE_not, evE_and, evE_or, evE_ife, evE_cmp, evE_chn, evE_tup, evE_ix, evE_sl, evE_call, evE_bi, evE_isi, evE_fr, evE_oix, evE_olen, evE_otup, evE_calO, evE_mind, evAs_nil, evAs_e, evAs_st, evAs_ln, evP_no, evP_so, evF_no, evF_so, evO_dis, evO_lc, evO_lis, evO_cat, evO_rep, evO_sl, evO_osl, evO_call, evO_mv, evO_orr, evO_sst, evO_srt, evI_it, evI_r1, evI_r2, evI_en, evI_zp, exS_asg, exS_par2, exS_par3, exS_own, exS_app, exS_set, exS_exp, exS_ret, exS_retO, exS_ife, exS_whl, exS_for_, exS_never, exS_frz, exSs_nil, exSs_cons, runDef, evT_eq, bd_some, bd_none, mpo_some, mpo_none, callV_eq, forG_eq, lcG_eq, getZ, getO, setT, putC, updO, isLent_un, isLent_fz, isLent_ow, isMine_un, isMine_fz, isMine_ow, isOw_un, isOw_fz, isOw_ow, lastI_succ, lastI_lent, lastI_ow, at_0, at_1, at_2, m_lt0, m_le1, m_le2, m_le3, m_le4, m_le5, m_le6, m_le7, m_le8, cmp_eq_int, cmp_ne_int, cmp_eq_bl, cmp_ne_bl, cmp_lt_int, cmp_le_int, cmp_gt_int, cmp_ge_int, cmp_isN, cmp_notN, cmp_inn, op_add, op_sub, op_mul, op_fdiv, op_mod, op_pow, cellI_zero, cellI_succ, cellI_lent, noOw, wipeC, backC, truth, bool?, int?, items?, vals?, ixF_tup, ixF_lst, bi_len, bi_int, bi_lent, bi_intb, bi_abs, bi_tupl, bi_tupt, max_int2, isTy, isNon, lentOf, avCells, putBack, outs, lentC, h1, sg, ← hci]
    have en := enum_rw 60 (sg a)
    have hi := ints_rwF 60 c (fun i => ((i : Nat) : Int) + 1)
    have hl : (rw 60 fun i => Da.tup [.int (i : Nat), sg a i]).length ≤ most := by rw [rw_len]; decide
    rw [← hzs] at hi
    rw [call_body (d := d_growths_to_part) rfl rfl]
    simp [d_growths_to_part, retOf, evE_var, evE_cst, evE_lit, evE_bin, evE_neg, evE_not, evE_and, evE_or, evE_ife, evE_cmp, evE_chn, evE_tup, evE_ix, evE_sl, evE_call, evE_bi, evE_isi, evE_fr, evE_oix, evE_olen, evE_otup, evE_calO, evE_mind, evAs_nil, evAs_e, evAs_st, evAs_ln, evP_no, evP_so, evF_no, evF_so, evO_dis, evO_lc, evO_lis, evO_cat, evO_rep, evO_sl, evO_osl, evO_call, evO_mv, evO_orr, evO_sst, evO_srt, evI_it, evI_r1, evI_r2, evI_en, evI_zp, exS_asg, exS_par2, exS_par3, exS_own, exS_app, exS_set, exS_exp, exS_ret, exS_retO, exS_ife, exS_whl, exS_for_, exS_never, exS_frz, exSs_nil, exSs_cons, runDef, evT_eq, bd_some, bd_none, mpo_some, mpo_none, callV_eq, forG_eq, lcG_eq, getZ, getO, setT, putC, updO, isLent_un, isLent_fz, isLent_ow, isMine_un, isMine_fz, isMine_ow, isOw_un, isOw_fz, isOw_ow, lastI_succ, lastI_lent, lastI_ow, at_0, at_1, at_2, m_lt0, m_le1, m_le2, m_le3, m_le4, m_le5, m_le6, m_le7, m_le8, cmp_eq_int, cmp_ne_int, cmp_eq_bl, cmp_ne_bl, cmp_lt_int, cmp_le_int, cmp_gt_int, cmp_ge_int, cmp_isN, cmp_notN, cmp_inn, op_add, op_sub, op_mul, op_fdiv, op_mod, op_pow, cellI_zero, cellI_succ, cellI_lent, noOw, wipeC, backC, truth, bool?, int?, items?, vals?, ixF_tup, ixF_lst, bi_len, bi_int, bi_lent, bi_intb, bi_abs, bi_tupl, bi_tupt, max_int2, isTy, isNon, lentOf, avCells, putBack, outs, lentC, e1, e2, e3, e4, en, lp, hl, lints?, hi]
  by_cases hz : zs = []
  · refine ⟨none, (fun k h => by cases h), (fun k h => by cases h), fun n => ?_⟩
    rw [run n, hz]
    rfl
  · obtain ⟨h1, h2⟩ := minI_spec zs hz
    rw [hzs] at h1
    obtain ⟨k, hk, he⟩ := List.mem_map.mp h1
    rw [← hzs] at he
    obtain ⟨k1, k2⟩ := List.mem_filter.mp hk
    have hk60 := List.mem_range.mp k1
    have hne : decide (a.pl (k + 1) = 0) ≠ decide (b.pl (k + 1) = 0) := by
      rw [hc] at k2
      exact bne_iff_ne.mp k2
    refine ⟨some k, fun j hj => ?_, fun j hj => ?_, fun n => ?_⟩
    · cases hj
      refine ⟨hk60, hne, fun j hj => ?_⟩
      by_cases e : decide (a.pl (j + 1) = 0) = decide (b.pl (j + 1) = 0)
      · unfold sg; rw [e]
      · exfalso
        have hm : ((j : Nat) : Int) + 1 ∈ zs := by
          rw [hzs]
          exact List.mem_map.mpr ⟨j, List.mem_filter.mpr ⟨List.mem_range.mpr (by omega), by rw [hc]; exact bne_iff_ne.mpr e⟩, rfl⟩
        have := h2 _ hm
        omega
    · cases hj
      unfold sg
      intro h
      exact hne (Da.bl.inj h)
    · have hne : zs.isEmpty = false := by cases zs with
        | nil => exact absurd rfl hz
        | cons _ _ => rfl
      rw [run n, hne]
      simp only [ptD, Bool.false_eq_true, if_false]
      rw [← he]
/-! ### rules that fit -/
def FitR (s : Int) (k : Nat) (D : Da) (d : Da) : Prop := ∃ p q m : Int, d = rl p q m ∧ 1 ≤ q ∧ q ≤ p ∧ p ≤ 4 ∧ 0 ≤ m ∧ m ≤ 3 ∧ rdB p q m s k D = true
def rfb : Ss := d_rules_fitting.body
def rf1 : Ss := forBd (nthS 1 rfb)
def rf2 : Ss := forBd (nthS 0 rf1)
def rf3 : Ss := forBd (nthS 0 rf2)
section
variable {n k : Nat} {s : Int} {g : Nat → Int} (hg : g 0 = s) (hk : k < 900)
include hg hk
theorem fit_more {p q lo : Int} {cnt : Nat} (q1 : 1 ≤ q) (qp : q ≤ p) (p4 : p ≤ 4) (lo0 : 0 ≤ lo) (hi : lo + cnt ≤ 4) {F : List Da} (hF : ∀ d, d ∈ F → FitR s (k + 1) (.tup (rw (k + 1) fun i => .int (g i))) d) (hlen : F.length ≤ 1000) {c6 c7 : Cell} (h6 : isLent c6 = false) :
    ∃ (F' : List Da) (c6' : Cell), forS (forG (exSs (callF prog (n + 5)) rf3) (.nm 6)) (rangeL lo cnt) [.fz (.tup (rw (k + 1) fun i => .int (g i))), .fz (.int 4), .fz (.int 3), .ow true F, .fz (.int p), .fz (.int q), c6, c7] = some (.nx [.fz (.tup (rw (k + 1) fun i => .int (g i))), .fz (.int 4), .fz (.int 3), .ow true F', .fz (.int p), .fz (.int q), c6', c7]) ∧
      isLent c6' = false ∧ F'.length ≤ F.length + cnt ∧ ∀ d, d ∈ F' → FitR s (k + 1) (.tup (rw (k + 1) fun i => .int (g i))) d := by
  obtain ⟨D, hD⟩ : ∃ D, D = Da.tup (rw (k + 1) fun i => .int (g i)) := ⟨_, rfl⟩
  have hcnt : cnt ≤ 4 := by omega
  obtain ⟨l', lp, F', c6', rfl, h1, h2, h3⟩ := forS_inv (step := forG (exSs (callF prog (n + 5)) rf3) (.nm 6))
    (fun i l => ∃ F' c6', l = [.fz D, .fz (.int 4), .fz (.int 3), .ow true F', .fz (.int p), .fz (.int q), c6', c7] ∧ isLent c6' = false ∧ F'.length ≤ F.length + i ∧ ∀ d, d ∈ F' → FitR s (k + 1) D d) (rangeL lo cnt) 0 [.fz D, .fz (.int 4), .fz (.int 3), .ow true F, .fz (.int p), .fz (.int q), c6, c7] (by
      rintro i x l hx ⟨F', c, rfl, e1, e2, e3⟩
      obtain ⟨hi', rfl⟩ := rangeL_get hx
      rw [Nat.zero_add] at e2 ⊢
      have ok : Ok p q := ⟨by omega, by omega, by omega, by omega⟩
      have er := is_read_by (n := n) (m := lo + (i : Int)) ok hg hk
      rw [← hD] at er
      have hml : F'.length < most := by unfold most; omega
      by_cases hb : rdB p q (lo + (i : Int)) s (k + 1) D = true
      · rw [hb] at er
        refine ⟨_, ?_, F' ++ [rl p q (lo + (i : Int))], .fz (.int (lo + (i : Int))), rfl, rfl, by rw [List.length_append]; simp; omega, fun d hd => ?_⟩
        · simp [rf3, rf2, rf1, rfb, forBd, nthS, d_rules_fitting, evE_var, evE_cst, evE_lit, evE_bin, evE_neg, evE_not, evE_and, evE_or, evE_ife, evE_cmp, evE_chn, evE_tup, evE_ix, evE_sl, evE_call, evE_bi, evE_isi, evE_fr, evE_oix, evE_olen, evE_otup, evE_calO, evE_mind, evAs_nil, evAs_e, evAs_st, evAs_ln, evP_no, evP_so, evF_no, evF_so, evO_dis, evO_lc, evO_lis, evO_cat, evO_rep, evO_sl, evO_osl, evO_call, evO_mv, evO_orr, evO_sst, evO_srt, evI_it, evI_r1, evI_r2, evI_en, evI_zp, exS_asg, exS_par2, exS_par3, exS_own, exS_app, exS_set, exS_exp, exS_ret, exS_retO, exS_ife, exS_whl, exS_for_, exS_never, exS_frz, exSs_nil, exSs_cons, runDef, evT_eq, bd_some, bd_none, mpo_some, mpo_none, callV_eq, forG_eq, lcG_eq, getZ, getO, setT, putC, updO, isLent_un, isLent_fz, isLent_ow, isMine_un, isMine_fz, isMine_ow, isOw_un, isOw_fz, isOw_ow, lastI_succ, lastI_lent, lastI_ow, at_0, at_1, at_2, m_lt0, m_le1, m_le2, m_le3, m_le4, m_le5, m_le6, m_le7, m_le8, cmp_eq_int, cmp_ne_int, cmp_eq_bl, cmp_ne_bl, cmp_lt_int, cmp_le_int, cmp_gt_int, cmp_ge_int, cmp_isN, cmp_notN, cmp_inn, op_add, op_sub, op_mul, op_fdiv, op_mod, op_pow, cellI_zero, cellI_succ, cellI_lent, noOw, wipeC, backC, truth, bool?, int?, items?, vals?, ixF, biF, isTy, isNon, lentOf, avCells, putBack, outs, lentC, e1, er, hml]
        · rcases List.mem_append.mp hd with hd | hd
          · exact e3 d hd
          · have := List.mem_singleton.mp hd
            exact ⟨p, q, lo + (i : Int), this, q1, qp, p4, by omega, by omega, hb⟩
      · have hb : rdB p q (lo + (i : Int)) s (k + 1) D = false := by simpa using hb
        rw [hb] at er
        refine ⟨_, ?_, F', .fz (.int (lo + (i : Int))), rfl, rfl, by omega, e3⟩
        simp [rf3, rf2, rf1, rfb, forBd, nthS, d_rules_fitting, evE_var, evE_cst, evE_lit, evE_bin, evE_neg, evE_not, evE_and, evE_or, evE_ife, evE_cmp, evE_chn, evE_tup, evE_ix, evE_sl, evE_call, evE_bi, evE_isi, evE_fr, evE_oix, evE_olen, evE_otup, evE_calO, evE_mind, evAs_nil, evAs_e, evAs_st, evAs_ln, evP_no, evP_so, evF_no, evF_so, evO_dis, evO_lc, evO_lis, evO_cat, evO_rep, evO_sl, evO_osl, evO_call, evO_mv, evO_orr, evO_sst, evO_srt, evI_it, evI_r1, evI_r2, evI_en, evI_zp, exS_asg, exS_par2, exS_par3, exS_own, exS_app, exS_set, exS_exp, exS_ret, exS_retO, exS_ife, exS_whl, exS_for_, exS_never, exS_frz, exSs_nil, exSs_cons, runDef, evT_eq, bd_some, bd_none, mpo_some, mpo_none, callV_eq, forG_eq, lcG_eq, getZ, getO, setT, putC, updO, isLent_un, isLent_fz, isLent_ow, isMine_un, isMine_fz, isMine_ow, isOw_un, isOw_fz, isOw_ow, lastI_succ, lastI_lent, lastI_ow, at_0, at_1, at_2, m_lt0, m_le1, m_le2, m_le3, m_le4, m_le5, m_le6, m_le7, m_le8, cmp_eq_int, cmp_ne_int, cmp_eq_bl, cmp_ne_bl, cmp_lt_int, cmp_le_int, cmp_gt_int, cmp_ge_int, cmp_isN, cmp_notN, cmp_inn, op_add, op_sub, op_mul, op_fdiv, op_mod, op_pow, cellI_zero, cellI_succ, cellI_lent, noOw, wipeC, backC, truth, bool?, int?, items?, vals?, ixF, biF, isTy, isNon, lentOf, avCells, putBack, outs, lentC, e1, er]) ⟨F, c6, rfl, h6, by omega, by rw [hD]; exact hF⟩
  rw [rangeL_len, Nat.zero_add] at h2
  rw [← hD]
  exact ⟨F', c6', lp, h1, h2, h3⟩
theorem fit_bottom {p : Int} (p1 : 1 ≤ p) (p4 : p ≤ 4) {bs : List Da} (hbs : ∀ d, d ∈ bs → ∃ q : Int, d = .int q ∧ 1 ≤ q ∧ q ≤ p) (hbl : bs.length ≤ 4) {F : List Da} (hF : ∀ d, d ∈ F → FitR s (k + 1) (.tup (rw (k + 1) fun i => .int (g i))) d) (hlen : F.length ≤ 500) {c5 c6 c7 : Cell} (h5 : isLent c5 = false) (h6 : isLent c6 = false) :
    ∃ (F' : List Da) (c5' c6' : Cell), forS (forG (exSs (callF prog (n + 5)) rf2) (.nm 5)) bs [.fz (.tup (rw (k + 1) fun i => .int (g i))), .fz (.int 4), .fz (.int 3), .ow true F, .fz (.int p), c5, c6, c7] = some (.nx [.fz (.tup (rw (k + 1) fun i => .int (g i))), .fz (.int 4), .fz (.int 3), .ow true F', .fz (.int p), c5', c6', c7]) ∧
      isLent c5' = false ∧ isLent c6' = false ∧ F'.length ≤ F.length + 4 * bs.length ∧ ∀ d, d ∈ F' → FitR s (k + 1) (.tup (rw (k + 1) fun i => .int (g i))) d := by
  obtain ⟨D, hD⟩ : ∃ D, D = Da.tup (rw (k + 1) fun i => .int (g i)) := ⟨_, rfl⟩
  obtain ⟨l', lp, F', c5', c6', rfl, h1, h2, h3, h4⟩ := forS_inv (step := forG (exSs (callF prog (n + 5)) rf2) (.nm 5))
    (fun i l => ∃ F' c5' c6', l = [.fz D, .fz (.int 4), .fz (.int 3), .ow true F', .fz (.int p), c5', c6', c7] ∧ isLent c5' = false ∧ isLent c6' = false ∧ F'.length ≤ F.length + 4 * i ∧ ∀ d, d ∈ F' → FitR s (k + 1) D d) bs 0 [.fz D, .fz (.int 4), .fz (.int 3), .ow true F, .fz (.int p), c5, c6, c7] (by
      rintro i x l hx ⟨F1, b5, b6, rfl, e1, e2, e3, e4⟩
      obtain ⟨q, rfl, q1, q2⟩ := hbs x (List.mem_of_getElem? hx)
      have hi : i < bs.length := (List.getElem?_eq_some_iff.mp hx).1
      rw [Nat.zero_add] at e3 ⊢
      have hr4 : rngOk 4 = true := by decide
      by_cases hpq : p = q
      · subst hpq
        obtain ⟨F2, d6, f1, f2, f3, f4⟩ := fit_more (n := n) hg hk (lo := 1) (cnt := 3) q1 q2 p4 (by decide) (by decide) (by rw [← hD]; exact e4) (by omega) (c7 := c7) e2
        rw [← hD] at f1 f4
        have hr1 : rngOk 1 = true := by decide
        have ht : ((4 : Int) - 1).toNat = 3 := rfl
        refine ⟨_, ?_, F2, .fz (.int p), d6, rfl, rfl, f2, by omega, f4⟩
        have s0 : exS (callF prog (n + 5)) (nthS 0 rf2) [.fz D, .fz (.int 4), .fz (.int 3), .ow true F1, .fz (.int p), .fz (.int p), b6, c7] = some (.nx [.fz D, .fz (.int 4), .fz (.int 3), .ow true F2, .fz (.int p), .fz (.int p), d6, c7]) := by
          refine exS_isFor _ (ds := rangeL 1 3) rfl ?_ f1
          simp [nthS, forIt, rf2, rf1, rfb, forBd, d_rules_fitting, evE_var, evE_cst, evE_lit, evE_bin, evE_neg, evE_not, evE_and, evE_or, evE_ife, evE_cmp, evE_chn, evE_tup, evE_ix, evE_sl, evE_call, evE_bi, evE_isi, evE_fr, evE_oix, evE_olen, evE_otup, evE_calO, evE_mind, evAs_nil, evAs_e, evAs_st, evAs_ln, evP_no, evP_so, evF_no, evF_so, evO_dis, evO_lc, evO_lis, evO_cat, evO_rep, evO_sl, evO_osl, evO_call, evO_mv, evO_orr, evO_sst, evO_srt, evI_it, evI_r1, evI_r2, evI_en, evI_zp, exS_asg, exS_par2, exS_par3, exS_own, exS_app, exS_set, exS_exp, exS_ret, exS_retO, exS_ife, exS_whl, exS_for_, exS_never, exS_frz, exSs_nil, exSs_cons, runDef, evT_eq, bd_some, bd_none, mpo_some, mpo_none, callV_eq, forG_eq, lcG_eq, getZ, getO, setT, putC, updO, isLent_un, isLent_fz, isLent_ow, isMine_un, isMine_fz, isMine_ow, isOw_un, isOw_fz, isOw_ow, lastI_succ, lastI_lent, lastI_ow, at_0, at_1, at_2, m_lt0, m_le1, m_le2, m_le3, m_le4, m_le5, m_le6, m_le7, m_le8, cmp_eq_int, cmp_ne_int, cmp_eq_bl, cmp_ne_bl, cmp_lt_int, cmp_le_int, cmp_gt_int, cmp_ge_int, cmp_isN, cmp_notN, cmp_inn, op_add, op_sub, op_mul, op_fdiv, op_mod, op_pow, cellI_zero, cellI_succ, cellI_lent, noOw, wipeC, backC, truth, bool?, int?, items?, vals?, ixF_tup, ixF_lst, bi_len, bi_int, bi_lent, bi_intb, bi_abs, bi_tupl, bi_tupt, max_int2, isTy, isNon, lentOf, avCells, putBack, outs, lentC, hr1, hr4, ht]
        have ee : exSs (callF prog (n + 5)) rf2 [.fz D, .fz (.int 4), .fz (.int 3), .ow true F1, .fz (.int p), .fz (.int p), b6, c7] = some (.nx [.fz D, .fz (.int 4), .fz (.int 3), .ow true F2, .fz (.int p), .fz (.int p), d6, c7]) := (exSs_nth (b := rf2) 0 rfl s0).trans rfl
        simp [evE_var, evE_cst, evE_lit, evE_bin, evE_neg, evE_not, evE_and, evE_or, evE_ife, evE_cmp, evE_chn, evE_tup, evE_ix, evE_sl, evE_call, evE_bi, evE_isi, evE_fr, evE_oix, evE_olen, evE_otup, evE_calO, evE_mind, evAs_nil, evAs_e, evAs_st, evAs_ln, evP_no, evP_so, evF_no, evF_so, evO_dis, evO_lc, evO_lis, evO_cat, evO_rep, evO_sl, evO_osl, evO_call, evO_mv, evO_orr, evO_sst, evO_srt, evI_it, evI_r1, evI_r2, evI_en, evI_zp, exS_asg, exS_par2, exS_par3, exS_own, exS_app, exS_set, exS_exp, exS_ret, exS_retO, exS_ife, exS_whl, exS_for_, exS_never, exS_frz, exSs_nil, exSs_cons, runDef, evT_eq, bd_some, bd_none, mpo_some, mpo_none, callV_eq, forG_eq, lcG_eq, getZ, getO, setT, putC, updO, isLent_un, isLent_fz, isLent_ow, isMine_un, isMine_fz, isMine_ow, isOw_un, isOw_fz, isOw_ow, lastI_succ, lastI_lent, lastI_ow, at_0, at_1, at_2, m_lt0, m_le1, m_le2, m_le3, m_le4, m_le5, m_le6, m_le7, m_le8, cmp_eq_int, cmp_ne_int, cmp_eq_bl, cmp_ne_bl, cmp_lt_int, cmp_le_int, cmp_gt_int, cmp_ge_int, cmp_isN, cmp_notN, cmp_inn, op_add, op_sub, op_mul, op_fdiv, op_mod, op_pow, cellI_zero, cellI_succ, cellI_lent, noOw, wipeC, backC, truth, bool?, int?, items?, vals?, ixF, biF, isTy, isNon, lentOf, avCells, putBack, outs, lentC, e1, ee]
      · obtain ⟨F2, d6, f1, f2, f3, f4⟩ := fit_more (n := n) hg hk (lo := 0) (cnt := 4) q1 q2 p4 (by decide) (by decide) (by rw [← hD]; exact e4) (by omega) (c7 := c7) e2
        rw [← hD] at f1 f4
        have hr1 : rngOk 0 = true := by decide
        have ht : ((4 : Int) - 0).toNat = 4 := rfl
        refine ⟨_, ?_, F2, .fz (.int q), d6, rfl, rfl, f2, by omega, f4⟩
        have s0 : exS (callF prog (n + 5)) (nthS 0 rf2) [.fz D, .fz (.int 4), .fz (.int 3), .ow true F1, .fz (.int p), .fz (.int q), b6, c7] = some (.nx [.fz D, .fz (.int 4), .fz (.int 3), .ow true F2, .fz (.int p), .fz (.int q), d6, c7]) := by
          refine exS_isFor _ (ds := rangeL 0 4) rfl ?_ f1
          have ht' : (4 : Int).toNat = 4 := rfl
          simp [nthS, forIt, rf2, rf1, rfb, forBd, d_rules_fitting, evE_var, evE_cst, evE_lit, evE_bin, evE_neg, evE_not, evE_and, evE_or, evE_ife, evE_cmp, evE_chn, evE_tup, evE_ix, evE_sl, evE_call, evE_bi, evE_isi, evE_fr, evE_oix, evE_olen, evE_otup, evE_calO, evE_mind, evAs_nil, evAs_e, evAs_st, evAs_ln, evP_no, evP_so, evF_no, evF_so, evO_dis, evO_lc, evO_lis, evO_cat, evO_rep, evO_sl, evO_osl, evO_call, evO_mv, evO_orr, evO_sst, evO_srt, evI_it, evI_r1, evI_r2, evI_en, evI_zp, exS_asg, exS_par2, exS_par3, exS_own, exS_app, exS_set, exS_exp, exS_ret, exS_retO, exS_ife, exS_whl, exS_for_, exS_never, exS_frz, exSs_nil, exSs_cons, runDef, evT_eq, bd_some, bd_none, mpo_some, mpo_none, callV_eq, forG_eq, lcG_eq, getZ, getO, setT, putC, updO, isLent_un, isLent_fz, isLent_ow, isMine_un, isMine_fz, isMine_ow, isOw_un, isOw_fz, isOw_ow, lastI_succ, lastI_lent, lastI_ow, at_0, at_1, at_2, m_lt0, m_le1, m_le2, m_le3, m_le4, m_le5, m_le6, m_le7, m_le8, cmp_eq_int, cmp_ne_int, cmp_eq_bl, cmp_ne_bl, cmp_lt_int, cmp_le_int, cmp_gt_int, cmp_ge_int, cmp_isN, cmp_notN, cmp_inn, op_add, op_sub, op_mul, op_fdiv, op_mod, op_pow, cellI_zero, cellI_succ, cellI_lent, noOw, wipeC, backC, truth, bool?, int?, items?, vals?, ixF_tup, ixF_lst, bi_len, bi_int, bi_lent, bi_intb, bi_abs, bi_tupl, bi_tupt, max_int2, isTy, isNon, lentOf, avCells, putBack, outs, lentC, hr1, hr4, ht', hpq]
        have ee : exSs (callF prog (n + 5)) rf2 [.fz D, .fz (.int 4), .fz (.int 3), .ow true F1, .fz (.int p), .fz (.int q), b6, c7] = some (.nx [.fz D, .fz (.int 4), .fz (.int 3), .ow true F2, .fz (.int p), .fz (.int q), d6, c7]) := (exSs_nth (b := rf2) 0 rfl s0).trans rfl
        simp [evE_var, evE_cst, evE_lit, evE_bin, evE_neg, evE_not, evE_and, evE_or, evE_ife, evE_cmp, evE_chn, evE_tup, evE_ix, evE_sl, evE_call, evE_bi, evE_isi, evE_fr, evE_oix, evE_olen, evE_otup, evE_calO, evE_mind, evAs_nil, evAs_e, evAs_st, evAs_ln, evP_no, evP_so, evF_no, evF_so, evO_dis, evO_lc, evO_lis, evO_cat, evO_rep, evO_sl, evO_osl, evO_call, evO_mv, evO_orr, evO_sst, evO_srt, evI_it, evI_r1, evI_r2, evI_en, evI_zp, exS_asg, exS_par2, exS_par3, exS_own, exS_app, exS_set, exS_exp, exS_ret, exS_retO, exS_ife, exS_whl, exS_for_, exS_never, exS_frz, exSs_nil, exSs_cons, runDef, evT_eq, bd_some, bd_none, mpo_some, mpo_none, callV_eq, forG_eq, lcG_eq, getZ, getO, setT, putC, updO, isLent_un, isLent_fz, isLent_ow, isMine_un, isMine_fz, isMine_ow, isOw_un, isOw_fz, isOw_ow, lastI_succ, lastI_lent, lastI_ow, at_0, at_1, at_2, m_lt0, m_le1, m_le2, m_le3, m_le4, m_le5, m_le6, m_le7, m_le8, cmp_eq_int, cmp_ne_int, cmp_eq_bl, cmp_ne_bl, cmp_lt_int, cmp_le_int, cmp_gt_int, cmp_ge_int, cmp_isN, cmp_notN, cmp_inn, op_add, op_sub, op_mul, op_fdiv, op_mod, op_pow, cellI_zero, cellI_succ, cellI_lent, noOw, wipeC, backC, truth, bool?, int?, items?, vals?, ixF, biF, isTy, isNon, lentOf, avCells, putBack, outs, lentC, e1, ee]) ⟨F, c5, c6, rfl, h5, h6, by omega, by rw [hD]; exact hF⟩
  rw [Nat.zero_add] at h3
  rw [← hD]
  exact ⟨F', c5', c6', lp, h1, h2, h3, h4⟩
theorem rules_fitting : ∃ F : List Da, F.length < 64 ∧ (∀ d, d ∈ F → FitR s (k + 1) (.tup (rw (k + 1) fun i => .int (g i))) d) ∧ callF prog (n + 6) 22 [.fz (.tup (rw (k + 1) fun i => .int (g i))), .fz (.int 4), .fz (.int 3)] = some (.fz (.tup F), [.fz (.tup (rw (k + 1) fun i => .int (g i))), .fz (.int 4), .fz (.int 3)]) := by
  obtain ⟨D, hD⟩ : ∃ D, D = Da.tup (rw (k + 1) fun i => .int (g i)) := ⟨_, rfl⟩
  obtain ⟨l', lp, F', c4, c5', c6', rfl, h0, h1, h2, h3, h4⟩ := forS_inv (step := forG (exSs (callF prog (n + 5)) rf1) (.nm 4))
    (fun i l => ∃ F' c4 c5' c6', l = [.fz D, .fz (.int 4), .fz (.int 3), .ow true F', c4, c5', c6', .un] ∧ isLent c4 = false ∧ isLent c5' = false ∧ isLent c6' = false ∧ F'.length ≤ 2 * (i * i) + 2 * i ∧ ∀ d, d ∈ F' → FitR s (k + 1) D d) (rangeL 1 4) 0 [.fz D, .fz (.int 4), .fz (.int 3), .ow true [], .un, .un, .un, .un] (by
      rintro i x l hx ⟨F1, b4, b5, b6, rfl, e0, e1, e2, e3, e4⟩
      obtain ⟨hi, rfl⟩ := rangeL_get hx
      rw [Nat.zero_add] at e3 ⊢
      obtain ⟨p, hp⟩ : ∃ p : Int, p = 1 + (i : Int) := ⟨_, rfl⟩
      rw [← hp]
      have hii : i * i ≤ 3 * 3 := Nat.mul_le_mul (by omega) (by omega)
      have lpc := mapL_keep (step := lcG (evE (callF prog (n + 5)) (.var 7)) (evF (callF prog (n + 5)) (.so (.cmp .eq (.call 21 (.e (.var 4) (.e (.var 7) .nil))) (.tup (.e (.var 4) (.e (.var 7) .nil)))))) (.nm 7) [7]) (l := [.fz D, .fz (.int 4), .fz (.int 3), .ow true F1, .fz (.int p), b5, b6, .un]) (ds := rangeL 1 (i + 1)) (c := fun d : Da => match d with
          | .int q => eqv (fr p q) (.tup [.int p, .int q])
          | _ => false) fun d hd => by
        rw [rangeL_rw] at hd
        obtain ⟨j, hj, rfl⟩ := rw_mem hd
        have ef := fraction (n := n + 4) (a := p) (b := 1 + (j : Int)) (by omega) (by omega) (Int.lt_of_lt_of_le (show p < 2 ^ 10 by omega) (pow_mono (by decide))) (Int.lt_of_lt_of_le (show 1 + (j : Int) < 2 ^ 10 by omega) (pow_mono (by decide)))
        have hc := cmp_eq_gen (x := fr p (1 + (j : Int))) (y := .tup [.int p, .int (1 + (j : Int))]) (by simp [fr, sh, shL]) (by simp [sh, shL])
        show _ = some (if eqv (fr p (1 + (j : Int))) (.tup [.int p, .int (1 + (j : Int))]) then some (Da.int (1 + (j : Int))) else none, _)
        by_cases h : eqv (fr p (1 + (j : Int))) (.tup [.int p, .int (1 + (j : Int))]) = true
        · rw [h] at hc ⊢
          simp [evE_var, evE_cst, evE_lit, evE_bin, evE_neg, evE_not, evE_and, evE_or, evE_ife, evE_cmp, evE_chn, evE_tup, evE_ix, evE_sl, evE_call, evE_bi, evE_isi, evE_fr, evE_oix, evE_olen, evE_otup, evE_calO, evE_mind, evAs_nil, evAs_e, evAs_st, evAs_ln, evP_no, evP_so, evF_no, evF_so, evO_dis, evO_lc, evO_lis, evO_cat, evO_rep, evO_sl, evO_osl, evO_call, evO_mv, evO_orr, evO_sst, evO_srt, evI_it, evI_r1, evI_r2, evI_en, evI_zp, exS_asg, exS_par2, exS_par3, exS_own, exS_app, exS_set, exS_exp, exS_ret, exS_retO, exS_ife, exS_whl, exS_for_, exS_never, exS_frz, exSs_nil, exSs_cons, runDef, evT_eq, bd_some, bd_none, mpo_some, mpo_none, callV_eq, forG_eq, lcG_eq, getZ, getO, setT, putC, updO, isLent_un, isLent_fz, isLent_ow, isMine_un, isMine_fz, isMine_ow, isOw_un, isOw_fz, isOw_ow, lastI_succ, lastI_lent, lastI_ow, at_0, at_1, at_2, m_lt0, m_le1, m_le2, m_le3, m_le4, m_le5, m_le6, m_le7, m_le8, cmp_eq_int, cmp_ne_int, cmp_eq_bl, cmp_ne_bl, cmp_lt_int, cmp_le_int, cmp_gt_int, cmp_ge_int, cmp_isN, cmp_notN, cmp_inn, op_add, op_sub, op_mul, op_fdiv, op_mod, op_pow, cellI_zero, cellI_succ, cellI_lent, noOw, wipeC, backC, truth, bool?, int?, items?, vals?, ixF, biF, isTy, isNon, lentOf, avCells, putBack, outs, lentC, ef, hc]
        · have h : eqv (fr p (1 + (j : Int))) (.tup [.int p, .int (1 + (j : Int))]) = false := by simpa using h
          rw [h] at hc ⊢
          simp [evE_var, evE_cst, evE_lit, evE_bin, evE_neg, evE_not, evE_and, evE_or, evE_ife, evE_cmp, evE_chn, evE_tup, evE_ix, evE_sl, evE_call, evE_bi, evE_isi, evE_fr, evE_oix, evE_olen, evE_otup, evE_calO, evE_mind, evAs_nil, evAs_e, evAs_st, evAs_ln, evP_no, evP_so, evF_no, evF_so, evO_dis, evO_lc, evO_lis, evO_cat, evO_rep, evO_sl, evO_osl, evO_call, evO_mv, evO_orr, evO_sst, evO_srt, evI_it, evI_r1, evI_r2, evI_en, evI_zp, exS_asg, exS_par2, exS_par3, exS_own, exS_app, exS_set, exS_exp, exS_ret, exS_retO, exS_ife, exS_whl, exS_for_, exS_never, exS_frz, exSs_nil, exSs_cons, runDef, evT_eq, bd_some, bd_none, mpo_some, mpo_none, callV_eq, forG_eq, lcG_eq, getZ, getO, setT, putC, updO, isLent_un, isLent_fz, isLent_ow, isMine_un, isMine_fz, isMine_ow, isOw_un, isOw_fz, isOw_ow, lastI_succ, lastI_lent, lastI_ow, at_0, at_1, at_2, m_lt0, m_le1, m_le2, m_le3, m_le4, m_le5, m_le6, m_le7, m_le8, cmp_eq_int, cmp_ne_int, cmp_eq_bl, cmp_ne_bl, cmp_lt_int, cmp_le_int, cmp_gt_int, cmp_ge_int, cmp_isN, cmp_notN, cmp_inn, op_add, op_sub, op_mul, op_fdiv, op_mod, op_pow, cellI_zero, cellI_succ, cellI_lent, noOw, wipeC, backC, truth, bool?, int?, items?, vals?, ixF, biF, isTy, isNon, lentOf, avCells, putBack, outs, lentC, ef, hc]
      obtain ⟨bs, hbs⟩ : ∃ bs, bs = (rangeL 1 (i + 1)).filter (fun d : Da => match d with
          | .int q => eqv (fr p q) (.tup [.int p, .int q])
          | _ => false) := ⟨_, rfl⟩
      rw [← hbs] at lpc
      have hbl : bs.length ≤ i + 1 := by rw [hbs]; exact Nat.le_trans (List.length_filter_le _ _) (by rw [rangeL_len]; omega)
      have hbm : ∀ d, d ∈ bs → ∃ q : Int, d = .int q ∧ 1 ≤ q ∧ q ≤ p := fun d hd => by
        rw [hbs] at hd
        have hd := (List.mem_filter.mp hd).1
        rw [rangeL_rw] at hd
        obtain ⟨j, hj, rfl⟩ := rw_mem hd
        exact ⟨_, rfl, by omega, by omega⟩
      obtain ⟨F2, d5, d6, f1, f2, f3, f4, f5⟩ := fit_bottom (n := n) hg hk (p := p) (by omega) (by omega) hbm (by omega) (by rw [← hD]; exact e4) (by omega) (c7 := .un) e1 e2
      rw [← hD] at f1 f5
      have hr1 : rngOk 1 = true := by decide
      have hr2 : rngOk (p + 1) = true := by unfold rngOk; simp; omega
      have ht : p.toNat = i + 1 := by omega
      have hrl : (rangeL 1 (i + 1)).length ≤ most := by rw [rangeL_len]; unfold most; omega
      have eq1 : 2 * ((i + 1) * (i + 1)) + 2 * (i + 1) = 2 * (i * i) + 2 * i + 4 * (i + 1) := by
        have : (i + 1) * (i + 1) = i * i + 2 * i + 1 := by rw [Nat.add_mul, Nat.mul_add, Nat.one_mul, Nat.mul_one]; omega
        omega
      refine ⟨_, ?_, F2, .fz (.int p), d5, d6, rfl, rfl, f2, f3, by omega, f5⟩
      have s0 : exS (callF prog (n + 5)) (nthS 0 rf1) [.fz D, .fz (.int 4), .fz (.int 3), .ow true F1, .fz (.int p), b5, b6, .un] = some (.nx [.fz D, .fz (.int 4), .fz (.int 3), .ow true F2, .fz (.int p), d5, d6, .un]) := by
        refine exS_isFor _ (ds := bs) rfl ?_ f1
        simp [nthS, forIt, rf1, rfb, forBd, d_rules_fitting, evE_var, evE_cst, evE_lit, evE_bin, evE_neg, evE_not, evE_and, evE_or, evE_ife, evE_cmp, evE_chn, evE_tup, evE_ix, evE_sl, evE_call, evE_bi, evE_isi, evE_fr, evE_oix, evE_olen, evE_otup, evE_calO, evE_mind, evAs_nil, evAs_e, evAs_st, evAs_ln, evP_no, evP_so, evF_no, evF_so, evO_dis, evO_lc, evO_lis, evO_cat, evO_rep, evO_sl, evO_osl, evO_call, evO_mv, evO_orr, evO_sst, evO_srt, evI_it, evI_r1, evI_r2, evI_en, evI_zp, exS_asg, exS_par2, exS_par3, exS_own, exS_app, exS_set, exS_exp, exS_ret, exS_retO, exS_ife, exS_whl, exS_for_, exS_never, exS_frz, exSs_nil, exSs_cons, runDef, evT_eq, bd_some, bd_none, mpo_some, mpo_none, callV_eq, forG_eq, lcG_eq, getZ, getO, setT, putC, updO, isLent_un, isLent_fz, isLent_ow, isMine_un, isMine_fz, isMine_ow, isOw_un, isOw_fz, isOw_ow, lastI_succ, lastI_lent, lastI_ow, at_0, at_1, at_2, m_lt0, m_le1, m_le2, m_le3, m_le4, m_le5, m_le6, m_le7, m_le8, cmp_eq_int, cmp_ne_int, cmp_eq_bl, cmp_ne_bl, cmp_lt_int, cmp_le_int, cmp_gt_int, cmp_ge_int, cmp_isN, cmp_notN, cmp_inn, op_add, op_sub, op_mul, op_fdiv, op_mod, op_pow, cellI_zero, cellI_succ, cellI_lent, noOw, wipeC, backC, truth, bool?, int?, items?, vals?, ixF_tup, ixF_lst, bi_len, bi_int, bi_lent, bi_intb, bi_abs, bi_tupl, bi_tupt, max_int2, isTy, isNon, lentOf, avCells, putBack, outs, lentC, hr1, hr2, ht, hrl, lpc]
      have ee : exSs (callF prog (n + 5)) rf1 [.fz D, .fz (.int 4), .fz (.int 3), .ow true F1, .fz (.int p), b5, b6, .un] = some (.nx [.fz D, .fz (.int 4), .fz (.int 3), .ow true F2, .fz (.int p), d5, d6, .un]) := (exSs_nth (b := rf1) 0 rfl s0).trans rfl
      simp [evE_var, evE_cst, evE_lit, evE_bin, evE_neg, evE_not, evE_and, evE_or, evE_ife, evE_cmp, evE_chn, evE_tup, evE_ix, evE_sl, evE_call, evE_bi, evE_isi, evE_fr, evE_oix, evE_olen, evE_otup, evE_calO, evE_mind, evAs_nil, evAs_e, evAs_st, evAs_ln, evP_no, evP_so, evF_no, evF_so, evO_dis, evO_lc, evO_lis, evO_cat, evO_rep, evO_sl, evO_osl, evO_call, evO_mv, evO_orr, evO_sst, evO_srt, evI_it, evI_r1, evI_r2, evI_en, evI_zp, exS_asg, exS_par2, exS_par3, exS_own, exS_app, exS_set, exS_exp, exS_ret, exS_retO, exS_ife, exS_whl, exS_for_, exS_never, exS_frz, exSs_nil, exSs_cons, runDef, evT_eq, bd_some, bd_none, mpo_some, mpo_none, callV_eq, forG_eq, lcG_eq, getZ, getO, setT, putC, updO, isLent_un, isLent_fz, isLent_ow, isMine_un, isMine_fz, isMine_ow, isOw_un, isOw_fz, isOw_ow, lastI_succ, lastI_lent, lastI_ow, at_0, at_1, at_2, m_lt0, m_le1, m_le2, m_le3, m_le4, m_le5, m_le6, m_le7, m_le8, cmp_eq_int, cmp_ne_int, cmp_eq_bl, cmp_ne_bl, cmp_lt_int, cmp_le_int, cmp_gt_int, cmp_ge_int, cmp_isN, cmp_notN, cmp_inn, op_add, op_sub, op_mul, op_fdiv, op_mod, op_pow, cellI_zero, cellI_succ, cellI_lent, noOw, wipeC, backC, truth, bool?, int?, items?, vals?, ixF, biF, isTy, isNon, lentOf, avCells, putBack, outs, lentC, e0, ee]) ⟨[], .un, .un, .un, rfl, rfl, rfl, rfl, by simp, fun d hd => by cases hd⟩
  rw [rangeL_len, Nat.zero_add] at h3
  rw [← hD]
  refine ⟨F', by omega, h4, ?_⟩
  have s1 : exS (callF prog (n + 5)) (nthS 1 rfb) [.fz D, .fz (.int 4), .fz (.int 3), .ow true [], .un, .un, .un, .un] = some (.nx [.fz D, .fz (.int 4), .fz (.int 3), .ow true F', c4, c5', c6', .un]) := by
    refine exS_isFor _ (ds := rangeL 1 4) rfl ?_ lp
    have hr1 : rngOk 1 = true := by decide
    have hr5 : rngOk 5 = true := by decide
    have ht : ((5 : Int) - 1).toNat = 4 := rfl
    simp [nthS, forIt, rfb, d_rules_fitting, evE_var, evE_cst, evE_lit, evE_bin, evE_neg, evE_not, evE_and, evE_or, evE_ife, evE_cmp, evE_chn, evE_tup, evE_ix, evE_sl, evE_call, evE_bi, evE_isi, evE_fr, evE_oix, evE_olen, evE_otup, evE_calO, evE_mind, evAs_nil, evAs_e, evAs_st, evAs_ln, evP_no, evP_so, evF_no, evF_so, evO_dis, evO_lc, evO_lis, evO_cat, evO_rep, evO_sl, evO_osl, evO_call, evO_mv, evO_orr, evO_sst, evO_srt, evI_it, evI_r1, evI_r2, evI_en, evI_zp, exS_asg, exS_par2, exS_par3, exS_own, exS_app, exS_set, exS_exp, exS_ret, exS_retO, exS_ife, exS_whl, exS_for_, exS_never, exS_frz, exSs_nil, exSs_cons, runDef, evT_eq, bd_some, bd_none, mpo_some, mpo_none, callV_eq, forG_eq, lcG_eq, getZ, getO, setT, putC, updO, isLent_un, isLent_fz, isLent_ow, isMine_un, isMine_fz, isMine_ow, isOw_un, isOw_fz, isOw_ow, lastI_succ, lastI_lent, lastI_ow, at_0, at_1, at_2, m_lt0, m_le1, m_le2, m_le3, m_le4, m_le5, m_le6, m_le7, m_le8, cmp_eq_int, cmp_ne_int, cmp_eq_bl, cmp_ne_bl, cmp_lt_int, cmp_le_int, cmp_gt_int, cmp_ge_int, cmp_isN, cmp_notN, cmp_inn, op_add, op_sub, op_mul, op_fdiv, op_mod, op_pow, cellI_zero, cellI_succ, cellI_lent, noOw, wipeC, backC, truth, bool?, int?, items?, vals?, ixF_tup, ixF_lst, bi_len, bi_int, bi_lent, bi_intb, bi_abs, bi_tupl, bi_tupt, max_int2, isTy, isNon, lentOf, avCells, putBack, outs, lentC, hr1, hr5, ht]
  have s0 : exS (callF prog (n + 5)) (nthS 0 rfb) [.fz D, .fz (.int 4), .fz (.int 3), .un, .un, .un, .un, .un] = some (.nx [.fz D, .fz (.int 4), .fz (.int 3), .ow true [], .un, .un, .un, .un]) := by
    simp [nthS, rfb, d_rules_fitting, evE_var, evE_cst, evE_lit, evE_bin, evE_neg, evE_not, evE_and, evE_or, evE_ife, evE_cmp, evE_chn, evE_tup, evE_ix, evE_sl, evE_call, evE_bi, evE_isi, evE_fr, evE_oix, evE_olen, evE_otup, evE_calO, evE_mind, evAs_nil, evAs_e, evAs_st, evAs_ln, evP_no, evP_so, evF_no, evF_so, evO_dis, evO_lc, evO_lis, evO_cat, evO_rep, evO_sl, evO_osl, evO_call, evO_mv, evO_orr, evO_sst, evO_srt, evI_it, evI_r1, evI_r2, evI_en, evI_zp, exS_asg, exS_par2, exS_par3, exS_own, exS_app, exS_set, exS_exp, exS_ret, exS_retO, exS_ife, exS_whl, exS_for_, exS_never, exS_frz, exSs_nil, exSs_cons, runDef, evT_eq, bd_some, bd_none, mpo_some, mpo_none, callV_eq, forG_eq, lcG_eq, getZ, getO, setT, putC, updO, isLent_un, isLent_fz, isLent_ow, isMine_un, isMine_fz, isMine_ow, isOw_un, isOw_fz, isOw_ow, lastI_succ, lastI_lent, lastI_ow, at_0, at_1, at_2, m_lt0, m_le1, m_le2, m_le3, m_le4, m_le5, m_le6, m_le7, m_le8, cmp_eq_int, cmp_ne_int, cmp_eq_bl, cmp_ne_bl, cmp_lt_int, cmp_le_int, cmp_gt_int, cmp_ge_int, cmp_isN, cmp_notN, cmp_inn, op_add, op_sub, op_mul, op_fdiv, op_mod, op_pow, cellI_zero, cellI_succ, cellI_lent, noOw, wipeC, backC, truth, bool?, int?, items?, vals?, ixF, biF, isTy, isNon, lentOf, avCells, putBack, outs, lentC]
  rw [call_body (d := d_rules_fitting) rfl rfl]
  show (exSs (callF prog (n + 5)) (dropS 0 rfb) [.fz D, .fz (.int 4), .fz (.int 3), .un, .un, .un, .un, .un]).mpo _ = _
  rw [exSs_nth 0 rfl s0, exSs_nth 1 rfl s1]
  simp [dropS, rfb, d_rules_fitting, retOf, evE_var, evE_cst, evE_lit, evE_bin, evE_neg, evE_not, evE_and, evE_or, evE_ife, evE_cmp, evE_chn, evE_tup, evE_ix, evE_sl, evE_call, evE_bi, evE_isi, evE_fr, evE_oix, evE_olen, evE_otup, evE_calO, evE_mind, evAs_nil, evAs_e, evAs_st, evAs_ln, evP_no, evP_so, evF_no, evF_so, evO_dis, evO_lc, evO_lis, evO_cat, evO_rep, evO_sl, evO_osl, evO_call, evO_mv, evO_orr, evO_sst, evO_srt, evI_it, evI_r1, evI_r2, evI_en, evI_zp, exS_asg, exS_par2, exS_par3, exS_own, exS_app, exS_set, exS_exp, exS_ret, exS_retO, exS_ife, exS_whl, exS_for_, exS_never, exS_frz, exSs_nil, exSs_cons, runDef, evT_eq, bd_some, bd_none, mpo_some, mpo_none, callV_eq, forG_eq, lcG_eq, getZ, getO, setT, putC, updO, isLent_un, isLent_fz, isLent_ow, isMine_un, isMine_fz, isMine_ow, isOw_un, isOw_fz, isOw_ow, lastI_succ, lastI_lent, lastI_ow, at_0, at_1, at_2, m_lt0, m_le1, m_le2, m_le3, m_le4, m_le5, m_le6, m_le7, m_le8, cmp_eq_int, cmp_ne_int, cmp_eq_bl, cmp_ne_bl, cmp_lt_int, cmp_le_int, cmp_gt_int, cmp_ge_int, cmp_isN, cmp_notN, cmp_inn, op_add, op_sub, op_mul, op_fdiv, op_mod, op_pow, cellI_zero, cellI_succ, cellI_lent, noOw, wipeC, backC, truth, bool?, int?, items?, vals?, ixF, biF, isTy, isNon, lentOf, avCells, putBack, outs, lentC]
end
end K97

set_option linter.all false
set_option maxRecDepth 100000
/-! K97E: where rules that fit go on; steady laps. -/
namespace K97
open Mini
theorem set_of {n : Nat} {zs : List Int} (h : zs.length < 64) : callF prog (n + 1) 24 [.fz (.lst (zs.map .int))] = some (.fz (.tup (sortD zs)), [.fz (.lst (zs.map .int))]) := by
  have e := ints_map zs
  rw [call_body (d := d_set_of) rfl rfl]
  simp [d_set_of, retOf, evE_var, evE_cst, evE_lit, evE_bin, evE_neg, evE_not, evE_and, evE_or, evE_ife, evE_cmp, evE_chn, evE_tup, evE_ix, evE_sl, evE_call, evE_bi, evE_isi, evE_fr, evE_oix, evE_olen, evE_otup, evE_calO, evE_mind, evAs_nil, evAs_e, evAs_st, evAs_ln, evP_no, evP_so, evF_no, evF_so, evO_dis, evO_lc, evO_lis, evO_cat, evO_rep, evO_sl, evO_osl, evO_call, evO_mv, evO_orr, evO_sst, evO_srt, evI_it, evI_r1, evI_r2, evI_en, evI_zp, exS_asg, exS_par2, exS_par3, exS_own, exS_app, exS_set, exS_exp, exS_ret, exS_retO, exS_ife, exS_whl, exS_for_, exS_never, exS_frz, exSs_nil, exSs_cons, runDef, evT_eq, bd_some, bd_none, mpo_some, mpo_none, callV_eq, forG_eq, lcG_eq, getZ, getO, setT, putC, updO, isLent_un, isLent_fz, isLent_ow, isMine_un, isMine_fz, isMine_ow, isOw_un, isOw_fz, isOw_ow, lastI_succ, lastI_lent, lastI_ow, at_0, at_1, at_2, m_lt0, m_le1, m_le2, m_le3, m_le4, m_le5, m_le6, m_le7, m_le8, cmp_eq_int, cmp_ne_int, cmp_eq_bl, cmp_ne_bl, cmp_lt_int, cmp_le_int, cmp_gt_int, cmp_ge_int, cmp_isN, cmp_notN, cmp_inn, op_add, op_sub, op_mul, op_fdiv, op_mod, op_pow, cellI_zero, cellI_succ, cellI_lent, noOw, wipeC, backC, truth, bool?, int?, items?, vals?, ixF_tup, ixF_lst, bi_len, bi_int, bi_lent, bi_intb, bi_abs, bi_tupl, bi_tupt, max_int2, isTy, isNon, lentOf, avCells, putBack, outs, lentC, lints?, e, h]
theorem ins_mem' (z k : Int) : ∀ r : List Int, k ∈ insI z r ↔ k = z ∨ k ∈ r
  | [] => by simp [insI]
  | x :: r => by
    unfold insI
    split
    · simp
    · split
      · rename_i h; subst h; simp
      · rw [List.mem_cons, ins_mem' z k r, List.mem_cons]
        constructor
        · rintro (h | h | h)
          · exact .inr (.inl h)
          · exact .inl h
          · exact .inr (.inr h)
        · rintro (h | h | h)
          · exact .inr (.inl h)
          · exact .inl h
          · exact .inr (.inr h)
theorem sort_mem (k : Int) : ∀ ns : List Int, k ∈ sortI ns ↔ k ∈ ns
  | [] => by simp [sortI]
  | x :: r => by rw [sortI, ins_mem', sort_mem k r, List.mem_cons]
def zf (s : Int) (K : Nat) : Da → Int
  | .tup [.int p, .int q, .int m] => (⟨p, q, m, s⟩ : R).pl K
  | _ => 0
theorem FitR.good {s : Int} {k : Nat} {D d : Da} (f : FitR s k D d) : ∃ r : R, d = rl r.p r.q r.m ∧ r.s = s ∧ r.Good ∧ 1 ≤ r.q ∧ r.q ≤ r.p ∧ r.p ≤ 4 ∧ 0 ≤ r.m ∧ r.m ≤ 3 ∧ eqv (rdT r k) D = true := by
  obtain ⟨p, q, m, rfl, h1, h2, h3, h4, h5, h6⟩ := f
  unfold rdB isS at h6
  rw [Bool.and_eq_true, Bool.and_eq_true] at h6
  exact ⟨⟨p, q, m, s⟩, rfl, rfl, ⟨⟨show 0 < p by omega, show p < 1000 by omega, show 0 < q by omega, show q < 1000 by omega⟩, of_decide_eq_true h6.1.1, of_decide_eq_true h6.1.2⟩, h1, h2, h3, h4, h5, h6.2⟩
theorem next_read {n k : Nat} {s : Int} {g : Nat → Int} (hg : g 0 = s) (hk : k < 900) {F : List Da} (hF : ∀ n, callF prog (n + 6) 22 [.fz (.tup (rw (k + 1) fun i => .int (g i))), .fz (.int 4), .fz (.int 3)] = some (.fz (.tup F), [.fz (.tup (rw (k + 1) fun i => .int (g i))), .fz (.int 4), .fz (.int 3)]))
    (hfit : ∀ d, d ∈ F → FitR s (k + 1) (.tup (rw (k + 1) fun i => .int (g i))) d) (hlen : F.length < 64) :
    callF prog (n + 7) 25 [.fz (.tup (rw (k + 1) fun i => .int (g i))), .fz (.int 4), .fz (.int 3)] = some (.fz (.tup (sortD (F.map (zf s (k + 2))))), [.fz (.tup (rw (k + 1) fun i => .int (g i))), .fz (.int 4), .fz (.int 3)]) := by
  have hat : at? (rw (k + 1) fun i => Da.int (g i)) 0 = some (.int s) := by
    have := rw_at (n := k + 1) (i := 0) (fun i => Da.int (g i)) (by omega)
    rw [hg] at this
    exact this
  have hlen' : ((rw (k + 1) fun i => Da.int (g i)).length : Int) = (k : Int) + 1 := by rw [rw_len]; omega
  have e1 := hF n
  obtain ⟨D, hD⟩ : ∃ D, D = rw (k + 1) fun i => Da.int (g i) := ⟨_, rfl⟩
  rw [← hD] at hat hlen' e1 hfit ⊢
  have lp := mapL_const (step := lcG (evE (callF prog (n + 6)) (.ix (.ix (.call 6 (.e (.var 4) (.e (.ix (.var 0) (.lit (.int 0))) (.e (.bin .add (.bi .len (.e (.var 0) .nil)) (.lit (.int 1))) .nil)))) (.neg (.lit (.int 1)))) (.lit (.int 0)))) (evF (callF prog (n + 6)) .no) (.nm 4) [4]) (l := [.fz (.tup D), .fz (.int 4), .fz (.int 3), .fz (.tup F), .un]) (fun d => some (.int (zf s (k + 2) d))) F fun d hd => by
    obtain ⟨r, rfl, hs, gd, _⟩ := (hfit d hd).good
    have e2 := blocks_along (n := n + 2) gd (k := k + 2) (by omega)
    have ek : ((k + 2 : Nat) : Int) = (k : Int) + 1 + 1 := by omega
    rw [ek, hs] at e2
    have hl := rw_last (k + 2) r.row
    have hr : r.row (k + 2) = .tup [.int (r.pl (k + 2)), .int (r.sz (k + 2))] := rfl
    rw [hr] at hl
    have hz : zf s (k + 2) (rl r.p r.q r.m) = r.pl (k + 2) := by
      show (⟨r.p, r.q, r.m, s⟩ : R).pl (k + 2) = _
      rw [← hs]
    rw [hz]
    simp [evE_var, evE_cst, evE_lit, evE_bin, evE_neg, evE_not, evE_and, evE_or, evE_ife, evE_cmp, evE_chn, evE_tup, evE_ix, evE_sl, evE_call, evE_bi, evE_isi, evE_fr, evE_oix, evE_olen, evE_otup, evE_calO, evE_mind, evAs_nil, evAs_e, evAs_st, evAs_ln, evP_no, evP_so, evF_no, evF_so, evO_dis, evO_lc, evO_lis, evO_cat, evO_rep, evO_sl, evO_osl, evO_call, evO_mv, evO_orr, evO_sst, evO_srt, evI_it, evI_r1, evI_r2, evI_en, evI_zp, exS_asg, exS_par2, exS_par3, exS_own, exS_app, exS_set, exS_exp, exS_ret, exS_retO, exS_ife, exS_whl, exS_for_, exS_never, exS_frz, exSs_nil, exSs_cons, runDef, evT_eq, bd_some, bd_none, mpo_some, mpo_none, callV_eq, forG_eq, lcG_eq, getZ, getO, setT, putC, updO, isLent_un, isLent_fz, isLent_ow, isMine_un, isMine_fz, isMine_ow, isOw_un, isOw_fz, isOw_ow, lastI_succ, lastI_lent, lastI_ow, at_0, at_1, at_2, m_lt0, m_le1, m_le2, m_le3, m_le4, m_le5, m_le6, m_le7, m_le8, cmp_eq_int, cmp_ne_int, cmp_eq_bl, cmp_ne_bl, cmp_lt_int, cmp_le_int, cmp_gt_int, cmp_ge_int, cmp_isN, cmp_notN, cmp_inn, op_add, op_sub, op_mul, op_fdiv, op_mod, op_pow, cellI_zero, cellI_succ, cellI_lent, noOw, wipeC, backC, truth, bool?, int?, items?, vals?, ixF_tup, ixF_lst, bi_len, bi_int, bi_lent, bi_intb, bi_abs, bi_tupl, bi_tupt, max_int2, isTy, isNon, lentOf, avCells, putBack, outs, lentC, hat, hlen', e2, hl]
  have hfm : F.filterMap (fun d => some (Da.int (zf s (k + 2) d))) = (F.map (zf s (k + 2))).map Da.int := by
    rw [List.map_map]
    clear lp hfit hlen e1 hF
    induction F with
    | nil => rfl
    | cons d r ih => rw [List.filterMap_cons, ih]; rfl
  rw [hfm] at lp
  have hlm : F.length ≤ most := by unfold most; omega
  have e3 := set_of (n := n + 5) (zs := F.map (zf s (k + 2))) (by rw [List.length_map]; exact hlen)
  rw [call_body (d := d_next_read) rfl rfl]
  rw [List.map_map] at lp e3
  simp [d_next_read, retOf, evE_var, evE_cst, evE_lit, evE_bin, evE_neg, evE_not, evE_and, evE_or, evE_ife, evE_cmp, evE_chn, evE_tup, evE_ix, evE_sl, evE_call, evE_bi, evE_isi, evE_fr, evE_oix, evE_olen, evE_otup, evE_calO, evE_mind, evAs_nil, evAs_e, evAs_st, evAs_ln, evP_no, evP_so, evF_no, evF_so, evO_dis, evO_lc, evO_lis, evO_cat, evO_rep, evO_sl, evO_osl, evO_call, evO_mv, evO_orr, evO_sst, evO_srt, evI_it, evI_r1, evI_r2, evI_en, evI_zp, exS_asg, exS_par2, exS_par3, exS_own, exS_app, exS_set, exS_exp, exS_ret, exS_retO, exS_ife, exS_whl, exS_for_, exS_never, exS_frz, exSs_nil, exSs_cons, runDef, evT_eq, bd_some, bd_none, mpo_some, mpo_none, callV_eq, forG_eq, lcG_eq, getZ, getO, setT, putC, updO, isLent_un, isLent_fz, isLent_ow, isMine_un, isMine_fz, isMine_ow, isOw_un, isOw_fz, isOw_ow, lastI_succ, lastI_lent, lastI_ow, at_0, at_1, at_2, m_lt0, m_le1, m_le2, m_le3, m_le4, m_le5, m_le6, m_le7, m_le8, cmp_eq_int, cmp_ne_int, cmp_eq_bl, cmp_ne_bl, cmp_lt_int, cmp_le_int, cmp_gt_int, cmp_ge_int, cmp_isN, cmp_notN, cmp_inn, op_add, op_sub, op_mul, op_fdiv, op_mod, op_pow, cellI_zero, cellI_succ, cellI_lent, noOw, wipeC, backC, truth, bool?, int?, items?, vals?, ixF_tup, ixF_lst, bi_len, bi_int, bi_lent, bi_intb, bi_abs, bi_tupl, bi_tupt, max_int2, isTy, isNon, lentOf, avCells, putBack, outs, lentC, e1, lp, hlm, e3]
theorem eqv_int {x y : Int} (h : eqv (.int x) (.int y) = true) : x = y := by simpa [eqv] using h
theorem eqvL_get : ∀ {l l' : List Da} {i : Nat} {a b : Da}, eqvL l l' = true → l[i]? = some a → l'[i]? = some b → eqv a b = true
  | x :: r, y :: r', 0, a, b, h, h1, h2 => by
    rw [eqvL, Bool.and_eq_true] at h
    simp at h1 h2
    subst h1 h2
    exact h.1
  | x :: r, y :: r', i + 1, a, b, h, h1, h2 => by
    rw [eqvL, Bool.and_eq_true] at h
    exact eqvL_get h.2 (by simpa using h1) (by simpa using h2)
theorem eqv_rdT {a b : R} {k : Nat} (h : eqv (rdT a k) (rdT b k) = true) {i : Nat} (hi : i < k) : a.pl (i + 1) = b.pl (i + 1) := by
  unfold rdT at h
  rw [eqv] at h
  exact eqv_int (eqvL_get h (rw_get (fun i => Da.int (a.pl (i + 1))) hi) (rw_get (fun i => Da.int (b.pl (i + 1))) hi))
theorem cmp_inn_tup {x : Da} {l : List Da} (hx : sh 8 x = true) (hl : shL 8 l = true) : cmpF .inn x (.tup l) = some (l.any fun y => eqv y x) := by
  rw [cmp_inn, inF, hx, hl]
  rfl
theorem cmp_nin_tup {x : Da} {l : List Da} (hx : sh 8 x = true) (hl : shL 8 l = true) : cmpF .nin x (.tup l) = some (!(l.any fun y => eqv y x)) := by
  have : cmpF .nin x (.tup l) = (inF x (.tup l)).map not := by cases x <;> rfl
  rw [this, inF, hx, hl]
  rfl
theorem any_self {x : Da} {l : List Da} (h : x ∈ l) : (l.any fun y => eqv y x) = true := List.any_eq_true.mpr ⟨x, h, eqv_refl x⟩
theorem eqv_rl {p q m : Int} {d : Da} (h : eqv d (rl p q m) = true) (hd : ∃ a b c : Int, d = rl a b c) : d = rl p q m := by
  obtain ⟨a, b, c, rfl⟩ := hd
  simp [eqv, eqvL] at h
  obtain ⟨rfl, rfl, rfl⟩ := h
  rfl
theorem sg_eq {a b : R} {i : Nat} (h : a.pl (i + 1) = b.pl (i + 1)) : sg a i = sg b i := by unfold sg; rw [h]
theorem ne_sg {a b : R} {k : Nat} (h : decide (a.pl (k + 1) = 0) ≠ decide (b.pl (k + 1) = 0)) : cmpF .eq (sg a k) (sg b k) = some false := by
  rw [sg, sg, cmp_eq_bl, beq_eq_false_iff_ne.mpr h]
def frb : Ss := d_law_fit_right.body
set_option maxHeartbeats 400000 in
theorem fit_right {n : Nat} {r : R} (d : r.Dom) : callF prog (n + 8) 26 [.fz (rl r.p r.q r.m), .fz (rdT r 5), .fz (.int (r.pl 6))] = some (.fz (.bl true), [.fz (rl r.p r.q r.m), .fz (rdT r 5), .fz (.int (r.pl 6))]) := by
  have h1 : r.pl (0 + 1) = r.s := by
    have := d.sz0 1
    show (if r.sz 1 ≤ 0 then 0 else 0 + r.s) = r.s
    rw [if_neg (by omega)]
    omega
  have hF : ∃ F : List Da, F.length < 64 ∧ (∀ e, e ∈ F → FitR r.s 5 (rdT r 5) e) ∧ ∀ n, callF prog (n + 6) 22 [.fz (rdT r 5), .fz (.int 4), .fz (.int 3)] = some (.fz (.tup F), [.fz (rdT r 5), .fz (.int 4), .fz (.int 3)]) := by
    obtain ⟨F, a, b, c⟩ := rules_fitting (n := 0) (k := 4) (g := fun i => r.pl (i + 1)) h1 (by decide)
    exact ⟨F, a, b, fun n => callF_le c (by omega)⟩
  obtain ⟨F, hlen, hfit, e1⟩ := hF
  have hat : at? (rw 5 fun i => Da.int (r.pl (i + 1))) 0 = some (.int r.s) := by
    have := rw_at (n := 5) (i := 0) (fun i => Da.int (r.pl (i + 1))) (by omega)
    rw [h1] at this
    exact this
  obtain ⟨D, hD⟩ : ∃ D, D = rw 5 fun i => Da.int (r.pl (i + 1)) := ⟨_, rfl⟩
  have hDr : rdT r 5 = .tup D := by rw [hD]; rfl
  rw [← hD] at hat
  have e3 := next_read (n := n) (k := 4) (s := r.s) (g := fun i => r.pl (i + 1)) h1 (by decide) (F := F) e1 hfit hlen
  have e1 := e1 (n + 1)
  have eread : ∀ e, e ∈ F → callF prog (n + 7) 20 [.fz e, .fz (.tup D)] = some (.fz (.bl true), [.fz e, .fz (.tup D)]) := fun e he => by
    obtain ⟨p, q, m, rfl, q1, q2, q3, q4, q5, q6⟩ := hfit e he
    have := is_read_by (n := n + 2) (k := 4) (p := p) (q := q) (m := m) (s := r.s) (g := fun i => r.pl (i + 1)) ⟨by omega, by omega, by omega, by omega⟩ h1 (by decide)
    have q6' : rdB p q m r.s (4 + 1) (.tup (rw (4 + 1) fun i => .int (r.pl (i + 1)))) = true := q6
    rw [q6'] at this
    rw [hD]
    exact this
  have e3 : callF prog (n + 7) 25 [.fz (.tup D), .fz (.int 4), .fz (.int 3)] = some (.fz (.tup (sortD (F.map (zf r.s 6)))), [.fz (.tup D), .fz (.int 4), .fz (.int 3)]) := by rw [hD]; exact e3
  rw [hDr] at e1 hfit ⊢
  have s0 : exS (callF prog (n + 7)) (nthS 0 frb) [.fz (rl r.p r.q r.m), .fz (.tup D), .fz (.int (r.pl 6)), .un, .un, .un, .un, .un] = some (.nx [.fz (rl r.p r.q r.m), .fz (.tup D), .fz (.int (r.pl 6)), .fz (.tup F), .un, .un, .un, .un]) := by
    simp [nthS, frb, d_law_fit_right, evE_var, evE_cst, evE_lit, evE_bin, evE_neg, evE_not, evE_and, evE_or, evE_ife, evE_cmp, evE_chn, evE_tup, evE_ix, evE_sl, evE_call, evE_bi, evE_isi, evE_fr, evE_oix, evE_olen, evE_otup, evE_calO, evE_mind, evAs_nil, evAs_e, evAs_st, evAs_ln, evP_no, evP_so, evF_no, evF_so, evO_dis, evO_lc, evO_lis, evO_cat, evO_rep, evO_sl, evO_osl, evO_call, evO_mv, evO_orr, evO_sst, evO_srt, evI_it, evI_r1, evI_r2, evI_en, evI_zp, exS_asg, exS_par2, exS_par3, exS_own, exS_app, exS_set, exS_exp, exS_ret, exS_retO, exS_ife, exS_whl, exS_for_, exS_never, exS_frz, exSs_nil, exSs_cons, runDef, evT_eq, bd_some, bd_none, mpo_some, mpo_none, callV_eq, forG_eq, lcG_eq, getZ, getO, setT, putC, updO, isLent_un, isLent_fz, isLent_ow, isMine_un, isMine_fz, isMine_ow, isOw_un, isOw_fz, isOw_ow, lastI_succ, lastI_lent, lastI_ow, at_0, at_1, at_2, m_lt0, m_le1, m_le2, m_le3, m_le4, m_le5, m_le6, m_le7, m_le8, cmp_eq_int, cmp_ne_int, cmp_eq_bl, cmp_ne_bl, cmp_lt_int, cmp_le_int, cmp_gt_int, cmp_ge_int, cmp_isN, cmp_notN, cmp_inn, op_add, op_sub, op_mul, op_fdiv, op_mod, op_pow, cellI_zero, cellI_succ, cellI_lent, noOw, wipeC, backC, truth, bool?, int?, items?, vals?, ixF, biF, isTy, isNon, lentOf, avCells, putBack, outs, lentC, e1]
  have s1 : ∃ c4, isLent c4 = false ∧ exS (callF prog (n + 7)) (nthS 1 frb) [.fz (rl r.p r.q r.m), .fz (.tup D), .fz (.int (r.pl 6)), .fz (.tup F), .un, .un, .un, .un] = some (.nx [.fz (rl r.p r.q r.m), .fz (.tup D), .fz (.int (r.pl 6)), .fz (.tup F), c4, .un, .un, .un]) := by
    obtain ⟨l', lp, c4, rfl, hc4⟩ := forS_inv (step := forG (exSs (callF prog (n + 7)) (forBd (nthS 1 frb))) (.nm 4)) (fun _ l => ∃ c4, l = [.fz (rl r.p r.q r.m), .fz (.tup D), .fz (.int (r.pl 6)), .fz (.tup F), c4, .un, .un, .un] ∧ isLent c4 = false) F 0 [.fz (rl r.p r.q r.m), .fz (.tup D), .fz (.int (r.pl 6)), .fz (.tup F), .un, .un, .un, .un] (by
      rintro i x l hx ⟨c4, rfl, hc⟩
      have hm := List.mem_of_getElem? hx
      obtain ⟨a, rfl, hs, ga, _⟩ := (hfit x hm).good
      have f1 := eread _ hm
      obtain ⟨o, o1, o2, o3⟩ := growths_to_part ga ga rfl
      have ho : o = none := by
        cases o with
        | none => rfl
        | some k => exact absurd rfl (o2 k rfl)
      subst ho
      have f2 := o3 (n + 1)
      rw [hs] at f2
      refine ⟨_, ?_, .fz (rl a.p a.q a.m), rfl, rfl⟩
      simp [nthS, forBd, frb, d_law_fit_right, evE_var, evE_cst, evE_lit, evE_bin, evE_neg, evE_not, evE_and, evE_or, evE_ife, evE_cmp, evE_chn, evE_tup, evE_ix, evE_sl, evE_call, evE_bi, evE_isi, evE_fr, evE_oix, evE_olen, evE_otup, evE_calO, evE_mind, evAs_nil, evAs_e, evAs_st, evAs_ln, evP_no, evP_so, evF_no, evF_so, evO_dis, evO_lc, evO_lis, evO_cat, evO_rep, evO_sl, evO_osl, evO_call, evO_mv, evO_orr, evO_sst, evO_srt, evI_it, evI_r1, evI_r2, evI_en, evI_zp, exS_asg, exS_par2, exS_par3, exS_own, exS_app, exS_set, exS_exp, exS_ret, exS_retO, exS_ife, exS_whl, exS_for_, exS_never, exS_frz, exSs_nil, exSs_cons, runDef, evT_eq, bd_some, bd_none, mpo_some, mpo_none, callV_eq, forG_eq, lcG_eq, getZ, getO, setT, putC, updO, isLent_un, isLent_fz, isLent_ow, isMine_un, isMine_fz, isMine_ow, isOw_un, isOw_fz, isOw_ow, lastI_succ, lastI_lent, lastI_ow, at_0, at_1, at_2, m_lt0, m_le1, m_le2, m_le3, m_le4, m_le5, m_le6, m_le7, m_le8, cmp_eq_int, cmp_ne_int, cmp_eq_bl, cmp_ne_bl, cmp_lt_int, cmp_le_int, cmp_gt_int, cmp_ge_int, cmp_isN, cmp_notN, cmp_inn, op_add, op_sub, op_mul, op_fdiv, op_mod, op_pow, cellI_zero, cellI_succ, cellI_lent, noOw, wipeC, backC, truth, bool?, int?, items?, vals?, ixF_tup, ixF_lst, bi_len, bi_int, bi_lent, bi_intb, bi_abs, bi_tupl, bi_tupt, max_int2, isTy, isNon, lentOf, avCells, putBack, outs, lentC, hc, f1, f2, hat, ptD]) ⟨.un, rfl, rfl⟩
    refine ⟨c4, hc4, exS_isFor _ (ds := F) rfl ?_ lp⟩
    simp [nthS, forIt, frb, d_law_fit_right, evE_var, evE_cst, evE_lit, evE_bin, evE_neg, evE_not, evE_and, evE_or, evE_ife, evE_cmp, evE_chn, evE_tup, evE_ix, evE_sl, evE_call, evE_bi, evE_isi, evE_fr, evE_oix, evE_olen, evE_otup, evE_calO, evE_mind, evAs_nil, evAs_e, evAs_st, evAs_ln, evP_no, evP_so, evF_no, evF_so, evO_dis, evO_lc, evO_lis, evO_cat, evO_rep, evO_sl, evO_osl, evO_call, evO_mv, evO_orr, evO_sst, evO_srt, evI_it, evI_r1, evI_r2, evI_en, evI_zp, exS_asg, exS_par2, exS_par3, exS_own, exS_app, exS_set, exS_exp, exS_ret, exS_retO, exS_ife, exS_whl, exS_for_, exS_never, exS_frz, exSs_nil, exSs_cons, runDef, evT_eq, bd_some, bd_none, mpo_some, mpo_none, callV_eq, forG_eq, lcG_eq, getZ, getO, setT, putC, updO, isLent_un, isLent_fz, isLent_ow, isMine_un, isMine_fz, isMine_ow, isOw_un, isOw_fz, isOw_ow, lastI_succ, lastI_lent, lastI_ow, at_0, at_1, at_2, m_lt0, m_le1, m_le2, m_le3, m_le4, m_le5, m_le6, m_le7, m_le8, cmp_eq_int, cmp_ne_int, cmp_eq_bl, cmp_ne_bl, cmp_lt_int, cmp_le_int, cmp_gt_int, cmp_ge_int, cmp_isN, cmp_notN, cmp_inn, op_add, op_sub, op_mul, op_fdiv, op_mod, op_pow, cellI_zero, cellI_succ, cellI_lent, noOw, wipeC, backC, truth, bool?, int?, items?, vals?, ixF, biF, isTy, isNon, lentOf, avCells, putBack, outs, lentC]
  obtain ⟨c4, hc4, s1⟩ := s1
  have hrl : sh 8 (rl r.p r.q r.m) = true := by simp [sh, shL]
  have hshF : shL 8 F = true := shL_all fun x hx => by
    obtain ⟨a, rfl, _⟩ := (hfit x hx).good
    simp [sh, shL]
  have hshZ : shL 8 (sortD (F.map (zf r.s 6))) = true := shL_all fun x hx => by
    obtain ⟨z, _, rfl⟩ := List.mem_map.mp hx
    simp [sh]
  have i1 := cmp_inn_tup hrl hshF
  rw [cmp_inn] at i1
  have i2 := cmp_nin_tup (x := .int (r.pl 6)) (by simp [sh]) hshZ
  have s2 : exS (callF prog (n + 7)) (nthS 2 frb) [.fz (rl r.p r.q r.m), .fz (.tup D), .fz (.int (r.pl 6)), .fz (.tup F), c4, .un, .un, .un] = some (.nx [.fz (rl r.p r.q r.m), .fz (.tup D), .fz (.int (r.pl 6)), .fz (.tup F), c4, .un, .un, .un]) := by
    cases hb : F.any fun y => eqv y (rl r.p r.q r.m) with
    | false =>
      rw [hb] at i1
      simp [nthS, frb, d_law_fit_right, evE_var, evE_cst, evE_lit, evE_bin, evE_neg, evE_not, evE_and, evE_or, evE_ife, evE_cmp, evE_chn, evE_tup, evE_ix, evE_sl, evE_call, evE_bi, evE_isi, evE_fr, evE_oix, evE_olen, evE_otup, evE_calO, evE_mind, evAs_nil, evAs_e, evAs_st, evAs_ln, evP_no, evP_so, evF_no, evF_so, evO_dis, evO_lc, evO_lis, evO_cat, evO_rep, evO_sl, evO_osl, evO_call, evO_mv, evO_orr, evO_sst, evO_srt, evI_it, evI_r1, evI_r2, evI_en, evI_zp, exS_asg, exS_par2, exS_par3, exS_own, exS_app, exS_set, exS_exp, exS_ret, exS_retO, exS_ife, exS_whl, exS_for_, exS_never, exS_frz, exSs_nil, exSs_cons, runDef, evT_eq, bd_some, bd_none, mpo_some, mpo_none, callV_eq, forG_eq, lcG_eq, getZ, getO, setT, putC, updO, isLent_un, isLent_fz, isLent_ow, isMine_un, isMine_fz, isMine_ow, isOw_un, isOw_fz, isOw_ow, lastI_succ, lastI_lent, lastI_ow, at_0, at_1, at_2, m_lt0, m_le1, m_le2, m_le3, m_le4, m_le5, m_le6, m_le7, m_le8, cmp_eq_int, cmp_ne_int, cmp_eq_bl, cmp_ne_bl, cmp_lt_int, cmp_le_int, cmp_gt_int, cmp_ge_int, cmp_isN, cmp_notN, cmp_inn, op_add, op_sub, op_mul, op_fdiv, op_mod, op_pow, cellI_zero, cellI_succ, cellI_lent, noOw, wipeC, backC, truth, bool?, int?, items?, vals?, ixF_tup, ixF_lst, bi_len, bi_int, bi_lent, bi_intb, bi_abs, bi_tupl, bi_tupt, max_int2, isTy, isNon, lentOf, avCells, putBack, outs, lentC, i1]
    | true =>
      rw [hb] at i1
      have hin : (sortD (F.map (zf r.s 6))).any (fun y => eqv y (.int (r.pl 6))) = true := by
        obtain ⟨y, hy, he⟩ := List.any_eq_true.mp hb
        obtain ⟨a, rfl, _⟩ := (hfit y hy).good
        have := eqv_rl he ⟨_, _, _, rfl⟩
        rw [this] at hy
        apply any_self
        refine List.mem_map.mpr ⟨r.pl 6, (sort_mem _ _).mpr (List.mem_map.mpr ⟨_, hy, rfl⟩), rfl⟩
      rw [hin] at i2
      simp [nthS, frb, d_law_fit_right, evE_var, evE_cst, evE_lit, evE_bin, evE_neg, evE_not, evE_and, evE_or, evE_ife, evE_cmp, evE_chn, evE_tup, evE_ix, evE_sl, evE_call, evE_bi, evE_isi, evE_fr, evE_oix, evE_olen, evE_otup, evE_calO, evE_mind, evAs_nil, evAs_e, evAs_st, evAs_ln, evP_no, evP_so, evF_no, evF_so, evO_dis, evO_lc, evO_lis, evO_cat, evO_rep, evO_sl, evO_osl, evO_call, evO_mv, evO_orr, evO_sst, evO_srt, evI_it, evI_r1, evI_r2, evI_en, evI_zp, exS_asg, exS_par2, exS_par3, exS_own, exS_app, exS_set, exS_exp, exS_ret, exS_retO, exS_ife, exS_whl, exS_for_, exS_never, exS_frz, exSs_nil, exSs_cons, runDef, evT_eq, bd_some, bd_none, mpo_some, mpo_none, callV_eq, forG_eq, lcG_eq, getZ, getO, setT, putC, updO, isLent_un, isLent_fz, isLent_ow, isMine_un, isMine_fz, isMine_ow, isOw_un, isOw_fz, isOw_ow, lastI_succ, lastI_lent, lastI_ow, at_0, at_1, at_2, m_lt0, m_le1, m_le2, m_le3, m_le4, m_le5, m_le6, m_le7, m_le8, cmp_eq_int, cmp_ne_int, cmp_eq_bl, cmp_ne_bl, cmp_lt_int, cmp_le_int, cmp_gt_int, cmp_ge_int, cmp_isN, cmp_notN, cmp_inn, op_add, op_sub, op_mul, op_fdiv, op_mod, op_pow, cellI_zero, cellI_succ, cellI_lent, noOw, wipeC, backC, truth, bool?, int?, items?, vals?, ixF_tup, ixF_lst, bi_len, bi_int, bi_lent, bi_intb, bi_abs, bi_tupl, bi_tupt, max_int2, isTy, isNon, lentOf, avCells, putBack, outs, lentC, i1, i2, e3]
  have s3 : ∃ c4' c5 c6 c7, exS (callF prog (n + 7)) (nthS 3 frb) [.fz (rl r.p r.q r.m), .fz (.tup D), .fz (.int (r.pl 6)), .fz (.tup F), c4, .un, .un, .un] = some (.nx [.fz (rl r.p r.q r.m), .fz (.tup D), .fz (.int (r.pl 6)), .fz (.tup F), c4', c5, c6, c7]) := by
    obtain ⟨l', lp, c4', c5, c6, c7, rfl, _⟩ := forS_inv (step := forG (exSs (callF prog (n + 7)) (forBd (nthS 3 frb))) (.nm 4)) (fun _ l => ∃ c4 c5 c6 c7, l = [.fz (rl r.p r.q r.m), .fz (.tup D), .fz (.int (r.pl 6)), .fz (.tup F), c4, c5, c6, c7] ∧ isLent c4 = false ∧ isLent c5 = false ∧ isLent c6 = false ∧ isLent c7 = false) (cut F none (some 3)) 0 [.fz (rl r.p r.q r.m), .fz (.tup D), .fz (.int (r.pl 6)), .fz (.tup F), c4, .un, .un, .un] (by
      rintro i x l hx ⟨c4, c5, c6, c7, rfl, k4, k5, k6, k7⟩
      have hm := cut_mem (List.mem_of_getElem? hx)
      obtain ⟨a, rfl, hs, ga, _, _, _, _, _, hev⟩ := (hfit x hm).good
      obtain ⟨o, o1, o2, o3⟩ := growths_to_part d.good ga hs
      have f2 := o3 (n + 1)
      cases o with
      | none =>
        refine ⟨_, ?_, .fz (rl a.p a.q a.m), .fz .non, c6, c7, rfl, rfl, rfl, k6, k7⟩
        simp [nthS, forBd, frb, d_law_fit_right, evE_var, evE_cst, evE_lit, evE_bin, evE_neg, evE_not, evE_and, evE_or, evE_ife, evE_cmp, evE_chn, evE_tup, evE_ix, evE_sl, evE_call, evE_bi, evE_isi, evE_fr, evE_oix, evE_olen, evE_otup, evE_calO, evE_mind, evAs_nil, evAs_e, evAs_st, evAs_ln, evP_no, evP_so, evF_no, evF_so, evO_dis, evO_lc, evO_lis, evO_cat, evO_rep, evO_sl, evO_osl, evO_call, evO_mv, evO_orr, evO_sst, evO_srt, evI_it, evI_r1, evI_r2, evI_en, evI_zp, exS_asg, exS_par2, exS_par3, exS_own, exS_app, exS_set, exS_exp, exS_ret, exS_retO, exS_ife, exS_whl, exS_for_, exS_never, exS_frz, exSs_nil, exSs_cons, runDef, evT_eq, bd_some, bd_none, mpo_some, mpo_none, callV_eq, forG_eq, lcG_eq, getZ, getO, setT, putC, updO, isLent_un, isLent_fz, isLent_ow, isMine_un, isMine_fz, isMine_ow, isOw_un, isOw_fz, isOw_ow, lastI_succ, lastI_lent, lastI_ow, at_0, at_1, at_2, m_lt0, m_le1, m_le2, m_le3, m_le4, m_le5, m_le6, m_le7, m_le8, cmp_eq_int, cmp_ne_int, cmp_eq_bl, cmp_ne_bl, cmp_lt_int, cmp_le_int, cmp_gt_int, cmp_ge_int, cmp_isN, cmp_notN, cmp_inn, op_add, op_sub, op_mul, op_fdiv, op_mod, op_pow, cellI_zero, cellI_succ, cellI_lent, noOw, wipeC, backC, truth, bool?, int?, items?, vals?, ixF_tup, ixF_lst, bi_len, bi_int, bi_lent, bi_intb, bi_abs, bi_tupl, bi_tupt, max_int2, isTy, isNon, lentOf, avCells, putBack, outs, lentC, k4, k5, f2, hat, ptD]
      | some k =>
        obtain ⟨g1, g2, g3⟩ := o1 k rfl
        have g4 := o2 k rfl
        have hk5 : 5 ≤ k := by
          apply Nat.not_lt.mp
          intro hlt
          have := eqv_rdT (a := a) (b := r) (k := 5) (by rw [hDr]; exact hev) hlt
          exact g4 (sg_eq this.symm)
        have f3 := backs_read (n := n + 2) d.good (k := k + 1) (by omega)
        have f4 := backs_read (n := n + 2) ga (k := k + 1) (by omega)
        have ek : ((k + 1 : Nat) : Int) = (k : Int) + 1 := by omega
        rw [ek] at f3 f4
        rw [hs] at f4
        have l1 := rw_last k (sg r)
        have l2 := rw_last k (sg a)
        have hne : cmpF .eq (sg r k) (sg a k) = some false := by
          exact ne_sg g2
        have b1 := cut_init k (sg r)
        have b2 := cut_init k (sg a)
        have b3 : rw k (sg a) = rw k (sg r) := rw_congr fun i hi => (g3 i hi).symm
        rw [b3] at b2
        have b4 := cmp_ne_same (d := .tup (rw k (sg r))) (sh_rw fun i _ => by simp [sg, sh])
        have b5 : ¬ (k : Int) + 1 < 6 := by omega
        refine ⟨_, ?_, .fz (rl a.p a.q a.m), .fz (.int ((k : Int) + 1)), .fz (.tup (rw (k + 1) (sg r))), .fz (.tup (rw (k + 1) (sg a))), rfl, rfl, rfl, rfl, rfl⟩
        simp [nthS, forBd, frb, d_law_fit_right, evE_var, evE_cst, evE_lit, evE_bin, evE_neg, evE_not, evE_and, evE_or, evE_ife, evE_cmp, evE_chn, evE_tup, evE_ix, evE_sl, evE_call, evE_bi, evE_isi, evE_fr, evE_oix, evE_olen, evE_otup, evE_calO, evE_mind, evAs_nil, evAs_e, evAs_st, evAs_ln, evP_no, evP_so, evF_no, evF_so, evO_dis, evO_lc, evO_lis, evO_cat, evO_rep, evO_sl, evO_osl, evO_call, evO_mv, evO_orr, evO_sst, evO_srt, evI_it, evI_r1, evI_r2, evI_en, evI_zp, exS_asg, exS_par2, exS_par3, exS_own, exS_app, exS_set, exS_exp, exS_ret, exS_retO, exS_ife, exS_whl, exS_for_, exS_never, exS_frz, exSs_nil, exSs_cons, runDef, evT_eq, bd_some, bd_none, mpo_some, mpo_none, callV_eq, forG_eq, lcG_eq, getZ, getO, setT, putC, updO, isLent_un, isLent_fz, isLent_ow, isMine_un, isMine_fz, isMine_ow, isOw_un, isOw_fz, isOw_ow, lastI_succ, lastI_lent, lastI_ow, at_0, at_1, at_2, m_lt0, m_le1, m_le2, m_le3, m_le4, m_le5, m_le6, m_le7, m_le8, cmp_eq_int, cmp_ne_int, cmp_eq_bl, cmp_ne_bl, cmp_lt_int, cmp_le_int, cmp_gt_int, cmp_ge_int, cmp_isN, cmp_notN, cmp_inn, op_add, op_sub, op_mul, op_fdiv, op_mod, op_pow, cellI_zero, cellI_succ, cellI_lent, noOw, wipeC, backC, truth, bool?, int?, items?, vals?, ixF_tup, ixF_lst, bi_len, bi_int, bi_lent, bi_intb, bi_abs, bi_tupl, bi_tupt, max_int2, isTy, isNon, lentOf, avCells, putBack, outs, lentC, k4, k5, k6, k7, f2, f3, f4, hat, ptD, l1, l2, hne, slF, b1, b2, b4, b5]) ⟨c4, .un, .un, .un, rfl, hc4, rfl, rfl, rfl⟩
    refine ⟨c4', c5, c6, c7, exS_isFor _ (ds := cut F none (some 3)) rfl ?_ lp⟩
    simp [nthS, forIt, frb, d_law_fit_right, evE_var, evE_cst, evE_lit, evE_bin, evE_neg, evE_not, evE_and, evE_or, evE_ife, evE_cmp, evE_chn, evE_tup, evE_ix, evE_sl, evE_call, evE_bi, evE_isi, evE_fr, evE_oix, evE_olen, evE_otup, evE_calO, evE_mind, evAs_nil, evAs_e, evAs_st, evAs_ln, evP_no, evP_so, evF_no, evF_so, evO_dis, evO_lc, evO_lis, evO_cat, evO_rep, evO_sl, evO_osl, evO_call, evO_mv, evO_orr, evO_sst, evO_srt, evI_it, evI_r1, evI_r2, evI_en, evI_zp, exS_asg, exS_par2, exS_par3, exS_own, exS_app, exS_set, exS_exp, exS_ret, exS_retO, exS_ife, exS_whl, exS_for_, exS_never, exS_frz, exSs_nil, exSs_cons, runDef, evT_eq, bd_some, bd_none, mpo_some, mpo_none, callV_eq, forG_eq, lcG_eq, getZ, getO, setT, putC, updO, isLent_un, isLent_fz, isLent_ow, isMine_un, isMine_fz, isMine_ow, isOw_un, isOw_fz, isOw_ow, lastI_succ, lastI_lent, lastI_ow, at_0, at_1, at_2, m_lt0, m_le1, m_le2, m_le3, m_le4, m_le5, m_le6, m_le7, m_le8, cmp_eq_int, cmp_ne_int, cmp_eq_bl, cmp_ne_bl, cmp_lt_int, cmp_le_int, cmp_gt_int, cmp_ge_int, cmp_isN, cmp_notN, cmp_inn, op_add, op_sub, op_mul, op_fdiv, op_mod, op_pow, cellI_zero, cellI_succ, cellI_lent, noOw, wipeC, backC, truth, bool?, int?, items?, vals?, ixF, biF, isTy, isNon, lentOf, avCells, putBack, outs, lentC, slF]
  obtain ⟨c4', c5, c6, c7, s3⟩ := s3
  rw [call_body (d := d_law_fit_right) rfl rfl]
  show (exSs (callF prog (n + 7)) (dropS 0 frb) [.fz (rl r.p r.q r.m), .fz (.tup D), .fz (.int (r.pl 6)), .un, .un, .un, .un, .un]).mpo _ = _
  rw [exSs_nth 0 rfl s0, exSs_nth 1 rfl s1, exSs_nth 2 rfl s2, exSs_nth 3 rfl s3]
  simp [dropS, frb, d_law_fit_right, retOf, evE_var, evE_cst, evE_lit, evE_bin, evE_neg, evE_not, evE_and, evE_or, evE_ife, evE_cmp, evE_chn, evE_tup, evE_ix, evE_sl, evE_call, evE_bi, evE_isi, evE_fr, evE_oix, evE_olen, evE_otup, evE_calO, evE_mind, evAs_nil, evAs_e, evAs_st, evAs_ln, evP_no, evP_so, evF_no, evF_so, evO_dis, evO_lc, evO_lis, evO_cat, evO_rep, evO_sl, evO_osl, evO_call, evO_mv, evO_orr, evO_sst, evO_srt, evI_it, evI_r1, evI_r2, evI_en, evI_zp, exS_asg, exS_par2, exS_par3, exS_own, exS_app, exS_set, exS_exp, exS_ret, exS_retO, exS_ife, exS_whl, exS_for_, exS_never, exS_frz, exSs_nil, exSs_cons, runDef, evT_eq, bd_some, bd_none, mpo_some, mpo_none, callV_eq, forG_eq, lcG_eq, getZ, getO, setT, putC, updO, isLent_un, isLent_fz, isLent_ow, isMine_un, isMine_fz, isMine_ow, isOw_un, isOw_fz, isOw_ow, lastI_succ, lastI_lent, lastI_ow, at_0, at_1, at_2, m_lt0, m_le1, m_le2, m_le3, m_le4, m_le5, m_le6, m_le7, m_le8, cmp_eq_int, cmp_ne_int, cmp_eq_bl, cmp_ne_bl, cmp_lt_int, cmp_le_int, cmp_gt_int, cmp_ge_int, cmp_isN, cmp_notN, cmp_inn, op_add, op_sub, op_mul, op_fdiv, op_mod, op_pow, cellI_zero, cellI_succ, cellI_lent, noOw, wipeC, backC, truth, bool?, int?, items?, vals?, ixF, biF, isTy, isNon, lentOf, avCells, putBack, outs, lentC]
/-! ### steady laps -/
theorem rep_flat (b : Da) : ∀ k : Nat, (List.replicate k [b]).flatten = List.replicate k b
  | 0 => rfl
  | k + 1 => by rw [List.replicate_succ, List.flatten_cons, rep_flat b k]; rfl
theorem rep_bl (k : Nat) : List.replicate k (Da.bl false) = (List.replicate k false).map Da.bl := by simp
theorem steady_right {n : Nat} {r : R} (d : r.Dom) (hp : r.p ≤ 20) {o : Option Nat} (h1 : ∀ k, o = some k → r.FB k ∧ k < 1000) (h2 : o = none → r.p * r.q + r.q * r.q < r.p * r.p) : callF prog (n + 4) 19 [.fz (rl r.p r.q r.m), .fz (stD o)] = some (.fz (.bl true), [.fz (rl r.p r.q r.m), .fz (stD o)]) := by
  have e1 := steady_lap (n := n + 1) (m := r.m) d.q1 d.qp hp
  have x2 : ixF (rl r.p r.q r.m) (.int 2) = some (.int r.m) := at_2 _ _ _ _
  have hm0 := d.m0
  rw [call_body (d := d_law_steady_right) rfl rfl]
  by_cases hb : r.p * r.p ≤ r.p * r.q + r.q * r.q
  · obtain ⟨e, he, e2, e60, hw, hj⟩ := stl_some d.q1 d.qp hp hb
    obtain ⟨k, rfl⟩ : ∃ k, o = some k := by
      cases o with
      | none => have := h2 rfl; omega
      | some k => exact ⟨k, rfl⟩
    obtain ⟨fb, _⟩ := h1 k rfl
    rw [he] at e1
    by_cases hm : r.m = 0
    · have hke := d.not_later hm fb hw
      have hke' : (k : Int) ≤ (e : Int) := by omega
      have eb := is_barred (n := n) (m := r.m) d.q1 d.qp hp (List.replicate (e + 1) false)
      have eb2 : barred (some e) r.m 0 (List.replicate (e + 1) false) = true := by rw [hm]; exact barred_long e (e + 1) 0 (by omega) (by omega)
      have hm' : (r.m = 0) = True := eq_true hm
      rw [he, eb2, ← rep_bl] at eb
      have em : opF .mul (.tup [.bl false]) (.int ((e : Int) + 1)) = some (.tup (List.replicate (e + 1) (.bl false))) := by
        have : ((e : Int) + 1).toNat = e + 1 := by omega
        show (if _ then _ else _) = _
        rw [if_pos ⟨by decide, by decide, by omega, by omega⟩, this, rep_flat]
      simp [d_law_steady_right, retOf, evE_var, evE_cst, evE_lit, evE_bin, evE_neg, evE_not, evE_and, evE_or, evE_ife, evE_cmp, evE_chn, evE_tup, evE_ix, evE_sl, evE_call, evE_bi, evE_isi, evE_fr, evE_oix, evE_olen, evE_otup, evE_calO, evE_mind, evAs_nil, evAs_e, evAs_st, evAs_ln, evP_no, evP_so, evF_no, evF_so, evO_dis, evO_lc, evO_lis, evO_cat, evO_rep, evO_sl, evO_osl, evO_call, evO_mv, evO_orr, evO_sst, evO_srt, evI_it, evI_r1, evI_r2, evI_en, evI_zp, exS_asg, exS_par2, exS_par3, exS_own, exS_app, exS_set, exS_exp, exS_ret, exS_retO, exS_ife, exS_whl, exS_for_, exS_never, exS_frz, exSs_nil, exSs_cons, runDef, evT_eq, bd_some, bd_none, mpo_some, mpo_none, callV_eq, forG_eq, lcG_eq, getZ, getO, setT, putC, updO, isLent_un, isLent_fz, isLent_ow, isMine_un, isMine_fz, isMine_ow, isOw_un, isOw_fz, isOw_ow, lastI_succ, lastI_lent, lastI_ow, at_0, at_1, at_2, m_lt0, m_le1, m_le2, m_le3, m_le4, m_le5, m_le6, m_le7, m_le8, cmp_eq_int, cmp_ne_int, cmp_eq_bl, cmp_ne_bl, cmp_lt_int, cmp_le_int, cmp_gt_int, cmp_ge_int, cmp_isN, cmp_notN, cmp_inn, op_add, op_sub, op_mul, op_fdiv, op_mod, op_pow, cellI_zero, cellI_succ, cellI_lent, noOw, wipeC, backC, truth, bool?, int?, items?, vals?, ixF_tup, ixF_lst, bi_len, bi_int, bi_lent, bi_intb, bi_abs, bi_tupl, bi_tupt, max_int2, isTy, isNon, lentOf, avCells, putBack, outs, lentC, e1, x2, hm', stD, em, eb, hke']
    · have hke := d.not_sooner (by omega) fb hj e2
      have hke' : (e : Int) ≤ (k : Int) := by omega
      have eb := is_barred (n := n) (m := r.m) d.q1 d.qp hp (List.replicate (e - 1) false ++ [true])
      rw [he, barred_short (by omega) e (e - 1) 0 (by omega), List.map_append, ← rep_bl] at eb
      have em : opF .mul (.tup [.bl false]) (.int ((e : Int) - 1)) = some (.tup (List.replicate (e - 1) (.bl false))) := by
        have : ((e : Int) - 1).toNat = e - 1 := by omega
        show (if _ then _ else _) = _
        rw [if_pos ⟨by decide, by decide, by omega, by omega⟩, this, rep_flat]
      have ea : opF .add (.tup (List.replicate (e - 1) (Da.bl false))) (.tup [.bl true]) = some (.tup (List.replicate (e - 1) (.bl false) ++ [.bl true])) := by
        show (if _ then _ else _) = _
        rw [if_pos (by rw [List.length_replicate]; unfold most; simp; omega)]
      simp only [List.map_cons, List.map_nil] at eb
      simp [d_law_steady_right, retOf, evE_var, evE_cst, evE_lit, evE_bin, evE_neg, evE_not, evE_and, evE_or, evE_ife, evE_cmp, evE_chn, evE_tup, evE_ix, evE_sl, evE_call, evE_bi, evE_isi, evE_fr, evE_oix, evE_olen, evE_otup, evE_calO, evE_mind, evAs_nil, evAs_e, evAs_st, evAs_ln, evP_no, evP_so, evF_no, evF_so, evO_dis, evO_lc, evO_lis, evO_cat, evO_rep, evO_sl, evO_osl, evO_call, evO_mv, evO_orr, evO_sst, evO_srt, evI_it, evI_r1, evI_r2, evI_en, evI_zp, exS_asg, exS_par2, exS_par3, exS_own, exS_app, exS_set, exS_exp, exS_ret, exS_retO, exS_ife, exS_whl, exS_for_, exS_never, exS_frz, exSs_nil, exSs_cons, runDef, evT_eq, bd_some, bd_none, mpo_some, mpo_none, callV_eq, forG_eq, lcG_eq, getZ, getO, setT, putC, updO, isLent_un, isLent_fz, isLent_ow, isMine_un, isMine_fz, isMine_ow, isOw_un, isOw_fz, isOw_ow, lastI_succ, lastI_lent, lastI_ow, at_0, at_1, at_2, m_lt0, m_le1, m_le2, m_le3, m_le4, m_le5, m_le6, m_le7, m_le8, cmp_eq_int, cmp_ne_int, cmp_eq_bl, cmp_ne_bl, cmp_lt_int, cmp_le_int, cmp_gt_int, cmp_ge_int, cmp_isN, cmp_notN, cmp_inn, op_add, op_sub, op_mul, op_fdiv, op_mod, op_pow, cellI_zero, cellI_succ, cellI_lent, noOw, wipeC, backC, truth, bool?, int?, items?, vals?, ixF_tup, ixF_lst, bi_len, bi_int, bi_lent, bi_intb, bi_abs, bi_tupl, bi_tupt, max_int2, isTy, isNon, lentOf, avCells, putBack, outs, lentC, e1, x2, hm, stD, em, ea, eb, hke']
  · rw [stl_none (by omega)] at e1
    by_cases hm : r.m = 0
    · have hm' : (r.m = 0) = True := eq_true hm
      simp [d_law_steady_right, retOf, evE_var, evE_cst, evE_lit, evE_bin, evE_neg, evE_not, evE_and, evE_or, evE_ife, evE_cmp, evE_chn, evE_tup, evE_ix, evE_sl, evE_call, evE_bi, evE_isi, evE_fr, evE_oix, evE_olen, evE_otup, evE_calO, evE_mind, evAs_nil, evAs_e, evAs_st, evAs_ln, evP_no, evP_so, evF_no, evF_so, evO_dis, evO_lc, evO_lis, evO_cat, evO_rep, evO_sl, evO_osl, evO_call, evO_mv, evO_orr, evO_sst, evO_srt, evI_it, evI_r1, evI_r2, evI_en, evI_zp, exS_asg, exS_par2, exS_par3, exS_own, exS_app, exS_set, exS_exp, exS_ret, exS_retO, exS_ife, exS_whl, exS_for_, exS_never, exS_frz, exSs_nil, exSs_cons, runDef, evT_eq, bd_some, bd_none, mpo_some, mpo_none, callV_eq, forG_eq, lcG_eq, getZ, getO, setT, putC, updO, isLent_un, isLent_fz, isLent_ow, isMine_un, isMine_fz, isMine_ow, isOw_un, isOw_fz, isOw_ow, lastI_succ, lastI_lent, lastI_ow, at_0, at_1, at_2, m_lt0, m_le1, m_le2, m_le3, m_le4, m_le5, m_le6, m_le7, m_le8, cmp_eq_int, cmp_ne_int, cmp_eq_bl, cmp_ne_bl, cmp_lt_int, cmp_le_int, cmp_gt_int, cmp_ge_int, cmp_isN, cmp_notN, cmp_inn, op_add, op_sub, op_mul, op_fdiv, op_mod, op_pow, cellI_zero, cellI_succ, cellI_lent, noOw, wipeC, backC, truth, bool?, int?, items?, vals?, ixF_tup, ixF_lst, bi_len, bi_int, bi_lent, bi_intb, bi_abs, bi_tupl, bi_tupt, max_int2, isTy, isNon, lentOf, avCells, putBack, outs, lentC, e1, x2, hm', stD]
    · have ho : o = none := by
        cases o with
        | none => rfl
        | some k =>
          obtain ⟨fb, _⟩ := h1 k rfl
          have := d.never (by omega) (by omega) k
          have := fb.le
          omega
      subst ho
      simp [d_law_steady_right, retOf, evE_var, evE_cst, evE_lit, evE_bin, evE_neg, evE_not, evE_and, evE_or, evE_ife, evE_cmp, evE_chn, evE_tup, evE_ix, evE_sl, evE_call, evE_bi, evE_isi, evE_fr, evE_oix, evE_olen, evE_otup, evE_calO, evE_mind, evAs_nil, evAs_e, evAs_st, evAs_ln, evP_no, evP_so, evF_no, evF_so, evO_dis, evO_lc, evO_lis, evO_cat, evO_rep, evO_sl, evO_osl, evO_call, evO_mv, evO_orr, evO_sst, evO_srt, evI_it, evI_r1, evI_r2, evI_en, evI_zp, exS_asg, exS_par2, exS_par3, exS_own, exS_app, exS_set, exS_exp, exS_ret, exS_retO, exS_ife, exS_whl, exS_for_, exS_never, exS_frz, exSs_nil, exSs_cons, runDef, evT_eq, bd_some, bd_none, mpo_some, mpo_none, callV_eq, forG_eq, lcG_eq, getZ, getO, setT, putC, updO, isLent_un, isLent_fz, isLent_ow, isMine_un, isMine_fz, isMine_ow, isOw_un, isOw_fz, isOw_ow, lastI_succ, lastI_lent, lastI_ow, at_0, at_1, at_2, m_lt0, m_le1, m_le2, m_le3, m_le4, m_le5, m_le6, m_le7, m_le8, cmp_eq_int, cmp_ne_int, cmp_eq_bl, cmp_ne_bl, cmp_lt_int, cmp_le_int, cmp_gt_int, cmp_ge_int, cmp_isN, cmp_notN, cmp_inn, op_add, op_sub, op_mul, op_fdiv, op_mod, op_pow, cellI_zero, cellI_succ, cellI_lent, noOw, wipeC, backC, truth, bool?, int?, items?, vals?, ixF_tup, ixF_lst, bi_len, bi_int, bi_lent, bi_intb, bi_abs, bi_tupl, bi_tupt, max_int2, isTy, isNon, lentOf, avCells, putBack, outs, lentC, e1, x2, hm, stD]
end K97

set_option linter.all false
set_option maxRecDepth 100000
/-! K97F: the plain law. -/
namespace K97
open Mini
theorem rwF_succ (n : Nat) (c : Nat → Bool) (g : Nat → Da) (h : c 0 = false) : rwF (n + 1) c g = rwF n (fun i => c (i + 1)) (fun i => g (i + 1)) := by
  unfold rwF
  rw [List.range_succ_eq_map, List.filter_cons, h]
  simp only [Bool.false_eq_true, if_false]
  rw [List.filter_map, List.map_map]
  rfl
theorem sh_rwF {n : Nat} {c : Nat → Bool} {g : Nat → Da} (h : ∀ i, i < n → sh 7 (g i) = true) : sh 8 (.lst (rwF n c g)) = true := by
  rw [sh]
  exact shL_all fun d hd => by
    obtain ⟨i, hi, _, rfl⟩ := rwF_mem hd
    exact h i hi
theorem rw_rep (k : Nat) (d : Da) : rw k (fun _ => d) = List.replicate k d := by
  refine List.eq_replicate_iff.mpr ⟨rw_len _ _, fun x hx => ?_⟩
  obtain ⟨i, _, rfl⟩ := rw_mem hx
  rfl
theorem signs_lap {r : R} (d : r.Dom) {k : Nat} (f : r.FB k) : rw (k + 1) (sg r) = List.replicate k (Da.bl false) ++ [.bl true] := by
  have h1 : rw k (sg r) = rw k (fun _ => .bl false) := rw_congr fun i hi => by
    have := d.pl_ne f.lt (i := i + 1) (by omega) (by omega)
    unfold sg
    rw [decide_eq_false this]
  have h2 : sg r k = .bl true := by
    unfold sg
    rw [decide_eq_true f.back]
  rw [← rw_snoc, h1, h2, rw_rep]
def cb : Ss := d_law_case_right.body
def cc (r : R) (M : Nat) (c3 c4 c5 c6 c7 c8 c9 c10 : Cell) : L := [.fz (rl r.p r.q r.m), .fz (.int r.s), .fz (.int M), c3, c4, c5, c6, c7, c8, c9, c10, .un, .un]
theorem case_right {n M : Nat} {r : R} (d : r.Dom) (hp : r.p ≤ 20) (hm : r.m ≤ 10) (hs : r.s < 2 ^ 100) (hM : M < 900) : callF prog (n + 9) 27 [.fz (rl r.p r.q r.m), .fz (.int r.s), .fz (.int M)] = some (.fz (.bl true), [.fz (rl r.p r.q r.m), .fz (.int r.s), .fz (.int M)]) := by
  obtain ⟨line, hline⟩ : ∃ l, l = rw 12 fun i => Da.int (r.pl (i + 1)) := ⟨_, rfl⟩
  obtain ⟨much, hmuch⟩ : ∃ l, l = rw 13 fun i => Da.int (r.sz i) := ⟨_, rfl⟩
  obtain ⟨told, htold⟩ : ∃ l, l = rw 12 (tb r) := ⟨_, rfl⟩
  obtain ⟨sgs, hsgs⟩ : ∃ l, l = rw 12 (sg r) := ⟨_, rfl⟩
  obtain ⟨bk, hbk⟩ : ∃ l, l = rwF 12 (fun i => decide (r.pl (i + 1) = 0)) (fun i => Da.int ((i : Nat) + 1)) := ⟨_, rfl⟩
  have h1 : r.pl (0 + 1) = r.s := by
    have := d.sz0 1
    show (if r.sz 1 ≤ 0 then 0 else 0 + r.s) = r.s
    rw [if_neg (by omega)]
    omega
  have e1 := places (n := n + 3) (k := 12) d.good (by decide)
  have e2 := sizes (n := n + 4) (k := 12) d.good (by decide)
  have ec := cut_tail 12 fun i => Da.int (r.pl i)
  have e3 := sizes_read (n := n + 7) (k := 12) (r := r) (by decide)
  have e4 := is_read_by (n := n + 3) (k := 11) (p := r.p) (q := r.q) (m := r.m) (s := r.s) (g := fun i => r.pl (i + 1)) d.ok h1 (by decide)
  have e4' : rdB r.p r.q r.m r.s (11 + 1) (.tup (rw (11 + 1) fun i => .int (r.pl (i + 1)))) = true := by
    unfold rdB isS rdT
    rw [decide_eq_true d.s0, decide_eq_true d.up, eqv_refl]
    rfl
  rw [e4'] at e4
  have e5 := backs (n := n + 2) (k := 12) d.good (by decide)
  have hb0 : rwF (12 + 1) (bkC r) (fun i => .int (i : Nat)) = bk := by
    rw [rwF_succ _ _ _ (by simp [bkC]), hbk]
    refine rwF_congr (fun i _ => ?_) (fun i _ _ => ?_)
    · simp [bkC]
    · show Da.int ((i + 1 : Nat) : Int) = _
      congr 1
  rw [hb0] at e5
  have e6 := backs_read (n := n + 3) (k := 12) d.good (by decide)
  simp only [Int.cast_ofNat_Int] at e1 e2 e5 e6
  rw [← hmuch] at e2
  rw [← hline] at ec
  rw [← htold] at e3
  have erd : rdT r 12 = .tup line := by rw [hline]; rfl
  rw [erd] at e3
  have e4 : callF prog (n + 8) 20 [.fz (rl r.p r.q r.m), .fz (.tup line)] = some (.fz (.bl true), [.fz (rl r.p r.q r.m), .fz (.tup line)]) := by rw [hline]; exact e4
  rw [← hsgs] at e6
  have a1 : ∀ i : Nat, i < 12 → at? told (i : Int) = some (tb r i) := fun i hi => by rw [htold]; exact rw_at _ hi
  have a2 : ∀ i : Nat, i < 12 → at? much (i : Int) = some (.int (r.sz i)) := fun i hi => by rw [hmuch]; exact rw_at (fun i => Da.int (r.sz i)) (by omega)
  have a3 : ∀ i : Nat, i < 12 → at? sgs (i : Int) = some (sg r i) := fun i hi => by rw [hsgs]; exact rw_at _ hi
  have hr12 : rngOk 12 = true := by decide
  have ht12 : (12 : Int).toNat = 12 := rfl
  have hrl : (rangeL 0 12).length ≤ most := by rw [rangeL_len]; decide
  have hbs : sh 8 (.lst bk) = true := by rw [hbk]; exact sh_rwF fun i _ => by simp [sh]
  have hempty : cmpF .ne (.lst []) (.lst []) = some false := cmp_ne_same (by simp [sh, shL])
  have hbb : cmpF .ne (.lst bk) (.lst bk) = some false := cmp_ne_same hbs
  -- 0, 1
  have s0 : exS (callF prog (n + 8)) (nthS 0 cb) (cc r M .un .un .un .un .un .un .un .un) = some (.nx (cc r M (.fz (.tup line)) (.fz (.tup much)) .un .un .un .un .un .un)) := by
    simp [nthS, cb, d_law_case_right, cc, evE_var, evE_cst, evE_lit, evE_bin, evE_neg, evE_not, evE_and, evE_or, evE_ife, evE_cmp, evE_chn, evE_tup, evE_ix, evE_sl, evE_call, evE_bi, evE_isi, evE_fr, evE_oix, evE_olen, evE_otup, evE_calO, evE_mind, evAs_nil, evAs_e, evAs_st, evAs_ln, evP_no, evP_so, evF_no, evF_so, evO_dis, evO_lc, evO_lis, evO_cat, evO_rep, evO_sl, evO_osl, evO_call, evO_mv, evO_orr, evO_sst, evO_srt, evI_it, evI_r1, evI_r2, evI_en, evI_zp, exS_asg, exS_par2, exS_par3, exS_own, exS_app, exS_set, exS_exp, exS_ret, exS_retO, exS_ife, exS_whl, exS_for_, exS_never, exS_frz, exSs_nil, exSs_cons, runDef, evT_eq, bd_some, bd_none, mpo_some, mpo_none, callV_eq, forG_eq, lcG_eq, getZ, getO, setT, putC, updO, isLent_un, isLent_fz, isLent_ow, isMine_un, isMine_fz, isMine_ow, isOw_un, isOw_fz, isOw_ow, lastI_succ, lastI_lent, lastI_ow, at_0, at_1, at_2, m_lt0, m_le1, m_le2, m_le3, m_le4, m_le5, m_le6, m_le7, m_le8, cmp_eq_int, cmp_ne_int, cmp_eq_bl, cmp_ne_bl, cmp_lt_int, cmp_le_int, cmp_gt_int, cmp_ge_int, cmp_isN, cmp_notN, cmp_inn, op_add, op_sub, op_mul, op_fdiv, op_mod, op_pow, cellI_zero, cellI_succ, cellI_lent, noOw, wipeC, backC, truth, bool?, int?, items?, vals?, ixF_tup, ixF_lst, bi_len, bi_int, bi_lent, bi_intb, bi_abs, bi_tupl, bi_tupt, max_int2, isTy, isNon, lentOf, avCells, putBack, outs, lentC, slF, e1, e2, ec]
  have s1 : exS (callF prog (n + 8)) (nthS 1 cb) (cc r M (.fz (.tup line)) (.fz (.tup much)) .un .un .un .un .un .un) = some (.nx (cc r M (.fz (.tup line)) (.fz (.tup much)) (.fz (.tup told)) .un .un .un .un .un)) := by
    simp [nthS, cb, d_law_case_right, cc, evE_var, evE_cst, evE_lit, evE_bin, evE_neg, evE_not, evE_and, evE_or, evE_ife, evE_cmp, evE_chn, evE_tup, evE_ix, evE_sl, evE_call, evE_bi, evE_isi, evE_fr, evE_oix, evE_olen, evE_otup, evE_calO, evE_mind, evAs_nil, evAs_e, evAs_st, evAs_ln, evP_no, evP_so, evF_no, evF_so, evO_dis, evO_lc, evO_lis, evO_cat, evO_rep, evO_sl, evO_osl, evO_call, evO_mv, evO_orr, evO_sst, evO_srt, evI_it, evI_r1, evI_r2, evI_en, evI_zp, exS_asg, exS_par2, exS_par3, exS_own, exS_app, exS_set, exS_exp, exS_ret, exS_retO, exS_ife, exS_whl, exS_for_, exS_never, exS_frz, exSs_nil, exSs_cons, runDef, evT_eq, bd_some, bd_none, mpo_some, mpo_none, callV_eq, forG_eq, lcG_eq, getZ, getO, setT, putC, updO, isLent_un, isLent_fz, isLent_ow, isMine_un, isMine_fz, isMine_ow, isOw_un, isOw_fz, isOw_ow, lastI_succ, lastI_lent, lastI_ow, at_0, at_1, at_2, m_lt0, m_le1, m_le2, m_le3, m_le4, m_le5, m_le6, m_le7, m_le8, cmp_eq_int, cmp_ne_int, cmp_eq_bl, cmp_ne_bl, cmp_lt_int, cmp_le_int, cmp_gt_int, cmp_ge_int, cmp_isN, cmp_notN, cmp_inn, op_add, op_sub, op_mul, op_fdiv, op_mod, op_pow, cellI_zero, cellI_succ, cellI_lent, noOw, wipeC, backC, truth, bool?, int?, items?, vals?, ixF_tup, ixF_lst, bi_len, bi_int, bi_lent, bi_intb, bi_abs, bi_tupl, bi_tupt, max_int2, isTy, isNon, lentOf, avCells, putBack, outs, lentC, e3]
  have s2 : exS (callF prog (n + 8)) (nthS 2 cb) (cc r M (.fz (.tup line)) (.fz (.tup much)) (.fz (.tup told)) .un .un .un .un .un) = some (.nx (cc r M (.fz (.tup line)) (.fz (.tup much)) (.fz (.tup told)) (.ow true []) .un .un .un .un)) := by
    have lp := mapL_rwF (step := lcG (evE (callF prog (n + 8)) (.var 11)) (evF (callF prog (n + 8)) (.so (.and (.cmp .notN (.ix (.var 5) (.var 11)) (.lit (.non))) (.cmp .ne (.ix (.var 5) (.var 11)) (.ix (.var 4) (.var 11)))))) (.nm 11) [11]) (l := cc r M (.fz (.tup line)) (.fz (.tup much)) (.fz (.tup told)) .un .un .un .un .un) (f := fun i => .int (0 + (i : Nat))) 12 (fun _ => false) (fun i => .int (i : Nat)) fun i hi => by
      have b1 := a1 i hi
      have b2 := a2 i hi
      by_cases h : r.pl (i + 1) = 0
      · have ht : tb r i = .non := by unfold tb; rw [if_pos h]
        rw [ht] at b1
        simp [cc, evE_var, evE_cst, evE_lit, evE_bin, evE_neg, evE_not, evE_and, evE_or, evE_ife, evE_cmp, evE_chn, evE_tup, evE_ix, evE_sl, evE_call, evE_bi, evE_isi, evE_fr, evE_oix, evE_olen, evE_otup, evE_calO, evE_mind, evAs_nil, evAs_e, evAs_st, evAs_ln, evP_no, evP_so, evF_no, evF_so, evO_dis, evO_lc, evO_lis, evO_cat, evO_rep, evO_sl, evO_osl, evO_call, evO_mv, evO_orr, evO_sst, evO_srt, evI_it, evI_r1, evI_r2, evI_en, evI_zp, exS_asg, exS_par2, exS_par3, exS_own, exS_app, exS_set, exS_exp, exS_ret, exS_retO, exS_ife, exS_whl, exS_for_, exS_never, exS_frz, exSs_nil, exSs_cons, runDef, evT_eq, bd_some, bd_none, mpo_some, mpo_none, callV_eq, forG_eq, lcG_eq, getZ, getO, setT, putC, updO, isLent_un, isLent_fz, isLent_ow, isMine_un, isMine_fz, isMine_ow, isOw_un, isOw_fz, isOw_ow, lastI_succ, lastI_lent, lastI_ow, at_0, at_1, at_2, m_lt0, m_le1, m_le2, m_le3, m_le4, m_le5, m_le6, m_le7, m_le8, cmp_eq_int, cmp_ne_int, cmp_eq_bl, cmp_ne_bl, cmp_lt_int, cmp_le_int, cmp_gt_int, cmp_ge_int, cmp_isN, cmp_notN, cmp_inn, op_add, op_sub, op_mul, op_fdiv, op_mod, op_pow, cellI_zero, cellI_succ, cellI_lent, noOw, wipeC, backC, truth, bool?, int?, items?, vals?, ixF_tup, ixF_lst, bi_len, bi_int, bi_lent, bi_intb, bi_abs, bi_tupl, bi_tupt, max_int2, isTy, isNon, lentOf, avCells, putBack, outs, lentC, b1]
      · have ht : tb r i = .int (r.sz i) := by unfold tb; rw [if_neg h]
        rw [ht] at b1
        simp [cc, evE_var, evE_cst, evE_lit, evE_bin, evE_neg, evE_not, evE_and, evE_or, evE_ife, evE_cmp, evE_chn, evE_tup, evE_ix, evE_sl, evE_call, evE_bi, evE_isi, evE_fr, evE_oix, evE_olen, evE_otup, evE_calO, evE_mind, evAs_nil, evAs_e, evAs_st, evAs_ln, evP_no, evP_so, evF_no, evF_so, evO_dis, evO_lc, evO_lis, evO_cat, evO_rep, evO_sl, evO_osl, evO_call, evO_mv, evO_orr, evO_sst, evO_srt, evI_it, evI_r1, evI_r2, evI_en, evI_zp, exS_asg, exS_par2, exS_par3, exS_own, exS_app, exS_set, exS_exp, exS_ret, exS_retO, exS_ife, exS_whl, exS_for_, exS_never, exS_frz, exSs_nil, exSs_cons, runDef, evT_eq, bd_some, bd_none, mpo_some, mpo_none, callV_eq, forG_eq, lcG_eq, getZ, getO, setT, putC, updO, isLent_un, isLent_fz, isLent_ow, isMine_un, isMine_fz, isMine_ow, isOw_un, isOw_fz, isOw_ow, lastI_succ, lastI_lent, lastI_ow, at_0, at_1, at_2, m_lt0, m_le1, m_le2, m_le3, m_le4, m_le5, m_le6, m_le7, m_le8, cmp_eq_int, cmp_ne_int, cmp_eq_bl, cmp_ne_bl, cmp_lt_int, cmp_le_int, cmp_gt_int, cmp_ge_int, cmp_isN, cmp_notN, cmp_inn, op_add, op_sub, op_mul, op_fdiv, op_mod, op_pow, cellI_zero, cellI_succ, cellI_lent, noOw, wipeC, backC, truth, bool?, int?, items?, vals?, ixF_tup, ixF_lst, bi_len, bi_int, bi_lent, bi_intb, bi_abs, bi_tupl, bi_tupt, max_int2, isTy, isNon, lentOf, avCells, putBack, outs, lentC, b1, b2]
    rw [← rangeL_rw, rwF_none (fun _ _ => rfl)] at lp
    unfold cc at lp
    simp [nthS, cb, d_law_case_right, cc, evE_var, evE_cst, evE_lit, evE_bin, evE_neg, evE_not, evE_and, evE_or, evE_ife, evE_cmp, evE_chn, evE_tup, evE_ix, evE_sl, evE_call, evE_bi, evE_isi, evE_fr, evE_oix, evE_olen, evE_otup, evE_calO, evE_mind, evAs_nil, evAs_e, evAs_st, evAs_ln, evP_no, evP_so, evF_no, evF_so, evO_dis, evO_lc, evO_lis, evO_cat, evO_rep, evO_sl, evO_osl, evO_call, evO_mv, evO_orr, evO_sst, evO_srt, evI_it, evI_r1, evI_r2, evI_en, evI_zp, exS_asg, exS_par2, exS_par3, exS_own, exS_app, exS_set, exS_exp, exS_ret, exS_retO, exS_ife, exS_whl, exS_for_, exS_never, exS_frz, exSs_nil, exSs_cons, runDef, evT_eq, bd_some, bd_none, mpo_some, mpo_none, callV_eq, forG_eq, lcG_eq, getZ, getO, setT, putC, updO, isLent_un, isLent_fz, isLent_ow, isMine_un, isMine_fz, isMine_ow, isOw_un, isOw_fz, isOw_ow, lastI_succ, lastI_lent, lastI_ow, at_0, at_1, at_2, m_lt0, m_le1, m_le2, m_le3, m_le4, m_le5, m_le6, m_le7, m_le8, cmp_eq_int, cmp_ne_int, cmp_eq_bl, cmp_ne_bl, cmp_lt_int, cmp_le_int, cmp_gt_int, cmp_ge_int, cmp_isN, cmp_notN, cmp_inn, op_add, op_sub, op_mul, op_fdiv, op_mod, op_pow, cellI_zero, cellI_succ, cellI_lent, noOw, wipeC, backC, truth, bool?, int?, items?, vals?, ixF_tup, ixF_lst, bi_len, bi_int, bi_lent, bi_intb, bi_abs, bi_tupl, bi_tupt, max_int2, isTy, isNon, lentOf, avCells, putBack, outs, lentC, hr12, ht12, hrl, lp]
  have s3 : exS (callF prog (n + 8)) (nthS 3 cb) (cc r M (.fz (.tup line)) (.fz (.tup much)) (.fz (.tup told)) (.ow true []) .un .un .un .un) = some (.nx (cc r M (.fz (.tup line)) (.fz (.tup much)) (.fz (.tup told)) (.fz (.lst [])) .un .un .un .un)) := by
    simp [nthS, cb, d_law_case_right, cc, evE_var, evE_cst, evE_lit, evE_bin, evE_neg, evE_not, evE_and, evE_or, evE_ife, evE_cmp, evE_chn, evE_tup, evE_ix, evE_sl, evE_call, evE_bi, evE_isi, evE_fr, evE_oix, evE_olen, evE_otup, evE_calO, evE_mind, evAs_nil, evAs_e, evAs_st, evAs_ln, evP_no, evP_so, evF_no, evF_so, evO_dis, evO_lc, evO_lis, evO_cat, evO_rep, evO_sl, evO_osl, evO_call, evO_mv, evO_orr, evO_sst, evO_srt, evI_it, evI_r1, evI_r2, evI_en, evI_zp, exS_asg, exS_par2, exS_par3, exS_own, exS_app, exS_set, exS_exp, exS_ret, exS_retO, exS_ife, exS_whl, exS_for_, exS_never, exS_frz, exSs_nil, exSs_cons, runDef, evT_eq, bd_some, bd_none, mpo_some, mpo_none, callV_eq, forG_eq, lcG_eq, getZ, getO, setT, putC, updO, isLent_un, isLent_fz, isLent_ow, isMine_un, isMine_fz, isMine_ow, isOw_un, isOw_fz, isOw_ow, lastI_succ, lastI_lent, lastI_ow, at_0, at_1, at_2, m_lt0, m_le1, m_le2, m_le3, m_le4, m_le5, m_le6, m_le7, m_le8, cmp_eq_int, cmp_ne_int, cmp_eq_bl, cmp_ne_bl, cmp_lt_int, cmp_le_int, cmp_gt_int, cmp_ge_int, cmp_isN, cmp_notN, cmp_inn, op_add, op_sub, op_mul, op_fdiv, op_mod, op_pow, cellI_zero, cellI_succ, cellI_lent, noOw, wipeC, backC, truth, bool?, int?, items?, vals?, ixF_tup, ixF_lst, bi_len, bi_int, bi_lent, bi_intb, bi_abs, bi_tupl, bi_tupt, max_int2, isTy, isNon, lentOf, avCells, putBack, outs, lentC]
  have s4 : exS (callF prog (n + 8)) (nthS 4 cb) (cc r M (.fz (.tup line)) (.fz (.tup much)) (.fz (.tup told)) (.fz (.lst [])) .un .un .un .un) = some (.nx (cc r M (.fz (.tup line)) (.fz (.tup much)) (.fz (.tup told)) (.fz (.lst [])) .un .un .un .un)) := by
    simp [nthS, cb, d_law_case_right, cc, evE_var, evE_cst, evE_lit, evE_bin, evE_neg, evE_not, evE_and, evE_or, evE_ife, evE_cmp, evE_chn, evE_tup, evE_ix, evE_sl, evE_call, evE_bi, evE_isi, evE_fr, evE_oix, evE_olen, evE_otup, evE_calO, evE_mind, evAs_nil, evAs_e, evAs_st, evAs_ln, evP_no, evP_so, evF_no, evF_so, evO_dis, evO_lc, evO_lis, evO_cat, evO_rep, evO_sl, evO_osl, evO_call, evO_mv, evO_orr, evO_sst, evO_srt, evI_it, evI_r1, evI_r2, evI_en, evI_zp, exS_asg, exS_par2, exS_par3, exS_own, exS_app, exS_set, exS_exp, exS_ret, exS_retO, exS_ife, exS_whl, exS_for_, exS_never, exS_frz, exSs_nil, exSs_cons, runDef, evT_eq, bd_some, bd_none, mpo_some, mpo_none, callV_eq, forG_eq, lcG_eq, getZ, getO, setT, putC, updO, isLent_un, isLent_fz, isLent_ow, isMine_un, isMine_fz, isMine_ow, isOw_un, isOw_fz, isOw_ow, lastI_succ, lastI_lent, lastI_ow, at_0, at_1, at_2, m_lt0, m_le1, m_le2, m_le3, m_le4, m_le5, m_le6, m_le7, m_le8, cmp_eq_int, cmp_ne_int, cmp_eq_bl, cmp_ne_bl, cmp_lt_int, cmp_le_int, cmp_gt_int, cmp_ge_int, cmp_isN, cmp_notN, cmp_inn, op_add, op_sub, op_mul, op_fdiv, op_mod, op_pow, cellI_zero, cellI_succ, cellI_lent, noOw, wipeC, backC, truth, bool?, int?, items?, vals?, ixF_tup, ixF_lst, bi_len, bi_int, bi_lent, bi_intb, bi_abs, bi_tupl, bi_tupt, max_int2, isTy, isNon, lentOf, avCells, putBack, outs, lentC, e4, hempty]
  have s5 : exS (callF prog (n + 8)) (nthS 5 cb) (cc r M (.fz (.tup line)) (.fz (.tup much)) (.fz (.tup told)) (.fz (.lst [])) .un .un .un .un) = some (.nx (cc r M (.fz (.tup line)) (.fz (.tup much)) (.fz (.tup told)) (.fz (.lst [])) .un .un .un .un)) := by
    have lp := mapL_rwF (step := lcG (evE (callF prog (n + 8)) (.bin .add (.var 11) (.lit (.int 1)))) (evF (callF prog (n + 8)) (.so (.cmp .isN (.ix (.var 5) (.var 11)) (.lit (.non))))) (.nm 11) [11]) (l := cc r M (.fz (.tup line)) (.fz (.tup much)) (.fz (.tup told)) (.fz (.lst [])) .un .un .un .un) (f := fun i => .int (0 + (i : Nat))) 12 (fun i => decide (r.pl (i + 1) = 0)) (fun i => .int ((i : Nat) + 1)) fun i hi => by
      have b1 := a1 i hi
      by_cases h : r.pl (i + 1) = 0
      · have ht : tb r i = .non := by unfold tb; rw [if_pos h]
        rw [ht] at b1
        simp [cc, evE_var, evE_cst, evE_lit, evE_bin, evE_neg, evE_not, evE_and, evE_or, evE_ife, evE_cmp, evE_chn, evE_tup, evE_ix, evE_sl, evE_call, evE_bi, evE_isi, evE_fr, evE_oix, evE_olen, evE_otup, evE_calO, evE_mind, evAs_nil, evAs_e, evAs_st, evAs_ln, evP_no, evP_so, evF_no, evF_so, evO_dis, evO_lc, evO_lis, evO_cat, evO_rep, evO_sl, evO_osl, evO_call, evO_mv, evO_orr, evO_sst, evO_srt, evI_it, evI_r1, evI_r2, evI_en, evI_zp, exS_asg, exS_par2, exS_par3, exS_own, exS_app, exS_set, exS_exp, exS_ret, exS_retO, exS_ife, exS_whl, exS_for_, exS_never, exS_frz, exSs_nil, exSs_cons, runDef, evT_eq, bd_some, bd_none, mpo_some, mpo_none, callV_eq, forG_eq, lcG_eq, getZ, getO, setT, putC, updO, isLent_un, isLent_fz, isLent_ow, isMine_un, isMine_fz, isMine_ow, isOw_un, isOw_fz, isOw_ow, lastI_succ, lastI_lent, lastI_ow, at_0, at_1, at_2, m_lt0, m_le1, m_le2, m_le3, m_le4, m_le5, m_le6, m_le7, m_le8, cmp_eq_int, cmp_ne_int, cmp_eq_bl, cmp_ne_bl, cmp_lt_int, cmp_le_int, cmp_gt_int, cmp_ge_int, cmp_isN, cmp_notN, cmp_inn, op_add, op_sub, op_mul, op_fdiv, op_mod, op_pow, cellI_zero, cellI_succ, cellI_lent, noOw, wipeC, backC, truth, bool?, int?, items?, vals?, ixF_tup, ixF_lst, bi_len, bi_int, bi_lent, bi_intb, bi_abs, bi_tupl, bi_tupt, max_int2, isTy, isNon, lentOf, avCells, putBack, outs, lentC, b1, h]
      · have ht : tb r i = .int (r.sz i) := by unfold tb; rw [if_neg h]
        rw [ht] at b1
        simp [cc, evE_var, evE_cst, evE_lit, evE_bin, evE_neg, evE_not, evE_and, evE_or, evE_ife, evE_cmp, evE_chn, evE_tup, evE_ix, evE_sl, evE_call, evE_bi, evE_isi, evE_fr, evE_oix, evE_olen, evE_otup, evE_calO, evE_mind, evAs_nil, evAs_e, evAs_st, evAs_ln, evP_no, evP_so, evF_no, evF_so, evO_dis, evO_lc, evO_lis, evO_cat, evO_rep, evO_sl, evO_osl, evO_call, evO_mv, evO_orr, evO_sst, evO_srt, evI_it, evI_r1, evI_r2, evI_en, evI_zp, exS_asg, exS_par2, exS_par3, exS_own, exS_app, exS_set, exS_exp, exS_ret, exS_retO, exS_ife, exS_whl, exS_for_, exS_never, exS_frz, exSs_nil, exSs_cons, runDef, evT_eq, bd_some, bd_none, mpo_some, mpo_none, callV_eq, forG_eq, lcG_eq, getZ, getO, setT, putC, updO, isLent_un, isLent_fz, isLent_ow, isMine_un, isMine_fz, isMine_ow, isOw_un, isOw_fz, isOw_ow, lastI_succ, lastI_lent, lastI_ow, at_0, at_1, at_2, m_lt0, m_le1, m_le2, m_le3, m_le4, m_le5, m_le6, m_le7, m_le8, cmp_eq_int, cmp_ne_int, cmp_eq_bl, cmp_ne_bl, cmp_lt_int, cmp_le_int, cmp_gt_int, cmp_ge_int, cmp_isN, cmp_notN, cmp_inn, op_add, op_sub, op_mul, op_fdiv, op_mod, op_pow, cellI_zero, cellI_succ, cellI_lent, noOw, wipeC, backC, truth, bool?, int?, items?, vals?, ixF_tup, ixF_lst, bi_len, bi_int, bi_lent, bi_intb, bi_abs, bi_tupl, bi_tupt, max_int2, isTy, isNon, lentOf, avCells, putBack, outs, lentC, b1, h]
    rw [← rangeL_rw, ← hbk] at lp
    unfold cc at lp
    simp [nthS, cb, d_law_case_right, cc, evE_var, evE_cst, evE_lit, evE_bin, evE_neg, evE_not, evE_and, evE_or, evE_ife, evE_cmp, evE_chn, evE_tup, evE_ix, evE_sl, evE_call, evE_bi, evE_isi, evE_fr, evE_oix, evE_olen, evE_otup, evE_calO, evE_mind, evAs_nil, evAs_e, evAs_st, evAs_ln, evP_no, evP_so, evF_no, evF_so, evO_dis, evO_lc, evO_lis, evO_cat, evO_rep, evO_sl, evO_osl, evO_call, evO_mv, evO_orr, evO_sst, evO_srt, evI_it, evI_r1, evI_r2, evI_en, evI_zp, exS_asg, exS_par2, exS_par3, exS_own, exS_app, exS_set, exS_exp, exS_ret, exS_retO, exS_ife, exS_whl, exS_for_, exS_never, exS_frz, exSs_nil, exSs_cons, runDef, evT_eq, bd_some, bd_none, mpo_some, mpo_none, callV_eq, forG_eq, lcG_eq, getZ, getO, setT, putC, updO, isLent_un, isLent_fz, isLent_ow, isMine_un, isMine_fz, isMine_ow, isOw_un, isOw_fz, isOw_ow, lastI_succ, lastI_lent, lastI_ow, at_0, at_1, at_2, m_lt0, m_le1, m_le2, m_le3, m_le4, m_le5, m_le6, m_le7, m_le8, cmp_eq_int, cmp_ne_int, cmp_eq_bl, cmp_ne_bl, cmp_lt_int, cmp_le_int, cmp_gt_int, cmp_ge_int, cmp_isN, cmp_notN, cmp_inn, op_add, op_sub, op_mul, op_fdiv, op_mod, op_pow, cellI_zero, cellI_succ, cellI_lent, noOw, wipeC, backC, truth, bool?, int?, items?, vals?, ixF_tup, ixF_lst, bi_len, bi_int, bi_lent, bi_intb, bi_abs, bi_tupl, bi_tupt, max_int2, isTy, isNon, lentOf, avCells, putBack, outs, lentC, hr12, ht12, hrl, lp, e5, hbb]
  have s6 : exS (callF prog (n + 8)) (nthS 6 cb) (cc r M (.fz (.tup line)) (.fz (.tup much)) (.fz (.tup told)) (.fz (.lst [])) .un .un .un .un) = some (.nx (cc r M (.fz (.tup line)) (.fz (.tup much)) (.fz (.tup told)) (.fz (.lst [])) (.fz (.tup sgs)) .un .un .un)) := by
    simp [nthS, cb, d_law_case_right, cc, evE_var, evE_cst, evE_lit, evE_bin, evE_neg, evE_not, evE_and, evE_or, evE_ife, evE_cmp, evE_chn, evE_tup, evE_ix, evE_sl, evE_call, evE_bi, evE_isi, evE_fr, evE_oix, evE_olen, evE_otup, evE_calO, evE_mind, evAs_nil, evAs_e, evAs_st, evAs_ln, evP_no, evP_so, evF_no, evF_so, evO_dis, evO_lc, evO_lis, evO_cat, evO_rep, evO_sl, evO_osl, evO_call, evO_mv, evO_orr, evO_sst, evO_srt, evI_it, evI_r1, evI_r2, evI_en, evI_zp, exS_asg, exS_par2, exS_par3, exS_own, exS_app, exS_set, exS_exp, exS_ret, exS_retO, exS_ife, exS_whl, exS_for_, exS_never, exS_frz, exSs_nil, exSs_cons, runDef, evT_eq, bd_some, bd_none, mpo_some, mpo_none, callV_eq, forG_eq, lcG_eq, getZ, getO, setT, putC, updO, isLent_un, isLent_fz, isLent_ow, isMine_un, isMine_fz, isMine_ow, isOw_un, isOw_fz, isOw_ow, lastI_succ, lastI_lent, lastI_ow, at_0, at_1, at_2, m_lt0, m_le1, m_le2, m_le3, m_le4, m_le5, m_le6, m_le7, m_le8, cmp_eq_int, cmp_ne_int, cmp_eq_bl, cmp_ne_bl, cmp_lt_int, cmp_le_int, cmp_gt_int, cmp_ge_int, cmp_isN, cmp_notN, cmp_inn, op_add, op_sub, op_mul, op_fdiv, op_mod, op_pow, cellI_zero, cellI_succ, cellI_lent, noOw, wipeC, backC, truth, bool?, int?, items?, vals?, ixF_tup, ixF_lst, bi_len, bi_int, bi_lent, bi_intb, bi_abs, bi_tupl, bi_tupt, max_int2, isTy, isNon, lentOf, avCells, putBack, outs, lentC, e6]
  have s7 : exS (callF prog (n + 8)) (nthS 7 cb) (cc r M (.fz (.tup line)) (.fz (.tup much)) (.fz (.tup told)) (.fz (.lst [])) (.fz (.tup sgs)) .un .un .un) = some (.nx (cc r M (.fz (.tup line)) (.fz (.tup much)) (.fz (.tup told)) (.fz (.lst [])) (.fz (.tup sgs)) (.ow true bk) .un .un)) := by
    have lp := mapL_rwF (step := lcG (evE (callF prog (n + 8)) (.bin .add (.var 11) (.lit (.int 1)))) (evF (callF prog (n + 8)) (.so (.ix (.var 7) (.var 11)))) (.nm 11) [11]) (l := cc r M (.fz (.tup line)) (.fz (.tup much)) (.fz (.tup told)) (.fz (.lst [])) (.fz (.tup sgs)) .un .un .un) (f := fun i => .int (0 + (i : Nat))) 12 (fun i => decide (r.pl (i + 1) = 0)) (fun i => .int ((i : Nat) + 1)) fun i hi => by
      have b1 := a3 i hi
      unfold sg at b1
      by_cases h : r.pl (i + 1) = 0
      · rw [decide_eq_true h] at b1
        simp [cc, evE_var, evE_cst, evE_lit, evE_bin, evE_neg, evE_not, evE_and, evE_or, evE_ife, evE_cmp, evE_chn, evE_tup, evE_ix, evE_sl, evE_call, evE_bi, evE_isi, evE_fr, evE_oix, evE_olen, evE_otup, evE_calO, evE_mind, evAs_nil, evAs_e, evAs_st, evAs_ln, evP_no, evP_so, evF_no, evF_so, evO_dis, evO_lc, evO_lis, evO_cat, evO_rep, evO_sl, evO_osl, evO_call, evO_mv, evO_orr, evO_sst, evO_srt, evI_it, evI_r1, evI_r2, evI_en, evI_zp, exS_asg, exS_par2, exS_par3, exS_own, exS_app, exS_set, exS_exp, exS_ret, exS_retO, exS_ife, exS_whl, exS_for_, exS_never, exS_frz, exSs_nil, exSs_cons, runDef, evT_eq, bd_some, bd_none, mpo_some, mpo_none, callV_eq, forG_eq, lcG_eq, getZ, getO, setT, putC, updO, isLent_un, isLent_fz, isLent_ow, isMine_un, isMine_fz, isMine_ow, isOw_un, isOw_fz, isOw_ow, lastI_succ, lastI_lent, lastI_ow, at_0, at_1, at_2, m_lt0, m_le1, m_le2, m_le3, m_le4, m_le5, m_le6, m_le7, m_le8, cmp_eq_int, cmp_ne_int, cmp_eq_bl, cmp_ne_bl, cmp_lt_int, cmp_le_int, cmp_gt_int, cmp_ge_int, cmp_isN, cmp_notN, cmp_inn, op_add, op_sub, op_mul, op_fdiv, op_mod, op_pow, cellI_zero, cellI_succ, cellI_lent, noOw, wipeC, backC, truth, bool?, int?, items?, vals?, ixF_tup, ixF_lst, bi_len, bi_int, bi_lent, bi_intb, bi_abs, bi_tupl, bi_tupt, max_int2, isTy, isNon, lentOf, avCells, putBack, outs, lentC, b1, h]
      · rw [decide_eq_false h] at b1
        simp [cc, evE_var, evE_cst, evE_lit, evE_bin, evE_neg, evE_not, evE_and, evE_or, evE_ife, evE_cmp, evE_chn, evE_tup, evE_ix, evE_sl, evE_call, evE_bi, evE_isi, evE_fr, evE_oix, evE_olen, evE_otup, evE_calO, evE_mind, evAs_nil, evAs_e, evAs_st, evAs_ln, evP_no, evP_so, evF_no, evF_so, evO_dis, evO_lc, evO_lis, evO_cat, evO_rep, evO_sl, evO_osl, evO_call, evO_mv, evO_orr, evO_sst, evO_srt, evI_it, evI_r1, evI_r2, evI_en, evI_zp, exS_asg, exS_par2, exS_par3, exS_own, exS_app, exS_set, exS_exp, exS_ret, exS_retO, exS_ife, exS_whl, exS_for_, exS_never, exS_frz, exSs_nil, exSs_cons, runDef, evT_eq, bd_some, bd_none, mpo_some, mpo_none, callV_eq, forG_eq, lcG_eq, getZ, getO, setT, putC, updO, isLent_un, isLent_fz, isLent_ow, isMine_un, isMine_fz, isMine_ow, isOw_un, isOw_fz, isOw_ow, lastI_succ, lastI_lent, lastI_ow, at_0, at_1, at_2, m_lt0, m_le1, m_le2, m_le3, m_le4, m_le5, m_le6, m_le7, m_le8, cmp_eq_int, cmp_ne_int, cmp_eq_bl, cmp_ne_bl, cmp_lt_int, cmp_le_int, cmp_gt_int, cmp_ge_int, cmp_isN, cmp_notN, cmp_inn, op_add, op_sub, op_mul, op_fdiv, op_mod, op_pow, cellI_zero, cellI_succ, cellI_lent, noOw, wipeC, backC, truth, bool?, int?, items?, vals?, ixF_tup, ixF_lst, bi_len, bi_int, bi_lent, bi_intb, bi_abs, bi_tupl, bi_tupt, max_int2, isTy, isNon, lentOf, avCells, putBack, outs, lentC, b1, h]
    rw [← rangeL_rw, ← hbk] at lp
    unfold cc at lp
    simp [nthS, cb, d_law_case_right, cc, evE_var, evE_cst, evE_lit, evE_bin, evE_neg, evE_not, evE_and, evE_or, evE_ife, evE_cmp, evE_chn, evE_tup, evE_ix, evE_sl, evE_call, evE_bi, evE_isi, evE_fr, evE_oix, evE_olen, evE_otup, evE_calO, evE_mind, evAs_nil, evAs_e, evAs_st, evAs_ln, evP_no, evP_so, evF_no, evF_so, evO_dis, evO_lc, evO_lis, evO_cat, evO_rep, evO_sl, evO_osl, evO_call, evO_mv, evO_orr, evO_sst, evO_srt, evI_it, evI_r1, evI_r2, evI_en, evI_zp, exS_asg, exS_par2, exS_par3, exS_own, exS_app, exS_set, exS_exp, exS_ret, exS_retO, exS_ife, exS_whl, exS_for_, exS_never, exS_frz, exSs_nil, exSs_cons, runDef, evT_eq, bd_some, bd_none, mpo_some, mpo_none, callV_eq, forG_eq, lcG_eq, getZ, getO, setT, putC, updO, isLent_un, isLent_fz, isLent_ow, isMine_un, isMine_fz, isMine_ow, isOw_un, isOw_fz, isOw_ow, lastI_succ, lastI_lent, lastI_ow, at_0, at_1, at_2, m_lt0, m_le1, m_le2, m_le3, m_le4, m_le5, m_le6, m_le7, m_le8, cmp_eq_int, cmp_ne_int, cmp_eq_bl, cmp_ne_bl, cmp_lt_int, cmp_le_int, cmp_gt_int, cmp_ge_int, cmp_isN, cmp_notN, cmp_inn, op_add, op_sub, op_mul, op_fdiv, op_mod, op_pow, cellI_zero, cellI_succ, cellI_lent, noOw, wipeC, backC, truth, bool?, int?, items?, vals?, ixF_tup, ixF_lst, bi_len, bi_int, bi_lent, bi_intb, bi_abs, bi_tupl, bi_tupt, max_int2, isTy, isNon, lentOf, avCells, putBack, outs, lentC, hr12, ht12, hrl, lp]
  have s8 : exS (callF prog (n + 8)) (nthS 8 cb) (cc r M (.fz (.tup line)) (.fz (.tup much)) (.fz (.tup told)) (.fz (.lst [])) (.fz (.tup sgs)) (.ow true bk) .un .un) = some (.nx (cc r M (.fz (.tup line)) (.fz (.tup much)) (.fz (.tup told)) (.fz (.lst [])) (.fz (.tup sgs)) (.fz (.lst bk)) .un .un)) := by
    simp [nthS, cb, d_law_case_right, cc, evE_var, evE_cst, evE_lit, evE_bin, evE_neg, evE_not, evE_and, evE_or, evE_ife, evE_cmp, evE_chn, evE_tup, evE_ix, evE_sl, evE_call, evE_bi, evE_isi, evE_fr, evE_oix, evE_olen, evE_otup, evE_calO, evE_mind, evAs_nil, evAs_e, evAs_st, evAs_ln, evP_no, evP_so, evF_no, evF_so, evO_dis, evO_lc, evO_lis, evO_cat, evO_rep, evO_sl, evO_osl, evO_call, evO_mv, evO_orr, evO_sst, evO_srt, evI_it, evI_r1, evI_r2, evI_en, evI_zp, exS_asg, exS_par2, exS_par3, exS_own, exS_app, exS_set, exS_exp, exS_ret, exS_retO, exS_ife, exS_whl, exS_for_, exS_never, exS_frz, exSs_nil, exSs_cons, runDef, evT_eq, bd_some, bd_none, mpo_some, mpo_none, callV_eq, forG_eq, lcG_eq, getZ, getO, setT, putC, updO, isLent_un, isLent_fz, isLent_ow, isMine_un, isMine_fz, isMine_ow, isOw_un, isOw_fz, isOw_ow, lastI_succ, lastI_lent, lastI_ow, at_0, at_1, at_2, m_lt0, m_le1, m_le2, m_le3, m_le4, m_le5, m_le6, m_le7, m_le8, cmp_eq_int, cmp_ne_int, cmp_eq_bl, cmp_ne_bl, cmp_lt_int, cmp_le_int, cmp_gt_int, cmp_ge_int, cmp_isN, cmp_notN, cmp_inn, op_add, op_sub, op_mul, op_fdiv, op_mod, op_pow, cellI_zero, cellI_succ, cellI_lent, noOw, wipeC, backC, truth, bool?, int?, items?, vals?, ixF_tup, ixF_lst, bi_len, bi_int, bi_lent, bi_intb, bi_abs, bi_tupl, bi_tupt, max_int2, isTy, isNon, lentOf, avCells, putBack, outs, lentC]
  have eb : callF prog (n + 8) 18 [.fz (rl r.p r.q r.m), .fz (.tup sgs)] = some (.fz (.bl false), [.fz (rl r.p r.q r.m), .fz (.tup sgs)]) := by
    have z := is_barred (n := n + 5) (m := r.m) d.q1 d.qp hp ((List.range 12).map fun t => decide (r.pl (t + 1) = 0))
    rw [barred_run d hs hp hm 12 (by decide), List.map_map] at z
    rw [hsgs]
    exact z
  have s9 : exS (callF prog (n + 8)) (nthS 9 cb) (cc r M (.fz (.tup line)) (.fz (.tup much)) (.fz (.tup told)) (.fz (.lst [])) (.fz (.tup sgs)) (.fz (.lst bk)) .un .un) = some (.nx (cc r M (.fz (.tup line)) (.fz (.tup much)) (.fz (.tup told)) (.fz (.lst [])) (.fz (.tup sgs)) (.fz (.lst bk)) .un .un)) := by
    simp [nthS, cb, d_law_case_right, cc, evE_var, evE_cst, evE_lit, evE_bin, evE_neg, evE_not, evE_and, evE_or, evE_ife, evE_cmp, evE_chn, evE_tup, evE_ix, evE_sl, evE_call, evE_bi, evE_isi, evE_fr, evE_oix, evE_olen, evE_otup, evE_calO, evE_mind, evAs_nil, evAs_e, evAs_st, evAs_ln, evP_no, evP_so, evF_no, evF_so, evO_dis, evO_lc, evO_lis, evO_cat, evO_rep, evO_sl, evO_osl, evO_call, evO_mv, evO_orr, evO_sst, evO_srt, evI_it, evI_r1, evI_r2, evI_en, evI_zp, exS_asg, exS_par2, exS_par3, exS_own, exS_app, exS_set, exS_exp, exS_ret, exS_retO, exS_ife, exS_whl, exS_for_, exS_never, exS_frz, exSs_nil, exSs_cons, runDef, evT_eq, bd_some, bd_none, mpo_some, mpo_none, callV_eq, forG_eq, lcG_eq, getZ, getO, setT, putC, updO, isLent_un, isLent_fz, isLent_ow, isMine_un, isMine_fz, isMine_ow, isOw_un, isOw_fz, isOw_ow, lastI_succ, lastI_lent, lastI_ow, at_0, at_1, at_2, m_lt0, m_le1, m_le2, m_le3, m_le4, m_le5, m_le6, m_le7, m_le8, cmp_eq_int, cmp_ne_int, cmp_eq_bl, cmp_ne_bl, cmp_lt_int, cmp_le_int, cmp_gt_int, cmp_ge_int, cmp_isN, cmp_notN, cmp_inn, op_add, op_sub, op_mul, op_fdiv, op_mod, op_pow, cellI_zero, cellI_succ, cellI_lent, noOw, wipeC, backC, truth, bool?, int?, items?, vals?, ixF_tup, ixF_lst, bi_len, bi_int, bi_lent, bi_intb, bi_abs, bi_tupl, bi_tupt, max_int2, isTy, isNon, lentOf, avCells, putBack, outs, lentC, e5, hbb, eb]
  obtain ⟨ss, hss⟩ : ∃ l, l = startsL r.p r.q r.m 12 M (.tup (rw 12 fun i => .bl (decide (r.pl (i + 1) = 0)))) := ⟨_, rfl⟩
  have e10 : callF prog (n + 8) 12 [.fz (rl r.p r.q r.m), .fz (.tup sgs), .fz (.int M)] = some (.fz (.tup ss), [.fz (rl r.p r.q r.m), .fz (.tup sgs), .fz (.int M)]) := by
    have z := starts_read (n := n + 2) (K := 12) (M := M) (p := r.p) (q := r.q) (m := r.m) (g := fun i => decide (r.pl (i + 1) = 0)) d.ok (by decide) hM
    rw [← hss] at z
    rw [hsgs]
    exact z
  have s10 : exS (callF prog (n + 8)) (nthS 10 cb) (cc r M (.fz (.tup line)) (.fz (.tup much)) (.fz (.tup told)) (.fz (.lst [])) (.fz (.tup sgs)) (.fz (.lst bk)) .un .un) = some (.nx (cc r M (.fz (.tup line)) (.fz (.tup much)) (.fz (.tup told)) (.fz (.lst [])) (.fz (.tup sgs)) (.fz (.lst bk)) (.fz (.tup ss)) .un)) := by
    simp [nthS, cb, d_law_case_right, cc, evE_var, evE_cst, evE_lit, evE_bin, evE_neg, evE_not, evE_and, evE_or, evE_ife, evE_cmp, evE_chn, evE_tup, evE_ix, evE_sl, evE_call, evE_bi, evE_isi, evE_fr, evE_oix, evE_olen, evE_otup, evE_calO, evE_mind, evAs_nil, evAs_e, evAs_st, evAs_ln, evP_no, evP_so, evF_no, evF_so, evO_dis, evO_lc, evO_lis, evO_cat, evO_rep, evO_sl, evO_osl, evO_call, evO_mv, evO_orr, evO_sst, evO_srt, evI_it, evI_r1, evI_r2, evI_en, evI_zp, exS_asg, exS_par2, exS_par3, exS_own, exS_app, exS_set, exS_exp, exS_ret, exS_retO, exS_ife, exS_whl, exS_for_, exS_never, exS_frz, exSs_nil, exSs_cons, runDef, evT_eq, bd_some, bd_none, mpo_some, mpo_none, callV_eq, forG_eq, lcG_eq, getZ, getO, setT, putC, updO, isLent_un, isLent_fz, isLent_ow, isMine_un, isMine_fz, isMine_ow, isOw_un, isOw_fz, isOw_ow, lastI_succ, lastI_lent, lastI_ow, at_0, at_1, at_2, m_lt0, m_le1, m_le2, m_le3, m_le4, m_le5, m_le6, m_le7, m_le8, cmp_eq_int, cmp_ne_int, cmp_eq_bl, cmp_ne_bl, cmp_lt_int, cmp_le_int, cmp_gt_int, cmp_ge_int, cmp_isN, cmp_notN, cmp_inn, op_add, op_sub, op_mul, op_fdiv, op_mod, op_pow, cellI_zero, cellI_succ, cellI_lent, noOw, wipeC, backC, truth, bool?, int?, items?, vals?, ixF_tup, ixF_lst, bi_len, bi_int, bi_lent, bi_intb, bi_abs, bi_tupl, bi_tupt, max_int2, isTy, isNon, lentOf, avCells, putBack, outs, lentC, e10]
  have s11 : exS (callF prog (n + 8)) (nthS 11 cb) (cc r M (.fz (.tup line)) (.fz (.tup much)) (.fz (.tup told)) (.fz (.lst [])) (.fz (.tup sgs)) (.fz (.lst bk)) (.fz (.tup ss)) .un) = some (.nx (cc r M (.fz (.tup line)) (.fz (.tup much)) (.fz (.tup told)) (.fz (.lst [])) (.fz (.tup sgs)) (.fz (.lst bk)) (.fz (.tup ss)) .un)) := by
    have hsm : ∀ x, x ∈ ss → ∃ t : Int, x = .int t ∧ 1 ≤ t ∧ t ≤ M ∧ isS r.p r.q r.m t = true := fun x hx => by rw [hss] at hx; exact starts_mem hx
    have hsh : shL 8 ss = true := shL_all fun x hx => by
      obtain ⟨t, rfl, _⟩ := hsm x hx
      simp [sh]
    have i1 := cmp_inn_tup (x := .int r.s) (by simp [sh]) hsh
    rw [cmp_inn] at i1
    have hany : (ss.any fun y => eqv y (.int r.s)) = decide (r.s ≤ (M : Int)) := by
      by_cases h : r.s ≤ (M : Int)
      · rw [decide_eq_true h]
        apply any_self
        rw [hss]
        refine starts_has d.s0 h ?_ ?_
        · unfold isS; rw [decide_eq_true d.s0, decide_eq_true d.up]; rfl
        · exact eqv_refl _
      · rw [decide_eq_false h, List.any_eq_false]
        intro y hy
        obtain ⟨t, rfl, _, h2, _⟩ := hsm y hy
        intro he
        have := eqv_int he
        omega
    rw [hany] at i1
    have lp := mapL_keep (step := lcG (evE (callF prog (n + 8)) (.var 12)) (evF (callF prog (n + 8)) (.so (.not (.call 4 (.e (.var 0) (.e (.var 12) .nil)))))) (.nm 12) [12]) (l := cc r M (.fz (.tup line)) (.fz (.tup much)) (.fz (.tup told)) (.fz (.lst [])) (.fz (.tup sgs)) (.fz (.lst bk)) (.fz (.tup ss)) .un) (ds := ss) (c := fun _ => false) fun x hx => by
      obtain ⟨t, rfl, _, _, h3⟩ := hsm x hx
      have z := is_start (n := n + 6) (m := r.m) (s := t) d.ok
      unfold isS at h3
      rw [h3] at z
      simp [cc, evE_var, evE_cst, evE_lit, evE_bin, evE_neg, evE_not, evE_and, evE_or, evE_ife, evE_cmp, evE_chn, evE_tup, evE_ix, evE_sl, evE_call, evE_bi, evE_isi, evE_fr, evE_oix, evE_olen, evE_otup, evE_calO, evE_mind, evAs_nil, evAs_e, evAs_st, evAs_ln, evP_no, evP_so, evF_no, evF_so, evO_dis, evO_lc, evO_lis, evO_cat, evO_rep, evO_sl, evO_osl, evO_call, evO_mv, evO_orr, evO_sst, evO_srt, evI_it, evI_r1, evI_r2, evI_en, evI_zp, exS_asg, exS_par2, exS_par3, exS_own, exS_app, exS_set, exS_exp, exS_ret, exS_retO, exS_ife, exS_whl, exS_for_, exS_never, exS_frz, exSs_nil, exSs_cons, runDef, evT_eq, bd_some, bd_none, mpo_some, mpo_none, callV_eq, forG_eq, lcG_eq, getZ, getO, setT, putC, updO, isLent_un, isLent_fz, isLent_ow, isMine_un, isMine_fz, isMine_ow, isOw_un, isOw_fz, isOw_ow, lastI_succ, lastI_lent, lastI_ow, at_0, at_1, at_2, m_lt0, m_le1, m_le2, m_le3, m_le4, m_le5, m_le6, m_le7, m_le8, cmp_eq_int, cmp_ne_int, cmp_eq_bl, cmp_ne_bl, cmp_lt_int, cmp_le_int, cmp_gt_int, cmp_ge_int, cmp_isN, cmp_notN, cmp_inn, op_add, op_sub, op_mul, op_fdiv, op_mod, op_pow, cellI_zero, cellI_succ, cellI_lent, noOw, wipeC, backC, truth, bool?, int?, items?, vals?, ixF_tup, ixF_lst, bi_len, bi_int, bi_lent, bi_intb, bi_abs, bi_tupl, bi_tupt, max_int2, isTy, isNon, lentOf, avCells, putBack, outs, lentC, z]
    have hf : ss.filter (fun _ => false) = [] := by simp
    rw [hf] at lp
    unfold cc at lp
    have hl : ss.length ≤ most := by rw [hss]; exact Nat.le_trans (starts_len _ _ _ _ _ _) (by unfold most; omega)
    by_cases h : r.s ≤ (M : Int)
    · rw [decide_eq_true h] at i1
      simp [nthS, cb, d_law_case_right, cc, evE_var, evE_cst, evE_lit, evE_bin, evE_neg, evE_not, evE_and, evE_or, evE_ife, evE_cmp, evE_chn, evE_tup, evE_ix, evE_sl, evE_call, evE_bi, evE_isi, evE_fr, evE_oix, evE_olen, evE_otup, evE_calO, evE_mind, evAs_nil, evAs_e, evAs_st, evAs_ln, evP_no, evP_so, evF_no, evF_so, evO_dis, evO_lc, evO_lis, evO_cat, evO_rep, evO_sl, evO_osl, evO_call, evO_mv, evO_orr, evO_sst, evO_srt, evI_it, evI_r1, evI_r2, evI_en, evI_zp, exS_asg, exS_par2, exS_par3, exS_own, exS_app, exS_set, exS_exp, exS_ret, exS_retO, exS_ife, exS_whl, exS_for_, exS_never, exS_frz, exSs_nil, exSs_cons, runDef, evT_eq, bd_some, bd_none, mpo_some, mpo_none, callV_eq, forG_eq, lcG_eq, getZ, getO, setT, putC, updO, isLent_un, isLent_fz, isLent_ow, isMine_un, isMine_fz, isMine_ow, isOw_un, isOw_fz, isOw_ow, lastI_succ, lastI_lent, lastI_ow, at_0, at_1, at_2, m_lt0, m_le1, m_le2, m_le3, m_le4, m_le5, m_le6, m_le7, m_le8, cmp_eq_int, cmp_ne_int, cmp_eq_bl, cmp_ne_bl, cmp_lt_int, cmp_le_int, cmp_gt_int, cmp_ge_int, cmp_isN, cmp_notN, cmp_inn, op_add, op_sub, op_mul, op_fdiv, op_mod, op_pow, cellI_zero, cellI_succ, cellI_lent, noOw, wipeC, backC, truth, bool?, int?, items?, vals?, ixF_tup, ixF_lst, bi_len, bi_int, bi_lent, bi_intb, bi_abs, bi_tupl, bi_tupt, max_int2, isTy, isNon, lentOf, avCells, putBack, outs, lentC, i1, h, lp, hl, hempty, cmp_ne_bl]
    · rw [decide_eq_false h] at i1
      simp [nthS, cb, d_law_case_right, cc, evE_var, evE_cst, evE_lit, evE_bin, evE_neg, evE_not, evE_and, evE_or, evE_ife, evE_cmp, evE_chn, evE_tup, evE_ix, evE_sl, evE_call, evE_bi, evE_isi, evE_fr, evE_oix, evE_olen, evE_otup, evE_calO, evE_mind, evAs_nil, evAs_e, evAs_st, evAs_ln, evP_no, evP_so, evF_no, evF_so, evO_dis, evO_lc, evO_lis, evO_cat, evO_rep, evO_sl, evO_osl, evO_call, evO_mv, evO_orr, evO_sst, evO_srt, evI_it, evI_r1, evI_r2, evI_en, evI_zp, exS_asg, exS_par2, exS_par3, exS_own, exS_app, exS_set, exS_exp, exS_ret, exS_retO, exS_ife, exS_whl, exS_for_, exS_never, exS_frz, exSs_nil, exSs_cons, runDef, evT_eq, bd_some, bd_none, mpo_some, mpo_none, callV_eq, forG_eq, lcG_eq, getZ, getO, setT, putC, updO, isLent_un, isLent_fz, isLent_ow, isMine_un, isMine_fz, isMine_ow, isOw_un, isOw_fz, isOw_ow, lastI_succ, lastI_lent, lastI_ow, at_0, at_1, at_2, m_lt0, m_le1, m_le2, m_le3, m_le4, m_le5, m_le6, m_le7, m_le8, cmp_eq_int, cmp_ne_int, cmp_eq_bl, cmp_ne_bl, cmp_lt_int, cmp_le_int, cmp_gt_int, cmp_ge_int, cmp_isN, cmp_notN, cmp_inn, op_add, op_sub, op_mul, op_fdiv, op_mod, op_pow, cellI_zero, cellI_succ, cellI_lent, noOw, wipeC, backC, truth, bool?, int?, items?, vals?, ixF_tup, ixF_lst, bi_len, bi_int, bi_lent, bi_intb, bi_abs, bi_tupl, bi_tupt, max_int2, isTy, isNon, lentOf, avCells, putBack, outs, lentC, i1, h, lp, hl, hempty, cmp_ne_bl]
  obtain ⟨o, o1, o2, o3⟩ := lap d hp hm
  have e12 := o3 (n + 4)
  have s12 : exS (callF prog (n + 8)) (nthS 12 cb) (cc r M (.fz (.tup line)) (.fz (.tup much)) (.fz (.tup told)) (.fz (.lst [])) (.fz (.tup sgs)) (.fz (.lst bk)) (.fz (.tup ss)) .un) = some (.nx (cc r M (.fz (.tup line)) (.fz (.tup much)) (.fz (.tup told)) (.fz (.lst [])) (.fz (.tup sgs)) (.fz (.lst bk)) (.fz (.tup ss)) (.fz (stD o)))) := by
    simp [nthS, cb, d_law_case_right, cc, evE_var, evE_cst, evE_lit, evE_bin, evE_neg, evE_not, evE_and, evE_or, evE_ife, evE_cmp, evE_chn, evE_tup, evE_ix, evE_sl, evE_call, evE_bi, evE_isi, evE_fr, evE_oix, evE_olen, evE_otup, evE_calO, evE_mind, evAs_nil, evAs_e, evAs_st, evAs_ln, evP_no, evP_so, evF_no, evF_so, evO_dis, evO_lc, evO_lis, evO_cat, evO_rep, evO_sl, evO_osl, evO_call, evO_mv, evO_orr, evO_sst, evO_srt, evI_it, evI_r1, evI_r2, evI_en, evI_zp, exS_asg, exS_par2, exS_par3, exS_own, exS_app, exS_set, exS_exp, exS_ret, exS_retO, exS_ife, exS_whl, exS_for_, exS_never, exS_frz, exSs_nil, exSs_cons, runDef, evT_eq, bd_some, bd_none, mpo_some, mpo_none, callV_eq, forG_eq, lcG_eq, getZ, getO, setT, putC, updO, isLent_un, isLent_fz, isLent_ow, isMine_un, isMine_fz, isMine_ow, isOw_un, isOw_fz, isOw_ow, lastI_succ, lastI_lent, lastI_ow, at_0, at_1, at_2, m_lt0, m_le1, m_le2, m_le3, m_le4, m_le5, m_le6, m_le7, m_le8, cmp_eq_int, cmp_ne_int, cmp_eq_bl, cmp_ne_bl, cmp_lt_int, cmp_le_int, cmp_gt_int, cmp_ge_int, cmp_isN, cmp_notN, cmp_inn, op_add, op_sub, op_mul, op_fdiv, op_mod, op_pow, cellI_zero, cellI_succ, cellI_lent, noOw, wipeC, backC, truth, bool?, int?, items?, vals?, ixF_tup, ixF_lst, bi_len, bi_int, bi_lent, bi_intb, bi_abs, bi_tupl, bi_tupt, max_int2, isTy, isNon, lentOf, avCells, putBack, outs, lentC, e12]
  have s13 : exS (callF prog (n + 8)) (nthS 13 cb) (cc r M (.fz (.tup line)) (.fz (.tup much)) (.fz (.tup told)) (.fz (.lst [])) (.fz (.tup sgs)) (.fz (.lst bk)) (.fz (.tup ss)) (.fz (stD o))) = some (.nx (cc r M (.fz (.tup line)) (.fz (.tup much)) (.fz (.tup told)) (.fz (.lst [])) (.fz (.tup sgs)) (.fz (.lst bk)) (.fz (.tup ss)) (.fz (stD o)))) := by
    cases ho : o with
    | none => simp [nthS, cb, d_law_case_right, cc, evE_var, evE_cst, evE_lit, evE_bin, evE_neg, evE_not, evE_and, evE_or, evE_ife, evE_cmp, evE_chn, evE_tup, evE_ix, evE_sl, evE_call, evE_bi, evE_isi, evE_fr, evE_oix, evE_olen, evE_otup, evE_calO, evE_mind, evAs_nil, evAs_e, evAs_st, evAs_ln, evP_no, evP_so, evF_no, evF_so, evO_dis, evO_lc, evO_lis, evO_cat, evO_rep, evO_sl, evO_osl, evO_call, evO_mv, evO_orr, evO_sst, evO_srt, evI_it, evI_r1, evI_r2, evI_en, evI_zp, exS_asg, exS_par2, exS_par3, exS_own, exS_app, exS_set, exS_exp, exS_ret, exS_retO, exS_ife, exS_whl, exS_for_, exS_never, exS_frz, exSs_nil, exSs_cons, runDef, evT_eq, bd_some, bd_none, mpo_some, mpo_none, callV_eq, forG_eq, lcG_eq, getZ, getO, setT, putC, updO, isLent_un, isLent_fz, isLent_ow, isMine_un, isMine_fz, isMine_ow, isOw_un, isOw_fz, isOw_ow, lastI_succ, lastI_lent, lastI_ow, at_0, at_1, at_2, m_lt0, m_le1, m_le2, m_le3, m_le4, m_le5, m_le6, m_le7, m_le8, cmp_eq_int, cmp_ne_int, cmp_eq_bl, cmp_ne_bl, cmp_lt_int, cmp_le_int, cmp_gt_int, cmp_ge_int, cmp_isN, cmp_notN, cmp_inn, op_add, op_sub, op_mul, op_fdiv, op_mod, op_pow, cellI_zero, cellI_succ, cellI_lent, noOw, wipeC, backC, truth, bool?, int?, items?, vals?, ixF_tup, ixF_lst, bi_len, bi_int, bi_lent, bi_intb, bi_abs, bi_tupl, bi_tupt, max_int2, isTy, isNon, lentOf, avCells, putBack, outs, lentC, stD]
    | some k =>
      by_cases hk : k < 12
      · obtain ⟨fb, _⟩ := o1 k ho
        have hk' : (k : Int) < 12 := by omega
        have k1 : 1 ≤ k := by
          apply Nat.not_lt.mp
          intro h0
          have : k = 0 := by omega
          subst this
          have := fb.le
          have := d.sz0 1
          have : r.S 0 = 0 := rfl
          have : r.sz (0 + 1) = r.sz 1 := rfl
          omega
        have em : opF .mul (.tup [.bl false]) (.int (k : Int)) = some (.tup (List.replicate k (.bl false))) := by
          have : ((k : Int)).toNat = k := by omega
          show (if _ then _ else _) = _
          rw [if_pos ⟨by decide, by decide, by omega, by omega⟩, this, rep_flat]
        have ea : opF .add (.tup (List.replicate k (Da.bl false))) (.tup [.bl true]) = some (.tup (List.replicate k (.bl false) ++ [.bl true])) := by
          show (if _ then _ else _) = _
          rw [if_pos (by rw [List.length_replicate]; unfold most; simp; omega)]
        have ecut : cut sgs none (some ((k : Int) + 1)) = List.replicate k (.bl false) ++ [.bl true] := by
          have ek : ((k + 1 : Nat) : Int) = (k : Int) + 1 := by omega
          rw [hsgs, ← ek, cut_take _ _ _ (by omega), signs_lap d fb]
        have en : cmpF .ne (.tup (List.replicate k (Da.bl false) ++ [.bl true])) (.tup (List.replicate k (Da.bl false) ++ [.bl true])) = some false := cmp_ne_same (by
          rw [sh]
          exact shL_all fun x hx => by
            rcases List.mem_append.mp hx with hx | hx
            · rw [(List.mem_replicate.mp hx).2]; simp [sh]
            · rw [List.mem_singleton.mp hx]; simp [sh])
        simp [nthS, cb, d_law_case_right, cc, evE_var, evE_cst, evE_lit, evE_bin, evE_neg, evE_not, evE_and, evE_or, evE_ife, evE_cmp, evE_chn, evE_tup, evE_ix, evE_sl, evE_call, evE_bi, evE_isi, evE_fr, evE_oix, evE_olen, evE_otup, evE_calO, evE_mind, evAs_nil, evAs_e, evAs_st, evAs_ln, evP_no, evP_so, evF_no, evF_so, evO_dis, evO_lc, evO_lis, evO_cat, evO_rep, evO_sl, evO_osl, evO_call, evO_mv, evO_orr, evO_sst, evO_srt, evI_it, evI_r1, evI_r2, evI_en, evI_zp, exS_asg, exS_par2, exS_par3, exS_own, exS_app, exS_set, exS_exp, exS_ret, exS_retO, exS_ife, exS_whl, exS_for_, exS_never, exS_frz, exSs_nil, exSs_cons, runDef, evT_eq, bd_some, bd_none, mpo_some, mpo_none, callV_eq, forG_eq, lcG_eq, getZ, getO, setT, putC, updO, isLent_un, isLent_fz, isLent_ow, isMine_un, isMine_fz, isMine_ow, isOw_un, isOw_fz, isOw_ow, lastI_succ, lastI_lent, lastI_ow, at_0, at_1, at_2, m_lt0, m_le1, m_le2, m_le3, m_le4, m_le5, m_le6, m_le7, m_le8, cmp_eq_int, cmp_ne_int, cmp_eq_bl, cmp_ne_bl, cmp_lt_int, cmp_le_int, cmp_gt_int, cmp_ge_int, cmp_isN, cmp_notN, cmp_inn, op_add, op_sub, op_mul, op_fdiv, op_mod, op_pow, cellI_zero, cellI_succ, cellI_lent, noOw, wipeC, backC, truth, bool?, int?, items?, vals?, ixF_tup, ixF_lst, bi_len, bi_int, bi_lent, bi_intb, bi_abs, bi_tupl, bi_tupt, max_int2, isTy, isNon, lentOf, avCells, putBack, outs, lentC, stD, slF, hk', em, ea, ecut, en]
      · have hk' : ¬ (k : Int) < 12 := by omega
        simp [nthS, cb, d_law_case_right, cc, evE_var, evE_cst, evE_lit, evE_bin, evE_neg, evE_not, evE_and, evE_or, evE_ife, evE_cmp, evE_chn, evE_tup, evE_ix, evE_sl, evE_call, evE_bi, evE_isi, evE_fr, evE_oix, evE_olen, evE_otup, evE_calO, evE_mind, evAs_nil, evAs_e, evAs_st, evAs_ln, evP_no, evP_so, evF_no, evF_so, evO_dis, evO_lc, evO_lis, evO_cat, evO_rep, evO_sl, evO_osl, evO_call, evO_mv, evO_orr, evO_sst, evO_srt, evI_it, evI_r1, evI_r2, evI_en, evI_zp, exS_asg, exS_par2, exS_par3, exS_own, exS_app, exS_set, exS_exp, exS_ret, exS_retO, exS_ife, exS_whl, exS_for_, exS_never, exS_frz, exSs_nil, exSs_cons, runDef, evT_eq, bd_some, bd_none, mpo_some, mpo_none, callV_eq, forG_eq, lcG_eq, getZ, getO, setT, putC, updO, isLent_un, isLent_fz, isLent_ow, isMine_un, isMine_fz, isMine_ow, isOw_un, isOw_fz, isOw_ow, lastI_succ, lastI_lent, lastI_ow, at_0, at_1, at_2, m_lt0, m_le1, m_le2, m_le3, m_le4, m_le5, m_le6, m_le7, m_le8, cmp_eq_int, cmp_ne_int, cmp_eq_bl, cmp_ne_bl, cmp_lt_int, cmp_le_int, cmp_gt_int, cmp_ge_int, cmp_isN, cmp_notN, cmp_inn, op_add, op_sub, op_mul, op_fdiv, op_mod, op_pow, cellI_zero, cellI_succ, cellI_lent, noOw, wipeC, backC, truth, bool?, int?, items?, vals?, ixF_tup, ixF_lst, bi_len, bi_int, bi_lent, bi_intb, bi_abs, bi_tupl, bi_tupt, max_int2, isTy, isNon, lentOf, avCells, putBack, outs, lentC, stD, hk']
  have e14 := steady_right (n := n + 4) d hp o1 o2
  have e15 := fit_right (n := n) d
  have e16 := places (n := n + 3) (k := 6) d.good (by decide)
  simp only [Int.cast_ofNat_Int] at e16
  have hat : at? (rw 7 fun i => Da.int (r.pl i)) 6 = some (.int (r.pl 6)) := rw_at (n := 7) (i := 6) (fun i => Da.int (r.pl i)) (by decide)
  have hc5 : cut line none (some 5) = rw 5 fun i => Da.int (r.pl (i + 1)) := by
    rw [hline]
    exact cut_take 12 5 (fun i => Da.int (r.pl (i + 1))) (by decide)
  unfold rdT at e15
  rw [call_body (d := d_law_case_right) rfl rfl]
  show (exSs (callF prog (n + 8)) (dropS 0 cb) (cc r M .un .un .un .un .un .un .un .un)).mpo _ = _
  rw [exSs_nth 0 rfl s0, exSs_nth 1 rfl s1, exSs_nth 2 rfl s2, exSs_nth 3 rfl s3, exSs_nth 4 rfl s4, exSs_nth 5 rfl s5, exSs_nth 6 rfl s6, exSs_nth 7 rfl s7, exSs_nth 8 rfl s8, exSs_nth 9 rfl s9, exSs_nth 10 rfl s10, exSs_nth 11 rfl s11, exSs_nth 12 rfl s12, exSs_nth 13 rfl s13]
  simp [dropS, cb, d_law_case_right, cc, evE_var, evE_cst, evE_lit, evE_bin, evE_neg, evE_not, evE_and, evE_or, evE_ife, evE_cmp, evE_chn, evE_tup, evE_ix, evE_sl, evE_call, evE_bi, evE_isi, evE_fr, evE_oix, evE_olen, evE_otup, evE_calO, evE_mind, evAs_nil, evAs_e, evAs_st, evAs_ln, evP_no, evP_so, evF_no, evF_so, evO_dis, evO_lc, evO_lis, evO_cat, evO_rep, evO_sl, evO_osl, evO_call, evO_mv, evO_orr, evO_sst, evO_srt, evI_it, evI_r1, evI_r2, evI_en, evI_zp, exS_asg, exS_par2, exS_par3, exS_own, exS_app, exS_set, exS_exp, exS_ret, exS_retO, exS_ife, exS_whl, exS_for_, exS_never, exS_frz, exSs_nil, exSs_cons, runDef, evT_eq, bd_some, bd_none, mpo_some, mpo_none, callV_eq, forG_eq, lcG_eq, getZ, getO, setT, putC, updO, isLent_un, isLent_fz, isLent_ow, isMine_un, isMine_fz, isMine_ow, isOw_un, isOw_fz, isOw_ow, lastI_succ, lastI_lent, lastI_ow, at_0, at_1, at_2, m_lt0, m_le1, m_le2, m_le3, m_le4, m_le5, m_le6, m_le7, m_le8, cmp_eq_int, cmp_ne_int, cmp_eq_bl, cmp_ne_bl, cmp_lt_int, cmp_le_int, cmp_gt_int, cmp_ge_int, cmp_isN, cmp_notN, cmp_inn, op_add, op_sub, op_mul, op_fdiv, op_mod, op_pow, cellI_zero, cellI_succ, cellI_lent, noOw, wipeC, backC, truth, bool?, int?, items?, vals?, ixF_tup, ixF_lst, bi_len, bi_int, bi_lent, bi_intb, bi_abs, bi_tupl, bi_tupt, max_int2, isTy, isNon, lentOf, avCells, putBack, outs, lentC, slF, e14, e15, e16, hat, hc5, retOf]
end K97

set_option linter.all false
set_option maxRecDepth 100000
/-! K97G: the plain law, closed. -/
namespace K97
open Mini
def handL : List Da := [rl 3 2 0, rl 3 2 1, rl 1 1 3, rl 4 3 0, rl 2 1 0, rl 5 4 3]
theorem by_hand {n : Nat} : callF prog (n + 10) 28 [] = some (.fz (.bl true), []) := by
  have lp := mapL_const (step := lcG (evE (callF prog (n + 9)) (.var 0)) (evF (callF prog (n + 9)) (.so (.not (.call 27 (.e (.var 0) (.e (.lit (.int 16)) (.e (.lit (.int 20)) .nil))))))) (.nm 0) [0]) (l := [.un]) (fun _ => none) handL fun d hd => by
    have : ∃ p q m : Int, d = rl p q m ∧ (⟨p, q, m, 16⟩ : R).Dom ∧ p ≤ 20 ∧ m ≤ 10 := by
      simp only [handL, List.mem_cons, List.not_mem_nil, or_false] at hd
      rcases hd with rfl | rfl | rfl | rfl | rfl | rfl
      all_goals exact ⟨_, _, _, rfl, ⟨by decide, by decide, by decide, by decide, by decide, by decide, by decide, by decide⟩, by decide, by decide⟩
    obtain ⟨p, q, m, rfl, dd, hp, hm⟩ := this
    have e := case_right (n := n) (M := 20) dd hp hm (show (16 : Int) < 2 ^ 100 by decide) (by decide)
    simp only [Int.cast_ofNat_Int] at e
    simp [evE_var, evE_cst, evE_lit, evE_bin, evE_neg, evE_not, evE_and, evE_or, evE_ife, evE_cmp, evE_chn, evE_tup, evE_ix, evE_sl, evE_call, evE_bi, evE_isi, evE_fr, evE_oix, evE_olen, evE_otup, evE_calO, evE_mind, evAs_nil, evAs_e, evAs_st, evAs_ln, evP_no, evP_so, evF_no, evF_so, evO_dis, evO_lc, evO_lis, evO_cat, evO_rep, evO_sl, evO_osl, evO_call, evO_mv, evO_orr, evO_sst, evO_srt, evI_it, evI_r1, evI_r2, evI_en, evI_zp, exS_asg, exS_par2, exS_par3, exS_own, exS_app, exS_set, exS_exp, exS_ret, exS_retO, exS_ife, exS_whl, exS_for_, exS_never, exS_frz, exSs_nil, exSs_cons, runDef, evT_eq, bd_some, bd_none, mpo_some, mpo_none, callV_eq, forG_eq, lcG_eq, getZ, getO, setT, putC, updO, isLent_un, isLent_fz, isLent_ow, isMine_un, isMine_fz, isMine_ow, isOw_un, isOw_fz, isOw_ow, lastI_succ, lastI_lent, lastI_ow, at_0, at_1, at_2, m_lt0, m_le1, m_le2, m_le3, m_le4, m_le5, m_le6, m_le7, m_le8, cmp_eq_int, cmp_ne_int, cmp_eq_bl, cmp_ne_bl, cmp_lt_int, cmp_le_int, cmp_gt_int, cmp_ge_int, cmp_isN, cmp_notN, cmp_inn, op_add, op_sub, op_mul, op_fdiv, op_mod, op_pow, cellI_zero, cellI_succ, cellI_lent, noOw, wipeC, backC, truth, bool?, int?, items?, vals?, ixF, biF, isTy, isNon, lentOf, avCells, putBack, outs, lentC, e]
  have hf : handL.filterMap (fun _ => (none : Option Da)) = [] := rfl
  rw [hf] at lp
  unfold handL at lp
  have c2 : cmpF .eq (.lst []) (.lst []) = some true := cmp_eq_same (by simp [sh, shL])
  rw [call_body (d := d_law_by_hand_right) rfl rfl]
  simp [d_law_by_hand_right, retOf, evE_var, evE_cst, evE_lit, evE_bin, evE_neg, evE_not, evE_and, evE_or, evE_ife, evE_cmp, evE_chn, evE_tup, evE_ix, evE_sl, evE_call, evE_bi, evE_isi, evE_fr, evE_oix, evE_olen, evE_otup, evE_calO, evE_mind, evAs_nil, evAs_e, evAs_st, evAs_ln, evP_no, evP_so, evF_no, evF_so, evO_dis, evO_lc, evO_lis, evO_cat, evO_rep, evO_sl, evO_osl, evO_call, evO_mv, evO_orr, evO_sst, evO_srt, evI_it, evI_r1, evI_r2, evI_en, evI_zp, exS_asg, exS_par2, exS_par3, exS_own, exS_app, exS_set, exS_exp, exS_ret, exS_retO, exS_ife, exS_whl, exS_for_, exS_never, exS_frz, exSs_nil, exSs_cons, runDef, evT_eq, bd_some, bd_none, mpo_some, mpo_none, callV_eq, forG_eq, lcG_eq, getZ, getO, setT, putC, updO, isLent_un, isLent_fz, isLent_ow, isMine_un, isMine_fz, isMine_ow, isOw_un, isOw_fz, isOw_ow, lastI_succ, lastI_lent, lastI_ow, at_0, at_1, at_2, m_lt0, m_le1, m_le2, m_le3, m_le4, m_le5, m_le6, m_le7, m_le8, cmp_eq_int, cmp_ne_int, cmp_eq_bl, cmp_ne_bl, cmp_lt_int, cmp_le_int, cmp_gt_int, cmp_ge_int, cmp_isN, cmp_notN, cmp_inn, op_add, op_sub, op_mul, op_fdiv, op_mod, op_pow, cellI_zero, cellI_succ, cellI_lent, noOw, wipeC, backC, truth, bool?, int?, items?, vals?, ixF, biF, isTy, isNon, lentOf, avCells, putBack, outs, lentC, lp, c2]
theorem right {n : Nat} {k : Int} {l : List Da} (hl : Tin k l) (hk : k < 100) (hk0 : 0 ≤ k) : ∃ l', callF prog (n + 10) 35 [.ow false l] = some (.fz (.bl true), [.ow false l']) ∧ Tin (k + 40) l' := by
  have hr : rngOk 8 = true := by decide
  have ht : (8 : Int).toNat = 8 := rfl
  obtain ⟨l', lp, t, c1, c2, rfl, tt, _, _⟩ := forS_inv (step := forG (exSs (callF prog (n + 9)) (forBd (nthS 0 d_law_right.body))) (forTg (nthS 0 d_law_right.body)))
    (fun i l => ∃ t c1 c2, l = [.ow false t, c1, c2] ∧ Tin (k + 5 * (i : Int)) t ∧ isLent c1 = false ∧ isLent c2 = false) (rangeL 0 8) 0 [.ow false l, .un, .un] (by
      rintro i x l hx ⟨t, c1, c2, rfl, h0, h1, h2⟩
      obtain ⟨hi, rfl⟩ := rangeL_get hx
      rw [Nat.zero_add] at h0 ⊢
      obtain ⟨p, q, m, l1, e1, t1, a1, a2, a3, a4, a5, a6⟩ := kin (n := n + 7) (a := 9) (b := 4) h0 (by omega) (by decide) (by decide) (by decide) (by decide)
      have a5 : m ≤ 4 := a5
      have ok : Ok p q := ⟨by omega, by omega, by omega, by omega⟩
      obtain ⟨s, l2, e2, t2, s0, s1, s2⟩ := first (n := n + 6) (f := 40) t1 (by omega) ok a2 a4 a6 (by decide) (by decide)
      obtain ⟨z, l3, e3, t3, z0, z1⟩ := take (n := n + 8) (t := 60) t2 (by omega) (by decide) (by decide)
      have sb : s < 2 ^ 100 := Int.lt_of_lt_of_le (show s < 2 ^ 40 by omega) (by decide)
      have sb' : s < 2 ^ 800 := Int.lt_of_lt_of_le sb (by decide)
      have e4 := case_right (n := n) (M := (1 + z).toNat) (r := ⟨p, q, m, s⟩) ⟨a1, a2, show p ≤ 24 by omega, a4, show m ≤ 1000 by omega, s0, sb', s1⟩ (show p ≤ 20 by omega) (show m ≤ 10 by omega) sb (by omega)
      have ez : (((1 + z).toNat : Nat) : Int) = 1 + z := by omega
      rw [ez] at e4
      refine ⟨_, ?_, l3, .fz (.int i), .fz (rl p q m), rfl, tin_eq t3 (by omega), rfl, rfl⟩
      simp [nthS, forBd, forTg, d_law_right, evE_var, evE_cst, evE_lit, evE_bin, evE_neg, evE_not, evE_and, evE_or, evE_ife, evE_cmp, evE_chn, evE_tup, evE_ix, evE_sl, evE_call, evE_bi, evE_isi, evE_fr, evE_oix, evE_olen, evE_otup, evE_calO, evE_mind, evAs_nil, evAs_e, evAs_st, evAs_ln, evP_no, evP_so, evF_no, evF_so, evO_dis, evO_lc, evO_lis, evO_cat, evO_rep, evO_sl, evO_osl, evO_call, evO_mv, evO_orr, evO_sst, evO_srt, evI_it, evI_r1, evI_r2, evI_en, evI_zp, exS_asg, exS_par2, exS_par3, exS_own, exS_app, exS_set, exS_exp, exS_ret, exS_retO, exS_ife, exS_whl, exS_for_, exS_never, exS_frz, exSs_nil, exSs_cons, runDef, evT_eq, bd_some, bd_none, mpo_some, mpo_none, callV_eq, forG_eq, lcG_eq, getZ, getO, setT, putC, updO, isLent_un, isLent_fz, isLent_ow, isMine_un, isMine_fz, isMine_ow, isOw_un, isOw_fz, isOw_ow, lastI_succ, lastI_lent, lastI_ow, at_0, at_1, at_2, m_lt0, m_le1, m_le2, m_le3, m_le4, m_le5, m_le6, m_le7, m_le8, cmp_eq_int, cmp_ne_int, cmp_eq_bl, cmp_ne_bl, cmp_lt_int, cmp_le_int, cmp_gt_int, cmp_ge_int, cmp_isN, cmp_notN, cmp_inn, op_add, op_sub, op_mul, op_fdiv, op_mod, op_pow, cellI_zero, cellI_succ, cellI_lent, noOw, wipeC, backC, truth, bool?, int?, items?, vals?, ixF, biF, isTy, isNon, lentOf, avCells, putBack, outs, lentC, e1, e2, e3, e4, h1, h2]) ⟨l, .un, .un, rfl, tin_eq hl (by omega), rfl, rfl⟩
  refine ⟨t, ?_, tin_eq tt (by rw [rangeL_len]; omega)⟩
  rw [call_body (d := d_law_right) rfl rfl]
  have s0 : exS (callF prog (n + 9)) (nthS 0 d_law_right.body) [.ow false l, .un, .un] = some (.nx [.ow false t, c1, c2]) := by
    refine exS_isFor _ (ds := rangeL 0 8) rfl ?_ lp
    simp [nthS, forIt, d_law_right, evE_var, evE_cst, evE_lit, evE_bin, evE_neg, evE_not, evE_and, evE_or, evE_ife, evE_cmp, evE_chn, evE_tup, evE_ix, evE_sl, evE_call, evE_bi, evE_isi, evE_fr, evE_oix, evE_olen, evE_otup, evE_calO, evE_mind, evAs_nil, evAs_e, evAs_st, evAs_ln, evP_no, evP_so, evF_no, evF_so, evO_dis, evO_lc, evO_lis, evO_cat, evO_rep, evO_sl, evO_osl, evO_call, evO_mv, evO_orr, evO_sst, evO_srt, evI_it, evI_r1, evI_r2, evI_en, evI_zp, exS_asg, exS_par2, exS_par3, exS_own, exS_app, exS_set, exS_exp, exS_ret, exS_retO, exS_ife, exS_whl, exS_for_, exS_never, exS_frz, exSs_nil, exSs_cons, runDef, evT_eq, bd_some, bd_none, mpo_some, mpo_none, callV_eq, forG_eq, lcG_eq, getZ, getO, setT, putC, updO, isLent_un, isLent_fz, isLent_ow, isMine_un, isMine_fz, isMine_ow, isOw_un, isOw_fz, isOw_ow, lastI_succ, lastI_lent, lastI_ow, at_0, at_1, at_2, m_lt0, m_le1, m_le2, m_le3, m_le4, m_le5, m_le6, m_le7, m_le8, cmp_eq_int, cmp_ne_int, cmp_eq_bl, cmp_ne_bl, cmp_lt_int, cmp_le_int, cmp_gt_int, cmp_ge_int, cmp_isN, cmp_notN, cmp_inn, op_add, op_sub, op_mul, op_fdiv, op_mod, op_pow, cellI_zero, cellI_succ, cellI_lent, noOw, wipeC, backC, truth, bool?, int?, items?, vals?, ixF, biF, isTy, isNon, lentOf, avCells, putBack, outs, lentC, hr, ht]
  show (exSs (callF prog (n + 9)) (dropS 0 d_law_right.body) [.ow false l, .un, .un]).mpo _ = _
  rw [exSs_nth 0 rfl s0]
  simp [dropS, d_law_right, retOf, evE_var, evE_cst, evE_lit, evE_bin, evE_neg, evE_not, evE_and, evE_or, evE_ife, evE_cmp, evE_chn, evE_tup, evE_ix, evE_sl, evE_call, evE_bi, evE_isi, evE_fr, evE_oix, evE_olen, evE_otup, evE_calO, evE_mind, evAs_nil, evAs_e, evAs_st, evAs_ln, evP_no, evP_so, evF_no, evF_so, evO_dis, evO_lc, evO_lis, evO_cat, evO_rep, evO_sl, evO_osl, evO_call, evO_mv, evO_orr, evO_sst, evO_srt, evI_it, evI_r1, evI_r2, evI_en, evI_zp, exS_asg, exS_par2, exS_par3, exS_own, exS_app, exS_set, exS_exp, exS_ret, exS_retO, exS_ife, exS_whl, exS_for_, exS_never, exS_frz, exSs_nil, exSs_cons, runDef, evT_eq, bd_some, bd_none, mpo_some, mpo_none, callV_eq, forG_eq, lcG_eq, getZ, getO, setT, putC, updO, isLent_un, isLent_fz, isLent_ow, isMine_un, isMine_fz, isMine_ow, isOw_un, isOw_fz, isOw_ow, lastI_succ, lastI_lent, lastI_ow, at_0, at_1, at_2, m_lt0, m_le1, m_le2, m_le3, m_le4, m_le5, m_le6, m_le7, m_le8, cmp_eq_int, cmp_ne_int, cmp_eq_bl, cmp_ne_bl, cmp_lt_int, cmp_le_int, cmp_gt_int, cmp_ge_int, cmp_isN, cmp_notN, cmp_inn, op_add, op_sub, op_mul, op_fdiv, op_mod, op_pow, cellI_zero, cellI_succ, cellI_lent, noOw, wipeC, backC, truth, bool?, int?, items?, vals?, ixF, biF, isTy, isNon, lentOf, avCells, putBack, outs, lentC]
abbrev lvl : Nat := 11
theorem law_plain (ns : List Int) (h : ns.length ≤ 63) : ∃ c, callF prog lvl 36 [.fz (.lst (ns.map .int))] = some (.fz (.bl true), c) := by
  have hb := by_hand (n := 0)
  obtain ⟨ms, e1, h1, h2⟩ := cells (n := 9) h
  have hr : rngOk (ms.length : Int) = true := by unfold rngOk; simp; omega
  have bd : d_law.body = .cons (nthS 0 d_law.body) (.cons (nthS 1 d_law.body) (.cons (nthS 2 d_law.body) (.cons (.ret (.lit (.bl true))) .nil))) := rfl
  obtain ⟨l', lp, c2, c3, rfl, _, _⟩ := forS_inv (step := forG (exSs (callF prog 10) (forBd (nthS 2 d_law.body))) (forTg (nthS 2 d_law.body)))
    (fun _ l => ∃ c2 c3, l = [.fz (.lst (intz ns)), .fz (.lst (intz ms)), c2, c3] ∧ isLent c2 = false ∧ isLent c3 = false) (rangeL 0 ms.length) 0 [.fz (.lst (intz ns)), .fz (.lst (intz ms)), .un, .un] (by
      rintro i x l hx ⟨c2, c3, rfl, g2, g3⟩
      obtain ⟨hi, rfl⟩ := rangeL_get hx
      obtain ⟨l0, f1, t0⟩ := box (n := 9) hi (by omega)
      obtain ⟨l1, f2, t1⟩ := right (n := 0) t0 (by decide) (by decide)
      obtain ⟨l2, f3, t2⟩ := right (n := 0) t1 (by decide) (by decide)
      refine ⟨_, ?_, .fz (.int i), .ow true l2, rfl, rfl, rfl⟩
      simp [nthS, forBd, forTg, d_law, evE_var, evE_cst, evE_lit, evE_bin, evE_neg, evE_not, evE_and, evE_or, evE_ife, evE_cmp, evE_chn, evE_tup, evE_ix, evE_sl, evE_call, evE_bi, evE_isi, evE_fr, evE_oix, evE_olen, evE_otup, evE_calO, evE_mind, evAs_nil, evAs_e, evAs_st, evAs_ln, evP_no, evP_so, evF_no, evF_so, evO_dis, evO_lc, evO_lis, evO_cat, evO_rep, evO_sl, evO_osl, evO_call, evO_mv, evO_orr, evO_sst, evO_srt, evI_it, evI_r1, evI_r2, evI_en, evI_zp, exS_asg, exS_par2, exS_par3, exS_own, exS_app, exS_set, exS_exp, exS_ret, exS_retO, exS_ife, exS_whl, exS_for_, exS_never, exS_frz, exSs_nil, exSs_cons, runDef, evT_eq, bd_some, bd_none, mpo_some, mpo_none, callV_eq, forG_eq, lcG_eq, getZ, getO, setT, putC, updO, isLent_un, isLent_fz, isLent_ow, isMine_un, isMine_fz, isMine_ow, isOw_un, isOw_fz, isOw_ow, lastI_succ, lastI_lent, lastI_ow, at_0, at_1, at_2, m_lt0, m_le1, m_le2, m_le3, m_le4, m_le5, m_le6, m_le7, m_le8, cmp_eq_int, cmp_ne_int, cmp_eq_bl, cmp_ne_bl, cmp_lt_int, cmp_le_int, cmp_gt_int, cmp_ge_int, cmp_isN, cmp_notN, cmp_inn, op_add, op_sub, op_mul, op_fdiv, op_mod, op_pow, cellI_zero, cellI_succ, cellI_lent, noOw, wipeC, backC, truth, bool?, int?, items?, vals?, ixF, biF, isTy, isNon, lentOf, avCells, putBack, outs, lentC, f1, f2, f3, g2, g3]) ⟨.un, .un, rfl, rfl, rfl⟩
  refine ⟨[.fz (.lst (intz ns))], ?_⟩
  show callF prog 11 36 [.fz (.lst (intz ns))] = _
  rw [call_body (d := d_law) rfl rfl]
  have s0 : exS (callF prog 10) (nthS 0 d_law.body) [.fz (.lst (intz ns)), .un, .un, .un] = some (.nx [.fz (.lst (intz ns)), .un, .un, .un]) := by
    simp [nthS, d_law, evE_var, evE_cst, evE_lit, evE_bin, evE_neg, evE_not, evE_and, evE_or, evE_ife, evE_cmp, evE_chn, evE_tup, evE_ix, evE_sl, evE_call, evE_bi, evE_isi, evE_fr, evE_oix, evE_olen, evE_otup, evE_calO, evE_mind, evAs_nil, evAs_e, evAs_st, evAs_ln, evP_no, evP_so, evF_no, evF_so, evO_dis, evO_lc, evO_lis, evO_cat, evO_rep, evO_sl, evO_osl, evO_call, evO_mv, evO_orr, evO_sst, evO_srt, evI_it, evI_r1, evI_r2, evI_en, evI_zp, exS_asg, exS_par2, exS_par3, exS_own, exS_app, exS_set, exS_exp, exS_ret, exS_retO, exS_ife, exS_whl, exS_for_, exS_never, exS_frz, exSs_nil, exSs_cons, runDef, evT_eq, bd_some, bd_none, mpo_some, mpo_none, callV_eq, forG_eq, lcG_eq, getZ, getO, setT, putC, updO, isLent_un, isLent_fz, isLent_ow, isMine_un, isMine_fz, isMine_ow, isOw_un, isOw_fz, isOw_ow, lastI_succ, lastI_lent, lastI_ow, at_0, at_1, at_2, m_lt0, m_le1, m_le2, m_le3, m_le4, m_le5, m_le6, m_le7, m_le8, cmp_eq_int, cmp_ne_int, cmp_eq_bl, cmp_ne_bl, cmp_lt_int, cmp_le_int, cmp_gt_int, cmp_ge_int, cmp_isN, cmp_notN, cmp_inn, op_add, op_sub, op_mul, op_fdiv, op_mod, op_pow, cellI_zero, cellI_succ, cellI_lent, noOw, wipeC, backC, truth, bool?, int?, items?, vals?, ixF, biF, isTy, isNon, lentOf, avCells, putBack, outs, lentC, hb]
  have s1 : exS (callF prog 10) (nthS 1 d_law.body) [.fz (.lst (intz ns)), .un, .un, .un] = some (.nx [.fz (.lst (intz ns)), .fz (.lst (intz ms)), .un, .un]) := by
    simp [nthS, d_law, evE_var, evE_cst, evE_lit, evE_bin, evE_neg, evE_not, evE_and, evE_or, evE_ife, evE_cmp, evE_chn, evE_tup, evE_ix, evE_sl, evE_call, evE_bi, evE_isi, evE_fr, evE_oix, evE_olen, evE_otup, evE_calO, evE_mind, evAs_nil, evAs_e, evAs_st, evAs_ln, evP_no, evP_so, evF_no, evF_so, evO_dis, evO_lc, evO_lis, evO_cat, evO_rep, evO_sl, evO_osl, evO_call, evO_mv, evO_orr, evO_sst, evO_srt, evI_it, evI_r1, evI_r2, evI_en, evI_zp, exS_asg, exS_par2, exS_par3, exS_own, exS_app, exS_set, exS_exp, exS_ret, exS_retO, exS_ife, exS_whl, exS_for_, exS_never, exS_frz, exSs_nil, exSs_cons, runDef, evT_eq, bd_some, bd_none, mpo_some, mpo_none, callV_eq, forG_eq, lcG_eq, getZ, getO, setT, putC, updO, isLent_un, isLent_fz, isLent_ow, isMine_un, isMine_fz, isMine_ow, isOw_un, isOw_fz, isOw_ow, lastI_succ, lastI_lent, lastI_ow, at_0, at_1, at_2, m_lt0, m_le1, m_le2, m_le3, m_le4, m_le5, m_le6, m_le7, m_le8, cmp_eq_int, cmp_ne_int, cmp_eq_bl, cmp_ne_bl, cmp_lt_int, cmp_le_int, cmp_gt_int, cmp_ge_int, cmp_isN, cmp_notN, cmp_inn, op_add, op_sub, op_mul, op_fdiv, op_mod, op_pow, cellI_zero, cellI_succ, cellI_lent, noOw, wipeC, backC, truth, bool?, int?, items?, vals?, ixF, biF, isTy, isNon, lentOf, avCells, putBack, outs, lentC, e1]
  have s2 : exS (callF prog 10) (nthS 2 d_law.body) [.fz (.lst (intz ns)), .fz (.lst (intz ms)), .un, .un] = some (.nx [.fz (.lst (intz ns)), .fz (.lst (intz ms)), c2, c3]) := by
    refine exS_isFor _ (ds := rangeL 0 ms.length) rfl ?_ lp
    simp [nthS, forIt, d_law, evE_var, evE_cst, evE_lit, evE_bin, evE_neg, evE_not, evE_and, evE_or, evE_ife, evE_cmp, evE_chn, evE_tup, evE_ix, evE_sl, evE_call, evE_bi, evE_isi, evE_fr, evE_oix, evE_olen, evE_otup, evE_calO, evE_mind, evAs_nil, evAs_e, evAs_st, evAs_ln, evP_no, evP_so, evF_no, evF_so, evO_dis, evO_lc, evO_lis, evO_cat, evO_rep, evO_sl, evO_osl, evO_call, evO_mv, evO_orr, evO_sst, evO_srt, evI_it, evI_r1, evI_r2, evI_en, evI_zp, exS_asg, exS_par2, exS_par3, exS_own, exS_app, exS_set, exS_exp, exS_ret, exS_retO, exS_ife, exS_whl, exS_for_, exS_never, exS_frz, exSs_nil, exSs_cons, runDef, evT_eq, bd_some, bd_none, mpo_some, mpo_none, callV_eq, forG_eq, lcG_eq, getZ, getO, setT, putC, updO, isLent_un, isLent_fz, isLent_ow, isMine_un, isMine_fz, isMine_ow, isOw_un, isOw_fz, isOw_ow, lastI_succ, lastI_lent, lastI_ow, at_0, at_1, at_2, m_lt0, m_le1, m_le2, m_le3, m_le4, m_le5, m_le6, m_le7, m_le8, cmp_eq_int, cmp_ne_int, cmp_eq_bl, cmp_ne_bl, cmp_lt_int, cmp_le_int, cmp_gt_int, cmp_ge_int, cmp_isN, cmp_notN, cmp_inn, op_add, op_sub, op_mul, op_fdiv, op_mod, op_pow, cellI_zero, cellI_succ, cellI_lent, noOw, wipeC, backC, truth, bool?, int?, items?, vals?, ixF, isTy, isNon, lentOf, avCells, putBack, outs, lentC, bi_len, bi_int, hr, ints_len]
  show (exSs (callF prog 10) (dropS 0 d_law.body) [.fz (.lst (intz ns)), .un, .un, .un]).mpo _ = _
  rw [exSs_nth 0 rfl s0, exSs_nth 1 rfl s1, exSs_nth 2 rfl s2]
  simp [dropS, d_law, retOf, evE_var, evE_cst, evE_lit, evE_bin, evE_neg, evE_not, evE_and, evE_or, evE_ife, evE_cmp, evE_chn, evE_tup, evE_ix, evE_sl, evE_call, evE_bi, evE_isi, evE_fr, evE_oix, evE_olen, evE_otup, evE_calO, evE_mind, evAs_nil, evAs_e, evAs_st, evAs_ln, evP_no, evP_so, evF_no, evF_so, evO_dis, evO_lc, evO_lis, evO_cat, evO_rep, evO_sl, evO_osl, evO_call, evO_mv, evO_orr, evO_sst, evO_srt, evI_it, evI_r1, evI_r2, evI_en, evI_zp, exS_asg, exS_par2, exS_par3, exS_own, exS_app, exS_set, exS_exp, exS_ret, exS_retO, exS_ife, exS_whl, exS_for_, exS_never, exS_frz, exSs_nil, exSs_cons, runDef, evT_eq, bd_some, bd_none, mpo_some, mpo_none, callV_eq, forG_eq, lcG_eq, getZ, getO, setT, putC, updO, isLent_un, isLent_fz, isLent_ow, isMine_un, isMine_fz, isMine_ow, isOw_un, isOw_fz, isOw_ow, lastI_succ, lastI_lent, lastI_ow, at_0, at_1, at_2, m_lt0, m_le1, m_le2, m_le3, m_le4, m_le5, m_le6, m_le7, m_le8, cmp_eq_int, cmp_ne_int, cmp_eq_bl, cmp_ne_bl, cmp_lt_int, cmp_le_int, cmp_gt_int, cmp_ge_int, cmp_isN, cmp_notN, cmp_inn, op_add, op_sub, op_mul, op_fdiv, op_mod, op_pow, cellI_zero, cellI_succ, cellI_lent, noOw, wipeC, backC, truth, bool?, int?, items?, vals?, ixF, biF, isTy, isNon, lentOf, avCells, putBack, outs, lentC]
end K97

set_option Elab.async false
set_option linter.all false
set_option maxRecDepth 100000
set_option maxHeartbeats 4000000
/-! SoundA: data by values and heaps, the state of a def's slots, what an evaluation leaves. -/
namespace MS
open PySem PySem.Spec PyProof.Rows L2

abbrev Frag := PySem.W.Frag
abbrev Da := Mini.Da

/-! ### data -/
mutual
inductive IsD (K : Frag) (G : Hp) : V → Da → Prop
  | non : IsD K G .non .non
  | bl (b : Bool) : IsD K G (.bl b) (.bl b)
  | int (i : Int) : IsD K G (.int i) (.int i)
  | str (s : List Nat) : IsD K G (.str ⟨s.toArray⟩) (.str s)
  | tup {a : Addr} {vs : List V} {ds : List Da} : SqT K G a vs → IsDs K G vs ds → IsD K G (.ref a) (.tup ds)
  | lst {a : Addr} {vs : List V} {ds : List Da} : SqL K G a vs → IsDs K G vs ds → IsD K G (.ref a) (.lst ds)
inductive IsDs (K : Frag) (G : Hp) : List V → List Da → Prop
  | nil : IsDs K G [] []
  | cons {v : V} {vs : List V} {d : Da} {ds : List Da} : IsD K G v d → IsDs K G vs ds → IsDs K G (v :: vs) (d :: ds)
end

theorem Same.tup {K : Frag} {H H' : Hp} {a : Addr} {xs : List V} (e : Same H H') (h : SqT K H a xs) : SqT K H' a xs := by
  rcases h with (h | ⟨o, h⟩) | h
  · exact .inl (.inl (e _ _ h))
  · exact .inl (.inr ⟨o, e _ _ h⟩)
  · exact .inr h

mutual
theorem IsD.mono {K : Frag} {G G' : Hp} (e : Same G G') : ∀ {d : Da} {v : V}, IsD K G v d → IsD K G' v d
  | .non, _, h => by cases h; exact .non
  | .bl _, _, h => by cases h; exact .bl _
  | .int _, _, h => by cases h; exact .int _
  | .str _, _, h => by cases h; exact .str _
  | .tup _, _, h => by cases h with | tup a b => exact .tup (Same.tup e a) (IsDs.mono e b)
  | .lst _, _, h => by cases h with | lst a b => exact .lst (e.seq a) (IsDs.mono e b)
theorem IsDs.mono {K : Frag} {G G' : Hp} (e : Same G G') : ∀ {ds : List Da} {vs : List V}, IsDs K G vs ds → IsDs K G' vs ds
  | [], _, h => by cases h; exact .nil
  | _ :: _, _, h => by cases h with | cons a b => exact .cons (IsD.mono e a) (IsDs.mono e b)
end
theorem IsDs.length {K : Frag} {G : Hp} : ∀ {vs : List V} {ds : List Da}, IsDs K G vs ds → vs.length = ds.length
  | [], [], _ => rfl
  | _ :: _, _ :: _, .cons _ b => by rw [List.length_cons, List.length_cons, IsDs.length b]
theorem IsDs.get {K : Frag} {G : Hp} : ∀ {vs : List V} {ds : List Da} {i : Nat} {d : Da}, IsDs K G vs ds → ds[i]? = some d → ∃ v, vs[i]? = some v ∧ IsD K G v d
  | _ :: _, _ :: _, 0, _, .cons a _, e => by simp at e; subst e; exact ⟨_, rfl, a⟩
  | _ :: _, _ :: _, i + 1, d, .cons _ b, e => by
    obtain ⟨v, h1, h2⟩ := IsDs.get (i := i) (d := d) b (by simpa using e)
    exact ⟨v, by simpa using h1, h2⟩
  | [], [], _, _, _, e => by simp at e
theorem IsDs.append {K : Frag} {G : Hp} : ∀ {vs us : List V} {ds es : List Da}, IsDs K G vs ds → IsDs K G us es → IsDs K G (vs ++ us) (ds ++ es)
  | [], _, [], _, _, h => h
  | _ :: _, _, _ :: _, _, .cons a b, h => .cons a (IsDs.append b h)
theorem IsDs.set {K : Frag} {G : Hp} {v : V} {d : Da} (h : IsD K G v d) : ∀ {vs : List V} {ds : List Da} (i : Nat), IsDs K G vs ds → IsDs K G (vs.set i v) (ds.set i d)
  | [], [], _, _ => .nil
  | _ :: _, _ :: _, 0, .cons _ b => .cons h b
  | _ :: _, _ :: _, i + 1, .cons a b => .cons a (IsDs.set h i b)
theorem IsDs.take {K : Frag} {G : Hp} : ∀ {vs : List V} {ds : List Da} (n : Nat), IsDs K G vs ds → IsDs K G (vs.take n) (ds.take n)
  | _, _, 0, _ => .nil
  | [], [], _ + 1, _ => .nil
  | _ :: _, _ :: _, n + 1, .cons a b => .cons a (IsDs.take n b)
theorem IsDs.drop {K : Frag} {G : Hp} : ∀ {vs : List V} {ds : List Da} (n : Nat), IsDs K G vs ds → IsDs K G (vs.drop n) (ds.drop n)
  | _, _, 0, h => h
  | [], [], _ + 1, _ => .nil
  | _ :: _, _ :: _, n + 1, .cons _ b => IsDs.drop n b
theorem IsDs.rep {K : Frag} {G : Hp} {vs : List V} {ds : List Da} (h : IsDs K G vs ds) : ∀ n : Nat, IsDs K G (List.replicate n vs).flatten (List.replicate n ds).flatten
  | 0 => .nil
  | n + 1 => by
    rw [List.replicate_succ, List.replicate_succ, List.flatten_cons, List.flatten_cons]
    exact IsDs.append h (IsDs.rep h n)

/-! ### the data of the library, for == -/
mutual
def py : Da → PyData
  | .non => .none
  | .bl b => .bool b
  | .int i => .int i
  | .str s => .str ⟨s.toArray⟩
  | .tup l => .tuple (pyL l)
  | .lst l => .list (pyL l)
def pyL : List Da → List PyData
  | [] => []
  | x :: r => py x :: pyL r
end
mutual
theorem IsD.dp {K : Frag} {G : Hp} : ∀ {d : Da} {v : V}, IsD K G v d → Dp K G v (py d)
  | .non, _, h => by cases h; exact .non
  | .bl _, _, h => by cases h; exact .bl _
  | .int _, _, h => by cases h; exact .int _
  | .str _, _, h => by cases h; exact .str _
  | .tup _, _, h => by cases h with | tup a b => exact .tup a (IsDs.dp b)
  | .lst _, _, h => by cases h with | lst a b => exact .lst a (IsDs.dp b)
theorem IsDs.dp {K : Frag} {G : Hp} : ∀ {ds : List Da} {vs : List V}, IsDs K G vs ds → DpAll K G vs (pyL ds)
  | [], _, h => by cases h; exact .nil
  | _ :: _, _, h => by cases h with | cons a b => exact .cons (IsD.dp a) (IsDs.dp b)
end
theorem arr_beq (x y : List Nat) : ((⟨x.toArray⟩ : Str) == ⟨y.toArray⟩) = (x == y) := by
  rw [Bool.eq_iff_iff]
  simp
mutual
theorem eqv_py : ∀ d e : Da, PyData.eqv (py d) (py e) = Mini.eqv d e
  | .non, e => by cases e <;> simp [py, PyData.eqv, Mini.eqv]
  | .bl _, e => by cases e <;> simp [py, PyData.eqv, Mini.eqv]
  | .int _, e => by cases e <;> simp [py, PyData.eqv, Mini.eqv]
  | .str x, e => by
    cases e with
    | str y => rw [py, py, PyData.eqv, Mini.eqv]; exact arr_beq x y
    | _ => simp [py, PyData.eqv, Mini.eqv]
  | .tup x, e => by
    cases e with
    | tup y => rw [py, py, PyData.eqv, Mini.eqv]; exact eqv_pyL x y
    | _ => simp [py, PyData.eqv, Mini.eqv]
  | .lst x, e => by
    cases e with
    | lst y => rw [py, py, PyData.eqv, Mini.eqv]; exact eqv_pyL x y
    | _ => simp [py, PyData.eqv, Mini.eqv]
theorem eqv_pyL : ∀ d e : List Da, PyData.eqvAll (pyL d) (pyL e) = Mini.eqvL d e
  | [], [] => by simp [pyL, PyData.eqvAll, Mini.eqvL]
  | [], _ :: _ => by simp [pyL, PyData.eqvAll, Mini.eqvL]
  | _ :: _, [] => by simp [pyL, PyData.eqvAll, Mini.eqvL]
  | x :: xs, y :: ys => by
    rw [pyL, pyL, PyData.eqvAll, Mini.eqvL, eqv_py x y, eqv_pyL xs ys]
end
theorem canLay_str {s : List Nat} (h : (s.all fun c => decide (c < 1114112)) = true) : (PyData.str ⟨s.toArray⟩).canLay0 = true := by
  simp only [PyData.canLay0, PyData.strOk]
  simpa using h
mutual
theorem sh_py : ∀ (n : Nat) (d : Da), Mini.sh n d = true → (py d).canLay0 = true ∧ (py d).depth ≤ n
  | n, .non, _ => by simp [py, PyData.canLay0, PyData.depth]
  | n, .bl _, _ => by simp [py, PyData.canLay0, PyData.depth]
  | n, .int _, _ => by simp [py, PyData.canLay0, PyData.depth]
  | n, .str s, h => by
    rw [py]
    refine ⟨canLay_str (by simpa [Mini.sh] using h), by simp [PyData.depth]⟩
  | 0, .tup _, h => by simp [Mini.sh] at h
  | 0, .lst _, h => by simp [Mini.sh] at h
  | n + 1, .tup l, h => by
    have q := sh_pyL n l (by simpa [Mini.sh] using h)
    rw [py]
    exact ⟨by simpa [PyData.canLay0] using q.1, by simp only [PyData.depth]; omega⟩
  | n + 1, .lst l, h => by
    have q := sh_pyL n l (by simpa [Mini.sh] using h)
    rw [py]
    exact ⟨by simpa [PyData.canLay0] using q.1, by simp only [PyData.depth]; omega⟩
theorem sh_pyL : ∀ (n : Nat) (l : List Da), Mini.shL n l = true → PyData.canLayAll0 (pyL l) = true ∧ PyData.depthAll (pyL l) ≤ n
  | n, [], _ => by simp [pyL, PyData.canLayAll0, PyData.depthAll]
  | n, x :: r, h => by
    have h' : Mini.sh n x = true ∧ Mini.shL n r = true := by simpa [Mini.shL] using h
    have a := sh_py n x h'.1
    have b := sh_pyL n r h'.2
    rw [pyL]
    simp only [PyData.canLayAll0, PyData.depthAll, a.1, b.1, Bool.and_self, true_and]
    omega
end
theorem shaped_py {d : Da} (h : Mini.sh 8 d = true) : SeqAt.shaped (py d) = true := by
  obtain ⟨a, b⟩ := sh_py 8 d h
  unfold SeqAt.shaped
  rw [a, decide_eq_true (by omega)]
  rfl
theorem shapedL_py {l : List Da} (h : Mini.shL 8 l = true) : SeqAt.shaped (.list (pyL l)) = true := by
  obtain ⟨a, b⟩ := sh_pyL 8 l h
  unfold SeqAt.shaped
  have c : (PyData.list (pyL l)).depth ≤ 64 := by simp only [PyData.depth]; omega
  rw [decide_eq_true c]
  simp only [PyData.canLay0, a, Bool.and_self]

/-! ### the slots -/
structure Ent where
  H0 : Hp
  G0 : Hp
  le : Nat → Addr → Prop
def OwnAt (σ : L2.St) (l : Mini.L) (i : Nat) (a : Addr) : Prop := σ[i]? = some (some (V.ref a)) ∧ ∃ (m : Bool) (xs : List Da), l[i]? = some (Mini.Cell.ow m xs)
structure St1 (K : Frag) (Y : Ent) (G H : Hp) (σ : L2.St) (l : Mini.L) : Prop where
  sub : Same G H
  g0 : Same Y.G0 G
  len : σ.length = l.length
  fz : ∀ (i : Nat) (d : Da), l[i]? = some (Mini.Cell.fz d) → ∃ v, σ[i]? = some (some v) ∧ IsD K G v d
  ow : ∀ (i : Nat) (m : Bool) (xs : List Da), l[i]? = some (Mini.Cell.ow m xs) → ∃ (a : Addr) (vs : List V), σ[i]? = some (some (V.ref a)) ∧ H a = some (HO.lst vs) ∧ G a = none ∧ IsDs K G vs xs ∧ (m = true → Y.H0 a = none) ∧ (m = false → Y.le i a)
  dist : ∀ i j a, OwnAt σ l i a → OwnAt σ l j a → i = j
  fr0 : ∀ a o, Y.H0 a = some o → Y.G0 a = none → (∀ k, ¬ Y.le k a) → H a = some o ∧ G a = none
  dom : ∀ a, Y.H0 a ≠ none → H a ≠ none
  lent : ∀ (k : Nat) (a : Addr), Y.le k a → σ[k]? = some (some (V.ref a)) ∧ ∃ xs : List Da, l[k]? = some (Mini.Cell.ow false xs)

/-- what an evaluation leaves -/
structure Go1 (K : Frag) (Y : Ent) (G H : Hp) (σ : L2.St) (l : Mini.L) (G' H' : Hp) (l' : Mini.L) : Prop where
  g : Same G G'
  st : St1 K Y G' H' σ l'
  fr : ∀ a o, H a = some o → G a = none → (∀ i, ¬ OwnAt σ l i a) → H' a = some o ∧ G' a = none
  ow : ∀ i a, OwnAt σ l' i a → OwnAt σ l i a
  dm : ∀ a, H a ≠ none → H' a ≠ none
/-- new things alone -/
structure Gr (G H G' H' : Hp) : Prop where
  g : Same G G'
  sub : Same G' H'
  h : Same H H'
  no : ∀ a, H a ≠ none → G a = none → G' a = none
theorem Gr.refl {G H : Hp} (s : Same G H) : Gr G H G H := ⟨Same.refl G, s, Same.refl H, fun _ _ e => e⟩
theorem same_dm {H H' : Hp} (e : Same H H') : ∀ a, H a ≠ none → H' a ≠ none := fun a h z => by
  cases q : H a with
  | none => exact h q
  | some o => rw [e a o q] at z; cases z
theorem Gr.trans {G H G1 H1 G2 H2 : Hp} (a : Gr G H G1 H1) (b : Gr G1 H1 G2 H2) : Gr G H G2 H2 :=
  ⟨a.g.trans b.g, b.sub, a.h.trans b.h, fun x h e => b.no x (same_dm a.h x h) (a.no x h e)⟩
theorem same_new {H : Hp} {p : Addr} {o : HO} (h : H p = none) : Same H (upd H p o) := fun b x e => by
  rw [upd_ne (ne_of_none e h)]
  exact e
/-- a new object, frozen at once -/
theorem Gr.new {G H : Hp} {p : Addr} {o : HO} (s : Same G H) (h : H p = none) : Gr G H (upd G p o) (upd H p o) := by
  have hg : G p = none := s.free h
  refine ⟨same_new hg, fun b x e => ?_, same_new h, fun a ha e => ?_⟩
  · by_cases q : b = p
    · subst q; rw [upd_same] at e ⊢; exact e
    · rw [upd_ne q] at e ⊢; exact s b x e
  · have q : a ≠ p := fun z => ha (z ▸ h)
    rw [upd_ne q]; exact e
/-- a new object, not frozen -/
theorem Gr.raw {G H : Hp} {p : Addr} {o : HO} (s : Same G H) (h : H p = none) : Gr G H G (upd H p o) :=
  ⟨Same.refl G, s.trans (same_new h), same_new h, fun _ _ e => e⟩
section
variable {K : Frag} {Y : Ent} {G H G1 H1 G2 H2 : Hp} {σ : L2.St} {l l1 l2 : Mini.L}
theorem St1.gr (s : St1 K Y G H σ l) (g : Gr G H G1 H1) : St1 K Y G1 H1 σ l where
  sub := g.sub
  g0 := s.g0.trans g.g
  len := s.len
  fz := fun i d e => let ⟨v, a, b⟩ := s.fz i d e; ⟨v, a, b.mono g.g⟩
  ow := fun i m xs e => by
    obtain ⟨a, vs, h1, h2, h3, h4, h5⟩ := s.ow i m xs e
    exact ⟨a, vs, h1, g.h _ _ h2, g.no a (by rw [h2]; simp) h3, h4.mono g.g, h5⟩
  dist := s.dist
  fr0 := fun a o e1 e2 e3 => by
    obtain ⟨q1, q2⟩ := s.fr0 a o e1 e2 e3
    exact ⟨g.h _ _ q1, g.no a (by rw [q1]; simp) q2⟩
  dom := fun a h => same_dm g.h a (s.dom a h)
  lent := s.lent
theorem Go1.gr (s : St1 K Y G H σ l) (g : Gr G H G1 H1) : Go1 K Y G H σ l G1 H1 l :=
  ⟨g.g, s.gr g, fun a o h e _ => ⟨g.h _ _ h, g.no a (by rw [h]; simp) e⟩, fun _ _ h => h, same_dm g.h⟩
theorem Go1.refl (s : St1 K Y G H σ l) : Go1 K Y G H σ l G H l := Go1.gr s (Gr.refl s.sub)
theorem Go1.trans (a : Go1 K Y G H σ l G1 H1 l1) (b : Go1 K Y G1 H1 σ l1 G2 H2 l2) : Go1 K Y G H σ l G2 H2 l2 :=
  ⟨a.g.trans b.g, b.st, fun x o h e n => by
    obtain ⟨q1, q2⟩ := a.fr x o h e n
    exact b.fr x o q1 q2 fun i z => n i (a.ow i x z), fun i x h => a.ow i x (b.ow i x h), fun x h => b.dm x (a.dm x h)⟩
theorem Go1.then (a : Go1 K Y G H σ l G1 H1 l1) (g : Gr G1 H1 G2 H2) : Go1 K Y G H σ l G2 H2 l1 := a.trans (Go1.gr a.st g)
theorem St1.own_some (s : St1 K Y G H σ l) {i : Nat} {a : Addr} (h : OwnAt σ l i a) : H a ≠ none ∧ G a = none := by
  obtain ⟨e, m, xs, q⟩ := h
  obtain ⟨b, vs, h1, h2, h3, _⟩ := s.ow i m xs q
  rw [e] at h1
  cases h1
  exact ⟨by rw [h2]; simp, h3⟩
/-- a fresh list, frozen -/
theorem St1.freeze (s : St1 K Y G H σ l) {a : Addr} {vs : List V} (h : H a = some (HO.lst vs)) (n0 : Y.H0 a = none) (no : ∀ i, ¬ OwnAt σ l i a) : St1 K Y (upd G a (.lst vs)) H σ l := by
  have e : ∀ b, G b = none → b ≠ a → (upd G a (.lst vs)) b = none := fun b e n => by rw [upd_ne n]; exact e
  have sm : Same G (upd G a (.lst vs)) := fun b o q => by
    by_cases z : b = a
    · subst z
      have := s.sub _ _ q
      rw [h] at this; cases this
      rw [upd_same]
    · rw [upd_ne z]; exact q
  refine ⟨fun b o q => ?_, s.g0.trans sm, s.len, fun i d q => let ⟨v, x, y⟩ := s.fz i d q; ⟨v, x, y.mono sm⟩, fun i m xs q => ?_, s.dist, fun b o q1 q2 q3 => ?_, s.dom, s.lent⟩
  · by_cases z : b = a
    · subst z; rw [upd_same] at q; cases q; exact h
    · rw [upd_ne z] at q; exact s.sub _ _ q
  · obtain ⟨b, us, h1, h2, h3, h4, h5⟩ := s.ow i m xs q
    have z : b ≠ a := fun z => no i ⟨z ▸ h1, m, xs, q⟩
    exact ⟨b, us, h1, h2, e b h3 z, h4.mono sm, h5⟩
  · obtain ⟨x, y⟩ := s.fr0 b o q1 q2 q3
    exact ⟨x, e b y fun z => by rw [z, n0] at q1; cases q1⟩
end
/-! the heap at an owned list changed -/
section
variable {K : Frag} {Y : Ent} {G H : Hp} {σ : L2.St} {l : Mini.L}
theorem getElem_set_own {l : Mini.L} {x j : Nat} {m : Bool} {xs : List Da} {c : Mini.Cell} (h : l[x]? = some (Mini.Cell.ow m xs)) : (l.set x (.ow m xs))[j]? = l[j]? := by
  by_cases e : x = j
  · subst e
    have : x < l.length := (List.getElem?_eq_some_iff.mp h).1
    rw [List.getElem?_set_self this, h]
  · rw [List.getElem?_set_ne e]
theorem ownAt_upd {x : Nat} {xs : List Da} {i : Nat} {a : Addr} : OwnAt σ (Mini.updO x xs l) i a ↔ OwnAt σ l i a := by
  unfold Mini.updO
  split
  · rename_i m ys q
    unfold OwnAt
    by_cases e : x = i
    · subst e
      have : x < l.length := (List.getElem?_eq_some_iff.mp q).1
      rw [List.getElem?_set_self this, q]
      constructor
      · rintro ⟨h, _⟩; exact ⟨h, m, ys, rfl⟩
      · rintro ⟨h, _⟩; exact ⟨h, m, xs, rfl⟩
    · rw [List.getElem?_set_ne e]
  · exact Iff.rfl
theorem St1.write (s : St1 K Y G H σ l) {x : Nat} {a : Addr} {xs : List Da} {vs : List V} (h : OwnAt σ l x a) (hv : IsDs K G vs xs) :
    Go1 K Y G H σ l G (upd H a (.lst vs)) (Mini.updO x xs l) := by
  obtain ⟨e1, m, ys, e2⟩ := id h
  obtain ⟨b, us, h1, h2, h3, h4, h5⟩ := s.ow x m ys e2
  rw [e1] at h1
  cases h1
  have hx : x < l.length := (List.getElem?_eq_some_iff.mp e2).1
  have eu : Mini.updO x xs l = l.set x (.ow m xs) := by unfold Mini.updO; rw [e2]
  have up : ∀ c, c ≠ a → (upd H a (.lst vs)) c = H c := fun c n => upd_ne n
  have dm : ∀ c, H c ≠ none → (upd H a (.lst vs)) c ≠ none := fun c q => by
    by_cases z : c = a
    · subst z; rw [upd_same]; simp
    · rw [up c z]; exact q
  refine ⟨Same.refl G, ⟨fun c o q => ?_, s.g0, by rw [eu, List.length_set]; exact s.len, fun i d q => ?_, fun i m' zs q => ?_, fun i j c p q => s.dist i j c (ownAt_upd.mp p) (ownAt_upd.mp q), fun c o q1 q2 q3 => ?_, fun c q => dm c (s.dom c q), fun k c q => ?_⟩, fun c o q1 q2 q3 => ?_, fun i c q => ownAt_upd.mp q, dm⟩
  · have z : c ≠ a := fun z => by rw [z, h3] at q; cases q
    rw [up c z]; exact s.sub _ _ q
  · rw [eu] at q
    by_cases z : x = i
    · subst z; rw [List.getElem?_set_self hx] at q; cases q
    · rw [List.getElem?_set_ne z] at q; exact s.fz i d q
  · rw [eu] at q
    by_cases z : x = i
    · subst z
      rw [List.getElem?_set_self hx] at q
      cases q
      exact ⟨a, vs, e1, upd_same, h3, hv, h5⟩
    · rw [List.getElem?_set_ne z] at q
      obtain ⟨c, ws, g1, g2, g3, g4, g5⟩ := s.ow i m' zs q
      have n : c ≠ a := fun w => z (s.dist x i a h ⟨w ▸ g1, m', zs, q⟩)
      exact ⟨c, ws, g1, by rw [up c n]; exact g2, g3, g4, g5⟩
  · obtain ⟨z1, z2⟩ := s.fr0 c o q1 q2 q3
    have n : c ≠ a := fun w => by
      subst w
      cases m with
      | true => rw [h5.1 rfl] at q1; cases q1
      | false => exact q3 x (h5.2 rfl)
    exact ⟨by rw [up c n]; exact z1, z2⟩
  · obtain ⟨z1, zs, z2⟩ := s.lent k c q
    rw [eu]
    by_cases z : x = k
    · subst z
      rw [e2] at z2
      cases z2
      exact ⟨z1, xs, by rw [List.getElem?_set_self hx]⟩
    · exact ⟨z1, zs, by rw [List.getElem?_set_ne z]; exact z2⟩
  · have n : c ≠ a := fun w => q3 x (w ▸ h)
    exact ⟨by rw [up c n]; exact q1, q2⟩
end
end MS

set_option Elab.async false
set_option linter.all false
set_option maxRecDepth 100000
set_option maxHeartbeats 4000000
/-! SoundB: the check that a Python text is a mini text. -/
namespace MS
open PySem PySem.Spec PyProof.Rows L2

structure Ctx where
  N : List Str
  sc : Scope
  fn : Str → Bool
structure Top where
  names : List Str
  consts : List (Str × Da)
mutual
def deq : Da → Da → Bool
  | .non, .non => true
  | .bl a, .bl b => a == b
  | .int i, .int j => i == j
  | .str x, .str y => x == y
  | .lst xs, .lst ys => deqL xs ys
  | .tup xs, .tup ys => deqL xs ys
  | _, _ => false
def deqL : List Da → List Da → Bool
  | [], [] => true
  | x :: xs, y :: ys => deq x y && deqL xs ys
  | _, _ => false
end
mutual
theorem deq_eq : ∀ {a b : Da}, deq a b = true → a = b
  | .non, b, h => by cases b <;> simp [deq] at h <;> rfl
  | .bl _, b, h => by cases b <;> simp [deq] at h; subst h; rfl
  | .int _, b, h => by cases b <;> simp [deq] at h; subst h; rfl
  | .str _, b, h => by cases b <;> simp [deq] at h; subst h; rfl
  | .tup x, b, h => by
    cases b with
    | tup y => rw [deq] at h; rw [deqL_eq h]
    | _ => simp [deq] at h
  | .lst x, b, h => by
    cases b with
    | lst y => rw [deq] at h; rw [deqL_eq h]
    | _ => simp [deq] at h
theorem deqL_eq : ∀ {a b : List Da}, deqL a b = true → a = b
  | [], [], _ => rfl
  | [], _ :: _, h => by simp [deqL] at h
  | _ :: _, [], h => by simp [deqL] at h
  | x :: xs, y :: ys, h => by
    have h' : deq x y = true ∧ deqL xs ys = true := by simpa [deqL] using h
    rw [deq_eq h'.1, deqL_eq h'.2]
end

def opOf : Mini.Op → Operator
  | .add => .Add | .sub => .Sub | .mul => .Mult | .fdiv => .FloorDiv | .mod => .Mod | .pow => .Pow
def copOf : Mini.Cop → CmpOp
  | .lt => .Lt | .le => .LtE | .gt => .Gt | .ge => .GtE | .eq => .Eq | .ne => .NotEq | .isN => .Is | .notN => .IsNot | .inn => .In | .nin => .NotIn
def biName : Mini.Bi → Str
  | .len => "len" | .abs => "abs" | .int => "int" | .str => "str" | .max => "max" | .min => "min" | .sum => "sum" | .all => "all" | .any => "any" | .tuple => "tuple"
def tyName : Mini.Ty → Str
  | .int => "int" | .bool => "bool" | .str => "str" | .list => "list" | .tuple => "tuple" | .dict => "dict"
def tyStr : Mini.Ty → String
  | .int => "int" | .bool => "bool" | .str => "str" | .list => "list" | .tuple => "tuple" | .dict => "dict"
def opB : Operator → Operator → Bool
  | .Add, .Add => true | .Sub, .Sub => true | .Mult, .Mult => true | .FloorDiv, .FloorDiv => true | .Mod, .Mod => true | .Pow, .Pow => true | _, _ => false
theorem opB_eq {a b : Operator} (h : opB a b = true) : a = b := by cases a <;> cases b <;> first | rfl | cases h
def copB : CmpOp → CmpOp → Bool
  | .Lt, .Lt => true | .LtE, .LtE => true | .Gt, .Gt => true | .GtE, .GtE => true | .Eq, .Eq => true | .NotEq, .NotEq => true | .Is, .Is => true | .IsNot, .IsNot => true | .In, .In => true | .NotIn, .NotIn => true | _, _ => false
theorem copB_eq {a b : CmpOp} (h : copB a b = true) : a = b := by cases a <;> cases b <;> first | rfl | cases h

def visB (sc : Scope) (x : Str) : Bool := match sc.names.lookup x with
  | some .local => true | some .cell => true | some .free => true | _ => false
def glB (sc : Scope) (x : Str) : Bool := match sc.names.lookup x with
  | some .globalImplicit => !(x == ("__debug__" : Str)) && !(x == ("__name__" : Str)) | _ => false
def varB (C : Ctx) (i : Nat) (x : Str) : Bool := decide (C.N[i]? = some x) && visB C.sc x && !(x == ("__debug__" : Str)) && !(x == ("__classdict__" : Str))
def storeB (C : Ctx) (i : Nat) (x : Str) : Bool := decide (C.N[i]? = some x) && (match C.sc.names.lookup x with
  | some .local => true | some .cell => C.fn x | _ => false)
theorem visB_of {sc : Scope} {x : Str} (h : visB sc x = true) : Vis sc x := by
  unfold visB at h
  split at h <;> first | exact .inl (by assumption) | exact .inr (.inl (by assumption)) | exact .inr (.inr (by assumption)) | cases h
theorem glB_of {sc : Scope} {x : Str} (h : glB sc x = true) : sc.names.lookup x = some .globalImplicit ∧ (x == ("__debug__" : Str)) = false ∧ x ≠ "__name__" := by
  unfold glB at h
  split at h
  · rename_i q
    simp only [Bool.and_eq_true, Bool.not_eq_true', beq_eq_false_iff_ne] at h
    exact ⟨q, by simpa using h.1, h.2⟩
  · cases h
def litB : Da → Const → Bool
  | .int i, .int j => i == j
  | .bl a, .bool b => a == b
  | .non, .none => true
  | .str s, .str x => x.cps.toList == s
  | _, _ => false
def notStar : Expr → Bool
  | .Starred _ _ => false | _ => true
def plainB : Expr → Bool
  | .Slice _ _ _ _ => false | _ => true
def notSet : Expr → Bool
  | .Set _ _ _ => false | _ => true
def tysB (sc : Scope) : List Mini.Ty → List Expr → Bool
  | [], [] => true
  | t :: ts, .Name id _ :: xs => (id == tyName t) && glB sc id && tysB sc ts xs
  | _, _ => false
def chkT (C : Ctx) : Mini.Tg → Expr → Bool
  | .nm i, x => match x with
    | .Name id _ => storeB C i id
    | _ => false
  | .t2 a b, x => match x with
    | .Tuple [u, v] _ _ => chkT C a u && chkT C b v
    | _ => false
  | .t3 a b c, x => match x with
    | .Tuple [u, v, w] _ _ => chkT C a u && chkT C b v && chkT C c w
    | _ => false
def slotsT : Mini.Tg → List Nat
  | .nm i => [i]
  | .t2 a b => slotsT a ++ slotsT b
  | .t3 a b c => slotsT a ++ slotsT b ++ slotsT c
/-- a test of it is its value's truth -/
def plainH : Expr → Bool
  | .UnaryOp .USub _ _ => true | .UnaryOp _ _ _ => false | .BoolOp _ _ _ => false | .IfExp _ _ _ _ => false | .Compare _ _ _ _ => false | _ => true
def isTupE : Expr → Bool
  | .Tuple _ _ _ => true | _ => false
def ownN (C : Ctx) (own : List Nat) : List (Str × Nat) := own.map fun i => (C.N.getD i "", i)
def blkCtx (C : Ctx) (scope : Scope) : Ctx := ⟨C.N, relS scope C.sc, fun x => scope.names.lookup x == some .cell⟩

mutual
def chkE (T : Top) : Ctx → Mini.E → Expr → Bool
  | C, .var i, x => match x with
    | .Name id _ => varB C i id
    | _ => false
  | C, .cst nm d, x => match x with
    | .Name id _ => glB C.sc id && (id.cps.toList == nm) && T.consts.any (fun p => (p.1 == id) && deq p.2 d)
    | _ => false
  | C, .lit d, x => match x with
    | .Constant c _ _ => litB d c
    | _ => false
  | C, .bin op a b, x => match x with
    | .BinOp u o v _ => opB o (opOf op) && chkE T C a u && chkE T C b v
    | _ => false
  | C, .neg a, x => match x with
    | .UnaryOp .USub u _ => chkE T C a u
    | _ => false
  | C, .not a, x => match x with
    | .UnaryOp .Not u _ => chkE T C a u
    | _ => false
  | C, .and a b, x => match x with
    | .BoolOp .And [u, v] _ => chkE T C a u && chkE T C b v
    | .BoolOp .And (u :: v :: w :: r) p => chkE T C a u && chkE T C b (.BoolOp .And (v :: w :: r) p)
    | _ => false
  | C, .or a b, x => match x with
    | .BoolOp .Or [u, v] _ => chkE T C a u && chkE T C b v
    | .BoolOp .Or (u :: v :: w :: r) p => chkE T C a u && chkE T C b (.BoolOp .Or (v :: w :: r) p)
    | _ => false
  | C, .ife t a b, x => match x with
    | .IfExp c u v _ => chkE T C t c && chkE T C a u && chkE T C b v
    | _ => false
  | C, .cmp op a b, x => match x with
    | .Compare u [o] [v] _ => copB o (copOf op) && !(behindInMarks o v) && chkE T C a u && chkE T C b v
    | _ => false
  | C, .chn o o' a b c, x => match x with
    | .Compare u [p, p'] [v, w] _ => copB p (copOf o) && copB p' (copOf o') && !(lastMarks [p, p'] [v, w]) && chkE T C a u && chkE T C b v && chkE T C c w
    | _ => false
  | C, .tup es, x => match x with
    | .Tuple xs _ _ => chkAs T C es xs
    | _ => false
  | C, .ix a i, x => match x with
    | .Subscript u v _ => plainB v && chkE T C a u && chkE T C i v
    | _ => false
  | C, .sl a lo hi, x => match x with
    | .Subscript u (.Slice p q none _) _ => chkE T C a u && chkP T C lo p && chkP T C hi q
    | _ => false
  | C, .call f es, x => match x with
    | .Call (.Name id _) xs [] _ => decide (T.names[f]? = some id) && glB C.sc id && xs.all notStar && chkAs T C es xs
    | _ => false
  | C, .bi b es, x => match x with
    | .Call (.Name id _) (u :: xs) [] _ => (id == biName b) && glB C.sc id && (u :: xs).all notStar && chkAs T C es (u :: xs)
    | _ => false
  | C, .isi a ts, x => match x with
    | .Call (.Name id _) [u, .Name t _] [] _ => (id == ("isinstance" : Str)) && glB C.sc id && notStar u && chkE T C a u && tysB C.sc ts [.Name t ⟨0, 0, 0, 0⟩]
    | .Call (.Name id _) [u, .Tuple ys _ _] [] _ => (id == ("isinstance" : Str)) && glB C.sc id && notStar u && chkE T C a u && tysB C.sc ts ys && decide (ts.length ≤ 6)
    | _ => false
  | C, .fr o, x => plainH x && chkO T C o x
  | C, .oix i a, x => match x with
    | .Subscript (.Name id _) v _ => varB C i id && plainB v && chkE T C a v
    | _ => false
  | C, .olen i, x => match x with
    | .Call (.Name f _) [.Name id _] [] _ => (f == ("len" : Str)) && glB C.sc f && varB C i id
    | _ => false
  | C, .otup i, x => match x with
    | .Call (.Name f _) [.Name id _] [] _ => (f == ("tuple" : Str)) && glB C.sc f && varB C i id
    | _ => false
  | C, .calO f o, x => match x with
    | .Call (.Name id _) [u] [] _ => decide (T.names[f]? = some id) && glB C.sc id && notStar u && chkO T C o u
    | _ => false
  | C, .mind a, x => match x with
    | .Call (.Name id _) [u] [⟨some k, .Constant .none _ _, _⟩] _ => (id == ("min" : Str)) && glB C.sc id && (k == ("default" : Str)) && notStar u && chkE T C a u
    | _ => false
def chkAs (T : Top) : Ctx → Mini.As → List Expr → Bool
  | _, .nil, xs => xs.isEmpty
  | C, .e a r, xs => match xs with
    | x :: xs => notStar x && chkE T C a x && chkAs T C r xs
    | _ => false
  | C, .st a r, xs => match xs with
    | .Starred x _ :: xs => chkE T C a x && chkAs T C r xs
    | _ => false
  | C, .ln i r, xs => match xs with
    | .Name id _ :: xs => varB C i id && chkAs T C r xs
    | _ => false
def chkP (T : Top) : Ctx → Mini.Pt → Option Expr → Bool
  | _, .no, x => x.isNone
  | C, .so a, x => match x with
    | some x => chkE T C a x
    | none => false
def chkO (T : Top) : Ctx → Mini.O → Expr → Bool
  | C, .dis es, x => match x with
    | .List xs _ => chkAs T C es xs
    | _ => false
  | C, .lc elt t own it f, x => match x with
    | .ListComp el [⟨tg, iter, ifs, 0⟩] scope _ => blkC C.N C.sc scope (ownN C own) && chkI T C it tg iter && notSet iter && chkT (blkCtx C scope) t tg && (slotsT t).all (own.contains ·) && chkE T (blkCtx C scope) elt el && (match ifs with
        | [] => chkP T (blkCtx C scope) f none
        | [y] => chkP T (blkCtx C scope) f (some y)
        | _ => false)
    | _ => false
  | C, .lis a, x => match x with
    | .Call (.Name f _) [u] [] _ => (f == ("list" : Str)) && glB C.sc f && notStar u && chkE T C a u
    | _ => false
  | C, .cat a b, x => match x with
    | .BinOp u .Add v _ => chkO T C a u && chkO T C b v
    | _ => false
  | C, .rep a b, x => match x with
    | .BinOp u .Mult v _ => chkO T C a u && chkE T C b v
    | _ => false
  | C, .sl a lo hi, x => match x with
    | .Subscript u (.Slice p q none _) _ => chkE T C a u && chkP T C lo p && chkP T C hi q
    | _ => false
  | C, .osl i lo hi, x => match x with
    | .Subscript (.Name id _) (.Slice p q none _) _ => varB C i id && chkP T C lo p && chkP T C hi q
    | _ => false
  | C, .call f es, x => match x with
    | .Call (.Name id _) xs [] _ => decide (T.names[f]? = some id) && glB C.sc id && xs.all notStar && chkAs T C es xs
    | _ => false
  | C, .mv i, x => match x with
    | .Name id _ => varB C i id
    | _ => false
  | C, .orr a b, x => match x with
    | .BoolOp .Or [u, v] _ => chkO T C a u && chkO T C b v
    | _ => false
  | C, .sst a, x => match x with
    | .Call (.Name f _) [.Call (.Name g _) [u] [] _] [] _ => (f == ("sorted" : Str)) && glB C.sc f && (g == ("set" : Str)) && glB C.sc g && notStar u && chkE T C a u
    | _ => false
  | C, .srt a, x => match x with
    | .Call (.Name f _) [u] [] _ => (f == ("sorted" : Str)) && glB C.sc f && notStar u && chkE T C a u
    | _ => false
def chkI (T : Top) : Ctx → Mini.I → Expr → Expr → Bool
  | C, .it a, _, x => chkE T C a x
  | C, .r1 a, _, x => match x with
    | .Call (.Name f _) [u] [] _ => (f == ("range" : Str)) && glB C.sc f && notStar u && chkE T C a u
    | _ => false
  | C, .r2 a b, _, x => match x with
    | .Call (.Name f _) [u, v] [] _ => (f == ("range" : Str)) && glB C.sc f && notStar u && notStar v && chkE T C a u && chkE T C b v
    | _ => false
  | C, .en a, tg, x => match x with
    | .Call (.Name f _) [u] [] _ => (f == ("enumerate" : Str)) && glB C.sc f && notStar u && isTupE tg && chkE T C a u
    | _ => false
  | C, .zp a b, tg, x => match x with
    | .Call (.Name f _) [u, v] [] _ => (f == ("zip" : Str)) && glB C.sc f && notStar u && notStar v && isTupE tg && chkE T C a u && chkE T C b v
    | _ => false
end

/-! ### statements -/
def isLC : Expr → Bool
  | .ListComp _ _ _ _ => true | .SetComp _ _ _ _ => true | .DictComp _ _ _ _ _ => true | _ => false
def isCallE : Expr → Bool
  | .Call _ _ _ _ => true | _ => false
/-- names on the line of the first one, locals -/
def parB (C : Ctx) (i : Nat) (l : Nat) : Expr → Bool
  | .Name id p => decide (C.N[i]? = some id) && (match C.sc.names.lookup id with | some .local => true | _ => false) && p.line == l
  | _ => false
def lineOf : Expr → Nat
  | .Name _ p => p.line
  | _ => 0
def parsB (es : List Expr) : Bool := es.all notStar && !(es.all (foldedForSure 8)) && !(es.all (constantsAlone 8))
/-- x = [.. for ..] that is stored from within -/
def swapB (C : Ctx) (i : Nat) (id : Str) (p : Pos) : Expr → Bool
  | .ListComp _ [⟨_, _, _, 0⟩] scope q => (match C.sc.names.lookup id with | some .local => true | _ => false) && p.line == q.line && !(scope.names.any fun (n, k) => n == id && (k == .local || k == .cell))
  | _ => false
/-- some name of a tuple is kept for a comprehension: no swapped stores -/
def cellN (C : Ctx) : Expr → Bool
  | .Name id _ => C.sc.names.lookup id == some .cell
  | _ => false
def cellT (C : Ctx) : Expr → Bool
  | .Tuple ts _ _ => ts.any (cellN C)
  | _ => false
mutual
def chkS (T : Top) : Ctx → Mini.S → Stmt → Bool
  | C, .asg t a, x => match x with
    | .Assign [tg] e _ => chkT C t tg && !(isLC e) && !(isTupE tg && isTupE e && !(cellT C tg)) && chkE T C a e
    | _ => false
  | C, .par2 i j a b, x => match x with
    | .Assign [.Tuple [u, v] _ _] (.Tuple [y, z] _ _) _ => parB C i (lineOf u) u && parB C j (lineOf u) v && decide (i ≠ j) && parsB [y, z] && chkE T C a y && chkE T C b z
    | _ => false
  | C, .par3 i j k a b c, x => match x with
    | .Assign [.Tuple [u, v, w] _ _] (.Tuple [y, z, q] _ _) _ => parB C i (lineOf u) u && parB C j (lineOf u) v && parB C k (lineOf u) w && decide (i ≠ j) && decide (i ≠ k) && decide (j ≠ k) && parsB [y, z, q] && chkE T C a y && chkE T C b z && chkE T C c q
    | _ => false
  | C, .own i o, x => match x with
    | .Assign [.Name id p] e q => storeB C i id && (swapB C i id p e || !(isLC e)) && chkO T C o e
    | _ => false
  | C, .app i a, x => match x with
    | .Expr (.Call (.Attribute (.Name id _) m ap) [u] [] cp) _ => (m == ("append" : Str)) && (ap.endLine == cp.line) && varB C i id && notStar u && chkE T C a u
    | _ => false
  | C, .set i k a, x => match x with
    | .Assign [.Subscript (.Name id _) u _] e _ => varB C i id && plainB u && !(isLC e) && chkE T C k u && chkE T C a e
    | _ => false
  | C, .exp a, x => match x with
    | .Expr e _ => isCallE e && chkE T C a e
    | _ => false
  | C, .ret a, x => match x with
    | .Return (some e) _ => chkE T C a e
    | _ => false
  | C, .retO o, x => match x with
    | .Return (some e) _ => chkO T C o e
    | _ => false
  | C, .ife t a b, x => match x with
    | .If c u v _ => chkE T C t c && chkSs T C a u && chkSs T C b v
    | _ => false
  | C, .whl t b, x => match x with
    | .While c u [] _ => chkE T C t c && chkSs T C b u
    | _ => false
  | C, .for_ t it b, x => match x with
    | .For tg iter u [] _ => chkT C t tg && chkI T C it tg iter && notSet iter && chkSs T C b u
    | _ => false
  | _, .never, _ => true
  | _, .frz _, _ => false
def chkSs (T : Top) : Ctx → Mini.Ss → List Stmt → Bool
  | _, .nil, xs => xs.isEmpty
  | C, .cons s r, xs => match s with
    | .frz _ => chkSs T C r xs
    | _ => match xs with
      | x :: xs => chkS T C s x && chkSs T C r xs
      | [] => false
end
end MS

set_option Elab.async false
set_option linter.all false
set_option maxRecDepth 100000
set_option maxHeartbeats 4000000
/-! SoundT0: a tuple times 1. -/
namespace MS
open PySem PySem.Spec PyProof.Rows L2
open Sem (wp)
/-! ### a tuple times 1 -/
theorem tup_mul_one (l : Addr) (items : Array Value) (n : Nat) (dd : Option Addr) (sl : Array (Option Value)) (u : Tok) :
    Meets (Builtin.«tuple.__mul__» ⟨[.ref l, .int 1 u], []⟩) (fun _ R s => s.heap.get? l = some { cls := .type "tuple", dict := dd, data := .seq items n, slots := sl } ∧ R (.ok (.ret (Value.ref l))) s) :=
  .of_wp fun prog w A R s h => by
    obtain ⟨hp, g, d, tk, os⟩ := s
    obtain ⟨hl, h⟩ := h
    have f1 := AutoSeq1.idx_int
    have c1 : (items.isEmpty || (1 : Int) == 1) = true := by simp
    wp_walk using wpAny_loadPart' hl
    exact ⟨_, rfl, h⟩
def rRep1 (K : Frag) : R2 := fun x y H Q => ∃ l xs, x = .ref l ∧ y = .int 1 ∧ SqT K H l xs ∧ Q (.ref l) H
theorem op_rep1 {X : Cx} : OpR X (binaryOp .Mult) (rRep1 X.K) := by
  intro pins s σ H x y v u Q I rx ry h
  obtain ⟨l, xs, rfl, rfl, hT, q⟩ := h
  cases rx
  obtain ⟨t, rfl⟩ := ry
  obtain ⟨its, r, ⟨⟨cls, dd, data, sl⟩, ho, hc, n, hd⟩, hs⟩ := I.tuple hT
  simp only at hc hd
  subst hc hd
  refine wpAny_binaryOp_repeat_ref (T := "tuple") (U := "int") (by decide) ⟨_, ho, rfl⟩ (fun s' => typeIs_int s' 1 t) noFill_tuple_mul F.fills_int_mul F.slot_int_rmul repeat_tuple F.slot_int_index.lookup
    (call_meets F.slot_int_rmul (typeIs_int s 1 t) F.entry_int_rmul (F.args_int_rmul_2 _ _) (int_rmul_tuple 1 t l its.toArray n dd sl) ⟨ho, rfl, ⟨_, ho, rfl⟩, ?_⟩)
  refine call_meets F.slot_tuple_mul ⟨_, ho, rfl⟩ F.entry_tuple_mul (F.args_tuple_mul_2 _ _) (tup_mul_one l its.toArray n dd sl t) ⟨ho, ?_⟩
  exact ⟨.ref l, H, I, rfl, q⟩
end MS

set_option Elab.async false
set_option linter.all false
set_option maxRecDepth 100000
set_option maxHeartbeats 4000000
/-! SoundC: the operations of the mini language are Python's. -/
namespace MS
open PySem PySem.Spec PyProof.Rows L2

/-! ### the widest readings -/
def wE (X : Cx) (e : Expr) : TE := fun σ H Q => ∀ (pins : List (Addr × Obj)) (s : Shared), Inv X pins σ H s → wpAny (model X.prog X.w) X.A (eval e X.env) (EP X pins σ Q) X.xe s
theorem pw (X : Cx) (e : Expr) : PE X e (wE X e) := ⟨fun pins s _ _ _ I h => h pins s I⟩
theorem pe_w {X : Cx} {e : Expr} {t : TE} (h : PE X e t) {σ : L2.St} {H : Hp} {Q : VK} (q : t σ H Q) : wE X e σ H Q := fun pins s I => h.run pins s σ H Q I q
def wT (X : Cx) (e : Expr) : TT := fun σ H Q => ∀ (pins : List (Addr × Obj)) (s : Shared), Inv X pins σ H s → wpAny (model X.prog X.w) X.A (isTrue e X.env (eval e X.env)) (TP X pins σ Q) X.xe s
theorem pwT (X : Cx) (e : Expr) : PT X e (wT X e) := ⟨fun pins s _ _ _ I h => h pins s I⟩
theorem pt_w {X : Cx} {e : Expr} {t : TT} (h : PT X e t) {σ : L2.St} {H : Hp} {Q : Bool → Hp → Prop} (q : t σ H Q) : wT X e σ H Q := fun pins s I => h.run pins s σ H Q I q
def wA (X : Cx) (es : List Expr) : TA := fun σ H Q => ∀ (pos : Pos) (pins : List (Addr × Obj)) (s : Shared), Inv X pins σ H s → wpAny (model X.prog X.w) X.A (spliced (backTo pos (starEach es X.env))) (AP X pins σ Q) X.xe s
theorem pwA (X : Cx) (es : List Expr) : PA X es (wA X es) := ⟨fun pos pins s _ _ _ I h => h pos pins s I⟩
theorem pa_w {X : Cx} {es : List Expr} {t : TA} (h : PA X es t) {σ : L2.St} {H : Hp} {Q : List V → Hp → Prop} (q : t σ H Q) : wA X es σ H Q := fun pos pins s I => h.run pos pins s σ H Q I q
def wPt (X : Cx) (e : Option Expr) : TO := fun σ H Q => match e with
  | none => Q none H
  | some e => wE X e σ H fun x H1 => ∃ i, x = .int i ∧ Q (some i) H1
theorem pwPt (X : Cx) : ∀ e : Option Expr, PO X e (wPt X e)
  | none => po_none
  | some e => po_some (pw X e)
def wS (X : Cx) (e : Stmt) : TS := fun D σ H => ∀ (pins : List (Addr × Obj)) (s : Shared), Inv X pins σ H s → wpAny (model X.prog X.w) X.A (exec e X.env) (SP X pins D) X.xe s
theorem pwS (X : Cx) (e : Stmt) : PS X e (wS X e) := ⟨fun pins s _ _ _ I h => h pins s I⟩
theorem ps_w {X : Cx} {e : Stmt} {t : TS} (h : PS X e t) {σ : L2.St} {H : Hp} {D : Ends} (q : t D σ H) : wS X e D σ H := fun pins s I => h.run pins s σ H D I q
def wSs (X : Cx) (e : List Stmt) : TS := fun D σ H => ∀ (pins : List (Addr × Obj)) (s : Shared), Inv X pins σ H s → wpAny (model X.prog X.w) X.A (execs e X.env) (SP X pins D) X.xe s
theorem pwSs (X : Cx) (e : List Stmt) : PSs X e (wSs X e) := ⟨fun pins s _ _ _ I h => h pins s I⟩
theorem pss_w {X : Cx} {e : List Stmt} {t : TS} (h : PSs X e t) {σ : L2.St} {H : Hp} {D : Ends} (q : t D σ H) : wSs X e D σ H := fun pins s I => h.run pins s σ H D I q

/-- sizes -/
theorem most_line : Mini.most ≤ sizeLine := by rw [sizeLine_eq]; decide
theorem le_line {n : Nat} (h : n ≤ Mini.most) : n ≤ sizeLine := Nat.le_trans h most_line
theorem lt_line {n : Nat} (h : n < Mini.most) : n < sizeLine := Nat.lt_of_lt_of_le h most_line
theorem str_len (s : List Nat) : (⟨s.toArray⟩ : Str).length = s.length := by simp [Str.length]

/-! ### two-place operations -/
/-- a two-place operation that hands back data d, from data dx, dy -/
def Op2 (X : Cx) (f : Value → Value → Sem Value) (dx dy d : Da) : Prop := ∃ r : R2, OpR X f r ∧ ∀ (G H : Hp) (x y : V), Same G H → IsD X.K G x dx → IsD X.K G y dy → ∀ Q : VK, (∀ v G' H', Gr G H G' H' → IsD X.K G' v d → Q v H') → r x y H Q

section
variable {X : Cx}
theorem op2_int {f : Value → Value → Sem Value} {C : Int → Int → Prop} {g : Int → Int → V} {i j : Int} {d : Da} (h : OpR X f (rI C g)) (hc : C i j) (hd : ∀ G, IsD X.K G (g i j) d) : Op2 X f (.int i) (.int j) d :=
  ⟨_, h, fun G H x y s hx hy Q q => by
    cases hx; cases hy
    exact ⟨i, j, rfl, rfl, hc, q _ G H (Gr.refl s) (hd G)⟩⟩
theorem op2_int0 {f : Value → Value → Sem Value} {g : Int → Int → V} {i j : Int} {d : Da} (h : OpR X f (rI0 g)) (hd : ∀ G, IsD X.K G (g i j) d) : Op2 X f (.int i) (.int j) d :=
  ⟨_, h, fun G H x y s hx hy Q q => by
    cases hx; cases hy
    exact ⟨i, j, rfl, rfl, q _ G H (Gr.refl s) (hd G)⟩⟩
theorem sm_of {i : Int} (h : Mini.sm i = true) : -(2 ^ 64) < i ∧ i < 2 ^ 64 := of_decide_eq_true h
/-- a * b of any two ints that stay below a million bits together, or one of them small -/
def CMulA (i j : Int) : Prop := CMul i j ∨ CMulW i j
theorem op_mulA : OpR X (binaryOp .Mult) (rI CMulA fun i j => .int (i * j)) := opI fun _ _ _ _ _ _ _ hc q => mul_int q (hc.elim (·.ok) (·.ok))
theorem mulOk_of {i j : Int} (h : Mini.mulOk i j = true) : CMulA i j := by
  unfold Mini.mulOk at h
  rw [Bool.or_eq_true, Bool.or_eq_true] at h
  rcases h with (h | h) | h
  · exact .inl (.inl (sm_of h))
  · exact .inl (.inr (sm_of h))
  · have h' : i.natAbs.log2 + j.natAbs.log2 < 1000000 := of_decide_eq_true h
    exact .inr h'
def CDivA (i j : Int) : Prop := CDivN i j ∨ CDivW i j
theorem op_fdivA : OpR X (binaryOp .FloorDiv) (rI CDivA fun i j => .int (i.fdiv j)) := opI fun i j _ _ _ _ _ hc q => by
  rcases hc with hc | hc
  · exact floordiv_int hc.1 q (.inl (PyProof.noPylong_small hc.2))
  · have h1 : (0 : Int) < j := hc.1
    exact floordiv_int (by omega) q (.inl (PyProof.noPylong_of_log2 hc.2))
theorem divOk_of {i j : Int} (h : Mini.divOk j = true) : CDivA i j := by
  unfold Mini.divOk at h
  rw [Bool.or_eq_true] at h
  rcases h with h | h
  · rw [Bool.and_eq_true] at h
    exact .inl ⟨of_decide_eq_true h.1, of_decide_eq_true h.2⟩
  · rw [Bool.and_eq_true] at h
    exact .inr ⟨of_decide_eq_true h.1, of_decide_eq_true h.2⟩
theorem op2_bin (op : Mini.Op) : ∀ {dx dy d : Da}, Mini.opF op dx dy = some d → Op2 X (binaryOp (opOf op)) dx dy d := by
  intro dx dy d h
  unfold Mini.opF at h
  split at h
  · cases h; exact op2_int0 op_add fun G => .int _
  · cases h; exact op2_int0 op_sub fun G => .int _
  · split at h
    · rename_i hc; cases h; exact op2_int op_mulA (mulOk_of hc) fun G => .int _
    · cases h
  · split at h
    · rename_i hc; cases h; exact op2_int op_fdivA (divOk_of hc) fun G => .int _
    · cases h
  · split at h
    · rename_i hc; cases h; exact op2_int op_modN hc fun G => .int _
    · cases h
  · split at h
    · rename_i hc
      cases h
      unfold Mini.powOk at hc
      rw [Bool.and_eq_true, Bool.and_eq_true] at hc
      exact op2_int op_pow ⟨of_decide_eq_true hc.1.1, of_decide_eq_true hc.1.2, of_decide_eq_true hc.2⟩ fun G => .int _
    · cases h
  · rename_i s t
    split at h
    · rename_i hc
      cases h
      refine ⟨_, op_add_str, fun G H x y sm hx hy Q q => ?_⟩
      cases hx; cases hy
      refine ⟨_, _, rfl, rfl, by rw [str_len, str_len]; exact le_line hc, q _ G H (Gr.refl sm) ?_⟩
      have e : (⟨s.toArray⟩ : Str) ++ ⟨t.toArray⟩ = ⟨(s ++ t).toArray⟩ := by
        show Str.append _ _ = _
        unfold Str.append
        simp
      rw [e]
      exact .str _
    · cases h
  · rename_i s t
    split at h
    · rename_i hc
      cases h
      refine ⟨_, op_catA, fun G H x y sm hx hy Q q => ?_⟩
      cases hx with
      | @tup a vs _ ta da =>
        cases hy with
        | @tup b us _ tb db =>
          refine ⟨a, b, vs, us, rfl, rfl, Same.tup sm ta, Same.tup sm tb, by rw [da.length, db.length]; exact le_line hc, fun e => ?_, fun _ e => ?_, fun _ _ p hp => ?_⟩
          · subst e
            cases da
            exact q _ G H (Gr.refl sm) (.tup tb db)
          · subst e
            cases db
            rw [List.append_nil] at q
            exact q _ G H (Gr.refl sm) (.tup ta da)
          · have g := Gr.new (o := .tup (vs ++ us)) sm hp
            exact q _ _ _ g (.tup (SqT.of upd_same) ((da.append db).mono g.g))
    · cases h
  · rename_i s k
    split at h
    · rename_i hc
      cases h
      obtain ⟨c1, c2, c3, c4⟩ := hc
      by_cases k1 : k = 1
      · subst k1
        refine ⟨_, op_rep1, fun G H x y sm hx hy Q q => ?_⟩
        cases hy
        cases hx with
        | @tup a vs _ ta da =>
          refine ⟨a, vs, rfl, rfl, Same.tup sm ta, ?_⟩
          have e : (List.replicate (1 : Int).toNat s).flatten = s := by simp
          rw [e] at q
          exact q _ G H (Gr.refl sm) (.tup ta da)
      · refine ⟨_, op_repT, fun G H x y sm hx hy Q q => ?_⟩
        cases hy
        cases hx with
        | @tup a vs _ ta da =>
          have hl := da.length
          refine ⟨a, k, vs, rfl, rfl, Same.tup sm ta, fun e => by rw [e] at hl; simp at hl; omega, by omega, c4, by omega, fun p hp => ?_⟩
          have g := Gr.new (o := .tup (List.replicate k.toNat vs).flatten) sm hp
          exact q _ _ _ g (.tup (SqT.of upd_same) ((da.rep k.toNat).mono g.g))
    · cases h
  · cases h

/-! ### comparisons -/
def rInDT (K : PySem.W.Frag) (neg : Bool) : R2 := fun x y H Q => ∃ d ds, Dp K H x d ∧ Dp K H y (.tuple ds) ∧ SeqAt.shaped d = true ∧ SeqAt.shaped (.list ds) = true ∧ Q (.bl (if neg then (!ds.any fun z => PyData.eqv z d) else ds.any fun z => PyData.eqv z d)) H
theorem canLay_list {ds : List PyData} (h : SeqAt.shaped (.list ds) = true) : PyData.canLayAll0 ds = true := by
  have := SeqAt.canLay_of_shaped h
  simpa [PyData.canLay0] using this
theorem op_inDT (hu : X.A.units + 65 < cLine) : OpR X (compareOp .In) (rInDT X.K false) := by
  intro pins s σ H x y v u Q I rx ry h
  obtain ⟨d, ds, hd, he, sd, se, q⟩ := h
  obtain ⟨as, r1⟩ := Dp.reads I d x v hd rx
  obtain ⟨bs, r2⟩ := Dp.reads I (.tuple ds) y u he ry
  exact SeqAt.in_tuple_reads r2 r1 (canLay_list se) (SeqAt.canLay_of_shaped sd) (room_in_shaped sd hu) ⟨.bl _, H, I, rfl, q⟩
theorem op_notInDT (hu : X.A.units + 65 < cLine) : OpR X (compareOp .NotIn) (rInDT X.K true) := by
  intro pins s σ H x y v u Q I rx ry h
  obtain ⟨d, ds, hd, he, sd, se, q⟩ := h
  obtain ⟨as, r1⟩ := Dp.reads I d x v hd rx
  obtain ⟨bs, r2⟩ := Dp.reads I (.tuple ds) y u he ry
  exact SeqAt.notIn_tuple_reads r2 r1 (canLay_list se) (SeqAt.canLay_of_shaped sd) (room_in_shaped sd hu) ⟨.bl _, H, I, rfl, q⟩
theorem any_pyL (d : Da) : ∀ l : List Da, (pyL l).any (fun z => PyData.eqv z (py d)) = l.any fun y => Mini.eqv y d
  | [] => rfl
  | x :: r => by rw [pyL, List.any_cons, List.any_cons, eqv_py, any_pyL d r]
theorem op2_in (hu : X.A.units + 65 < cLine) : ∀ {dx dy : Da} {c : Bool}, Mini.inF dx dy = some c → Op2 X (compareOp .In) dx dy (.bl c) := by
  intro dx dy c h
  unfold Mini.inF at h
  split at h
  · rename_i l
    split at h
    · rename_i hc
      cases h
      rw [Bool.and_eq_true] at hc
      refine ⟨_, op_inDT hu, fun G H u v sm hx hy Q q => ⟨py dx, pyL l, (hx.mono sm).dp, (hy.mono sm).dp, shaped_py hc.1, shapedL_py hc.2, ?_⟩⟩
      rw [if_neg Bool.false_ne_true, any_pyL]
      exact q _ G H (Gr.refl sm) (.bl _)
    · cases h
  · rename_i l
    split at h
    · rename_i hc
      cases h
      rw [Bool.and_eq_true] at hc
      refine ⟨_, op_inD hu, fun G H u v sm hx hy Q q => ⟨py dx, pyL l, (hx.mono sm).dp, (hy.mono sm).dp, shaped_py hc.1, shapedL_py hc.2, ?_⟩⟩
      rw [any_pyL]
      exact q _ G H (Gr.refl sm) (.bl _)
    · cases h
  · rename_i t
    split at h
    · rename_i c
      cases h
      refine ⟨_, op_in_sign, fun G H u v sm hx hy Q q => ?_⟩
      cases hx
      cases hy
      refine ⟨c, ⟨t.toArray⟩, rfl, rfl, ?_⟩
      have e : decide (c ∈ (⟨t.toArray⟩ : Str).cps.toList) = t.contains c := by simp
      rw [e]
      exact q _ G H (Gr.refl sm) (.bl _)
    · cases h
  · cases h
theorem op2_nin (hu : X.A.units + 65 < cLine) : ∀ {dx dy : Da} {c : Bool}, Mini.inF dx dy = some c → Op2 X (compareOp .NotIn) dx dy (.bl (!c)) := by
  intro dx dy c h
  unfold Mini.inF at h
  split at h
  · rename_i l
    split at h
    · rename_i hc
      cases h
      rw [Bool.and_eq_true] at hc
      refine ⟨_, op_notInDT hu, fun G H u v sm hx hy Q q => ⟨py dx, pyL l, (hx.mono sm).dp, (hy.mono sm).dp, shaped_py hc.1, shapedL_py hc.2, ?_⟩⟩
      rw [if_pos rfl, any_pyL]
      exact q _ G H (Gr.refl sm) (.bl _)
    · cases h
  · rename_i l
    split at h
    · rename_i hc
      cases h
      rw [Bool.and_eq_true] at hc
      refine ⟨_, op_notInD hu, fun G H u v sm hx hy Q q => ⟨py dx, pyL l, (hx.mono sm).dp, (hy.mono sm).dp, shaped_py hc.1, shapedL_py hc.2, ?_⟩⟩
      rw [any_pyL]
      exact q _ G H (Gr.refl sm) (.bl _)
    · cases h
  · rename_i t
    split at h
    · rename_i c
      cases h
      refine ⟨_, op_notIn_sign, fun G H u v sm hx hy Q q => ?_⟩
      cases hx
      cases hy
      refine ⟨c, ⟨t.toArray⟩, rfl, rfl, ?_⟩
      have e : decide (c ∈ (⟨t.toArray⟩ : Str).cps.toList) = t.contains c := by simp
      rw [e]
      exact q _ G H (Gr.refl sm) (.bl _)
    · cases h
  · cases h
theorem op2_cmp (hu : X.A.units + 65 < cLine) (op : Mini.Cop) : ∀ {dx dy : Da} {c : Bool}, Mini.cmpF op dx dy = some c → Op2 X (compareOp (copOf op)) dx dy (.bl c) := by
  intro dx dy c h
  unfold Mini.cmpF at h
  split at h
  · cases h; exact op2_int0 op_lt fun G => .bl _
  · cases h; exact op2_int0 op_le fun G => .bl _
  · cases h; exact op2_int0 op_gt fun G => .bl _
  · cases h; exact op2_int0 op_ge fun G => .bl _
  · split at h
    · rename_i hc
      cases h
      rw [Bool.and_eq_true] at hc
      refine ⟨_, op_eqD (by omega), fun G H u v sm hx hy Q q => ⟨py dx, py dy, (hx.mono sm).dp, (hy.mono sm).dp, shaped_py hc.1, shaped_py hc.2, ?_⟩⟩
      rw [eqv_py]
      exact q _ G H (Gr.refl sm) (.bl _)
    · cases h
  · split at h
    · rename_i hc
      cases h
      rw [Bool.and_eq_true] at hc
      refine ⟨_, op_neD (by omega), fun G H u v sm hx hy Q q => ⟨py dx, py dy, (hx.mono sm).dp, (hy.mono sm).dp, shaped_py hc.1, shaped_py hc.2, ?_⟩⟩
      rw [eqv_py]
      exact q _ G H (Gr.refl sm) (.bl _)
    · cases h
  · cases h
    refine ⟨_, op_isN, fun G H u v sm hx hy Q q => ?_⟩
    cases hy
    refine ⟨rfl, ?_⟩
    have g := q _ G H (Gr.refl sm) (.bl _)
    cases hx <;> exact g
  · cases h
    refine ⟨_, op_notN, fun G H u v sm hx hy Q q => ?_⟩
    cases hy
    refine ⟨rfl, ?_⟩
    have g := q _ G H (Gr.refl sm) (.bl _)
    cases hx <;> exact g
  · exact op2_in hu h
  · rw [Option.map_eq_some_iff] at h
    obtain ⟨b, hb, rfl⟩ := h
    exact op2_nin hu hb
  · cases h

/-! ### truth -/
theorem truth_of {K : Frag} {H : Hp} {d : Da} {v : V} {b : Bool} (h : Mini.truth d = some b) (hv : IsD K H v d) : TruV K v H b := by
  cases hv with
  | non => cases h; rfl
  | bl c => cases h; rfl
  | int i => cases h; rfl
  | str s =>
    rw [Mini.truth] at h
    split at h
    · rename_i hc
      cases h
      refine ⟨by rw [str_len]; exact le_line hc, ?_⟩
      rw [str_len]
      cases s <;> simp
      omega
    · cases h
  | tup t d =>
    cases h
    refine .inr (.inl ⟨_, t, ?_⟩)
    cases d <;> rfl
  | lst t d =>
    cases h
    refine .inl ⟨_, t, ?_⟩
    cases d <;> rfl
end
end MS

set_option Elab.async false
set_option linter.all false
set_option maxRecDepth 100000
set_option maxHeartbeats 4000000
/-! SoundT: built-ins over tuples. -/
namespace MS
open PySem PySem.Spec PyProof.Rows L2
section
variable {prog : Program} {w : World} {A : Around} {E : Value → Shared → Prop} {s : Shared} {l : Addr} {xs : Array (Int × Tok)}
theorem sum_tupG {Q : Value → Shared → Prop} (hh : A.handled = none) (hl : s.heap.IsTuple l (intItems xs))
    (h : ∀ h' tk t', (∀ b o, s.heap.get? b = some o → h'.get? b = some o) → Q (.int (preSum (numAt xs) xs.size) t') { s with heap := h', toks := tk }) :
    wpAny (model prog w) A (call (.builtin "sum") [.ref l]) Q E s := by
  have hlt : l < s.heap.objs.size := by obtain ⟨_, e, _⟩ := hl; exact Heap.lt_size e
  refine call_sum_walkG (wpAny_pyIter_tuple hl ?_)
  refine ⟨_, [s.heap.objs.size, l], [s.heap.objs.size], _, _, _, numAt xs, rfl, Walks.tuple (A := A.in1) hh _ l (Nat.ne_of_lt hlt) (intItems xs), ⟨⟨_, Heap.get?_push_size _ rfl, rfl, rfl⟩, ?_⟩, fun b hb => ?_, (fun _ _ => intItems_at), fun h' tk t' hk => ?_⟩
  · obtain ⟨o, e, r⟩ := hl
    exact ⟨o, Heap.get?_push_of_some _ e, r⟩
  · show b < (s.heap.push _).objs.size
    rw [Heap.size_push]
    rcases List.mem_cons.mp hb with rfl | hb
    · exact Nat.lt_succ_self _
    · rcases List.mem_cons.mp hb with rfl | hb
      · exact Nat.lt_succ_of_lt hlt
      · cases hb
  · have := h h' tk t' fun b o e => hk b o (fun hm => by
      rcases List.mem_cons.mp hm with e1 | hm
      · exact absurd (e1 ▸ Heap.lt_size e) (Nat.lt_irrefl _)
      · cases hm) (Heap.get?_push_of_some _ e)
    simpa [intItems] using this
theorem sum_tupR {its : List Value} {ns : List Int} {Q : Value → Shared → Prop} (hh : A.handled = none) (hl : s.heap.IsTuple l its.toArray) (hi : IntsAre its ns)
    (h : ∀ h' tk t', (∀ b o, s.heap.get? b = some o → h'.get? b = some o) → Q (.int ns.sum t') { s with heap := h', toks := tk }) : wpAny (model prog w) A (call (.builtin "sum") [.ref l]) Q E s := by
  obtain ⟨xs, e⟩ := hi.allInts.items
  have hn : numsOf (intItems xs).toList = ns := by rw [← e]; exact hi.numsOf
  rw [nums_intItems] at hn
  rw [e] at hl
  refine sum_tupG hh hl fun h' tk t' hk => ?_
  have := h h' tk t' hk
  rw [preSum_eq, List.take_of_length_le (by simp), hn]; exact this
end
def rSumT (K : Frag) : List V → Hp → VK → Prop := fun vs H Q => ∃ (a : Addr) (ns : List Int), vs = [V.ref a] ∧ SqT K H a (ns.map V.int) ∧ Q (.int ns.sum) H
theorem cr_sumT {X : Cx} (hc : X.calm = true) : CallR X (.builtin "sum") (rSumT X.K) := by
  intro pins s σ H vs us Q I r h
  obtain ⟨a, ns, rfl, hs, q⟩ := h
  obtain ⟨its, rv, hl, _⟩ := I.tuple hs
  rw [Vals.ref1 r]
  exact sum_tupR (I.ok.hd hc) hl rv.ints fun h' tk t' hk => ⟨.int _, H, I.kept hk, ⟨_, rfl⟩, q⟩
end MS

set_option Elab.async false
set_option linter.all false
set_option maxRecDepth 100000
set_option maxHeartbeats 4000000
/-! SoundT2: enumerate over a tuple. -/
namespace MS
open PySem PySem.Spec PyProof.Rows L2
open Sem (wp)
set_option maxHeartbeats 4000000 in
theorem new_enum_tup (t : Addr) (items : Array Value) : Meets (Builtin.«enumerate.__new__» ⟨[.type "enumerate", .ref t], []⟩) (fun _ R s => s.heap.IsTuple t items ∧
    R (.ok (.ret (.ref (s.heap.push { cls := .type "tuple_iterator", data := .fields #[.ref t, .int 0 0] }).objs.size)))
      { s with heap := (s.heap.push { cls := .type "tuple_iterator", data := .fields #[.ref t, .int 0 0] }).push { cls := .type "enumerate", data := .fields #[.none, .bool false, .ref s.heap.objs.size, rawInt 0, .none, .none] } }) := by
  refine .of_wp fun prog w A R s hs => ?_
  obtain ⟨heap, gens, drawn, toks, os⟩ := s
  obtain ⟨hT, hR⟩ := hs
  have sub := sub_enumerate
  have it : ∀ {A' : Around} {E : Value → Shared → Prop} {Q : Value → Shared → Prop}, Q (.ref heap.objs.size) ⟨heap.push { cls := .type "tuple_iterator", data := .fields #[.ref t, .int 0 0] }, gens, drawn, toks, os⟩ → wpAny (model prog w) A' (pyIter (.ref t)) Q E ⟨heap, gens, drawn, toks, os⟩ := fun q => wpAny_pyIter_tuple hT q
  wp_walk using it
  refine wpAny_stack_any fun st => wpAny_pure ?_
  split
  · rename_i c _ _ _ _ _
    cases (c == Value.type "enumerate") <;> (wp_walk using it; exact ⟨_, rfl, hR⟩)
  · wp_walk using it
    exact ⟨_, rfl, hR⟩
theorem call_enum_tup {prog : Program} {w : World} {A : Around} {E : Value → Shared → Prop} {s : Shared} {t : Addr} {items : Array Value} {Q : Value → Shared → Prop} (hT : s.heap.IsTuple t items)
    (h : ∀ h', IsEnum h' (s.heap.objs.size + 1) s.heap.objs.size 0 .none → h'.IsTupleIter s.heap.objs.size t 0 → (∀ b o, s.heap.get? b = some o → h'.get? b = some o) → Q (.ref (s.heap.objs.size + 1)) { s with heap := h' }) :
    wpAny (model prog w) A (call (.type "enumerate") [.ref t]) Q E s := by
  have sz1 : ∀ o : Obj, (s.heap.push o).objs.size = s.heap.objs.size + 1 := fun o => Heap.size_push ..
  refine callType_new F.called_enumerate (by decide) (F.typeCall_enumerate_1 _) (F.newCall_enumerate_1 _) (fun obj => F.args_object_init_2 obj _) F.entry_enumerate_new (new_enum_tup t items) ⟨hT, ?_⟩
  simp only [sz1]
  have at1 := Heap.get?_push_size (s.heap.push { cls := .type "tuple_iterator", data := .fields #[.ref t, .int 0 0] }) (o := { cls := .type "enumerate", data := .fields #[.none, .bool false, .ref s.heap.objs.size, rawInt 0, .none, .none] }) rfl
  rw [sz1] at at1
  exact ⟨⟨_, at1, rfl⟩, h _ at1 ⟨_, Heap.get?_push_of_some _ (Heap.get?_push_size _ rfl), rfl, rfl⟩ fun b o e => Heap.get?_push_of_some _ (Heap.get?_push_of_some _ e)⟩
/-- the tuple at a, each item in a new pair -/
def IteT (K : Frag) (a : Addr) : It :=
  ⟨fun i H => ∃ (xs : List V) (x : V), SqT K H a xs ∧ xs[i]? = some x, fun i H v H' => ∃ P x, v = .ref P ∧ H P = none ∧ H' = upd H P (.tup [.int (i : Nat), x]) ∧ ∀ xs, SqT K H a xs → xs[i]? = some x, fun i H => ∃ xs : List V, SqT K H a xs ∧ xs.length = i⟩
theorem turn_enumT {P : Program} {w : World} {K : Frag} {elts : List Expr} {kk : Nat} {tpos : Pos} (a e it : Addr) :
    Turn P w K (.Tuple elts kk tpos) (IteT K a) [e, it] e (fun i h => (∃ old, IsEnum h e it ((i : Nat) : Int) old) ∧ h.IsTupleIter it a i ∧ e ≠ it ∧ a ≠ e ∧ a ≠ it) where
  mem := List.mem_cons_self
  obj := fun i h st b hb => by
    obtain ⟨⟨old, he⟩, ⟨o, ho, hc, hd⟩, _⟩ := st
    rcases List.mem_cons.mp hb with rfl | hb
    · exact ⟨_, he, fun v q => nomatch q⟩
    · rcases List.mem_cons.mp hb with rfl | hb
      · exact ⟨o, ho, fun v q => by rw [hd] at q; cases q⟩
      · cases hb
  keep := fun i h h' st k => by
    obtain ⟨⟨old, he⟩, hi, r⟩ := st
    exact ⟨⟨old, k e (by simp) _ he⟩, hi.at fun o q => k it (by simp) o q, r⟩
  item := by
    intro X hP hw hK hc i pins s σ H E I hf st hg
    subst hP hw hK
    obtain ⟨⟨old, he⟩, hit, hne, hae, hai⟩ := st
    obtain ⟨xs, x, hq, hx⟩ := hg
    obtain ⟨its, rv, p, hz⟩ := I.tuple hq
    obtain ⟨u, hu, ru⟩ := rv.get hx
    have hlen : i < its.toArray.size := by
      have := (List.getElem?_eq_some_iff.mp hu).1
      simpa using this
    have hel : e < s.heap.objs.size := Heap.lt_size he
    have hnf : e ∉ [it, a] := by simp [hne, Ne.symm hae]
    refine wpAny_pyNext_enum_itemD (Draws.tuple (A := X.A.in1) (I.ok.hd hc) it a hai its.toArray) he ⟨hit, p⟩ hlen hne hnf fun v h' tk hv ho hst hT hsz hk => ?_
    have ev : v = u := by
      have h2 : its[i]? = some v := by simpa using hv
      rw [hu] at h2
      exact (Option.some.inj h2).symm
    subst ev
    refine ⟨_, rfl, wpAny_letOwnedTupleGo_enum (s := { s with heap := h', toks := tk + 1 }) ho fun h2 he2 sb => ?_⟩
    have hT2 : h2.get? s.heap.objs.size = some { cls := .type "tuple", data := .seq #[.int i tk, v] } := (sb.2 _ (Nat.ne_of_gt hel)).trans hT
    have new : ObjOk X.prog X.w (upd H s.heap.objs.size (.tup [.int (i : Nat), x])) h2 s.heap.objs.size (.tup [.int (i : Nat), x]) :=
      ⟨by show 2 ≤ sizeLine; decide, [.int i tk, v], .cons ⟨_, rfl⟩ (.cons ru .nil), ⟨_, hT2, rfl, _, rfl⟩⟩
    have I2 : Inv X pins σ (upd H s.heap.objs.size (.tup [.int (i : Nat), x])) { s with heap := h2, toks := tk + 1 } :=
      I.turnedNew (ch := [e, it]) (fun b ob hb q => by
        rw [List.mem_cons, List.mem_singleton, not_or] at hb
        exact (sb.2 b hb.1).trans (hk b ob hb.1 hb.2 q)) hf (Nat.le_refl _) new
    refine ⟨.ref s.heap.objs.size, _, I2, rfl, ⟨_, x, rfl, I.hok.fresh (Nat.le_refl _), rfl, fun ys hy => by rw [I.tuple_inj hy hq]; exact hx⟩, ⟨⟨v, ?_⟩, hst.1.at fun o q => (sb.2 it (Ne.symm hne)).trans q, hne, hae, hai⟩, fun b hb => ?_⟩
    · have e1 : ((i + 1 : Nat) : Int) = (i : Int) + 1 := by omega
      rw [e1]; exact he2
    · have hb' : b < s.heap.objs.size := by
        rcases List.mem_cons.mp hb with rfl | hb
        · exact hel
        · rw [List.mem_singleton.mp hb]
          obtain ⟨_, q, _⟩ := hit
          exact Heap.lt_size q
      rw [upd_ne (Nat.ne_of_lt hb')]
      exact (hf b hb).1
  done := by
    intro X hP hw hK hc i pins s σ H E I hf st hg
    subst hP hw hK
    obtain ⟨⟨old, he⟩, hit, hne, hae, hai⟩ := st
    obtain ⟨xs, hq, hx⟩ := hg
    obtain ⟨its, rv, p, hz⟩ := I.tuple hq
    have hsz : its.toArray.size = i := by rw [List.size_toArray, ← rv.length, hx]
    have hnf : e ∉ [it, a] := by simp [hne, Ne.symm hae]
    obtain ⟨f0, f1, f2, f3, f4, f5⟩ := hf it (by simp)
    exact wpAny_pyNext_enum_endD (Draws.tuple (A := X.A.in1) (I.ok.hd hc) it a hai its.toArray) he (by rw [hsz]; exact ⟨hit, p⟩) fun h' eb => ⟨rfl, I.turned (t' := s.toks) (fun b o hb q => eb b o hb q) f0 f1 f3 f4 f5⟩
  self := fun A i s Q E st h => by
    obtain ⟨⟨_, he⟩, _⟩ := st
    exact wpAny_pyIter_enum he h
def iEnumT (K : Frag) (ta : TA) : TI := fun σ H R => ta σ H fun vs H1 => ∃ a xs, vs = [.ref a] ∧ SqT K H1 a xs ∧ R (IteT K a) H1
theorem pi_enumT {X : Cx} {u : Expr} {ta : TA} {p pos tpos : Pos} {elts : List Expr} {kk : Nat} (hg : Gl X "enumerate") (hm : X.mg "enumerate" = none) (ha : PA X [u] ta) (hs : starEach [u] X.env = [(false, eval u X.env)]) :
    PI X (.Tuple elts kk tpos) (.Call (.Name "enumerate" p) [u] [] pos) (iEnumT X.K ta) := by
  refine ⟨fun pins s σ H R I h => Call_ (ld_blt I hg hm boot_enumerate (PyProof.Rows.callWith_type1 (thn (ha.run pos pins s σ H _ I h) fun us s1 h1 => ?_) hs rfl))⟩
  obtain ⟨vs, H1, I1, r1, a, xs, rfl, hq, q⟩ := h1
  rw [Vals.ref1 r1]
  obtain ⟨its, rv, pt, hz⟩ := I1.tuple hq
  have hal : a < s1.heap.objs.size := by obtain ⟨_, z, _⟩ := pt; exact Heap.lt_size z
  refine call_enum_tup pt fun h' he hit hk => wpAny_pyIter_enum he ?_
  refine ⟨s1.heap.objs.size + 1, [s1.heap.objs.size + 1, s1.heap.objs.size], _, _, H1, rfl, I1.kept (t' := s1.toks) hk, turn_enumT a (s1.heap.objs.size + 1) s1.heap.objs.size, ⟨⟨.none, he⟩, hit, Nat.succ_ne_self _, Nat.ne_of_lt (Nat.lt_succ_of_lt hal), Nat.ne_of_lt hal⟩, fun b hb => ?_, q⟩
  have hle : s1.heap.objs.size ≤ b := by
    rcases List.mem_cons.mp hb with rfl | hb
    · exact Nat.le_add_right _ _
    · rw [List.mem_singleton.mp hb]
      exact Nat.le_refl _
  exact I1.fpOk hle (I1.hok.fresh hle)
theorem walk_enumT {K : Frag} {a : Addr} {xs : List V} : Walk (IteT K a) xs.length (fun H => SqT K H a xs) (YPair (fun i => some (.int (i : Nat))) (fun i => xs[i]?)) := by
  refine ⟨fun i H hi hq => ⟨xs, xs[i], hq, List.getElem?_eq_getElem hi⟩, fun H hq => ⟨xs, hq, rfl⟩, fun i H x H' _ hq y => ?_⟩
  obtain ⟨T, z, rfl, h1, h2, h3⟩ := y
  exact ⟨T, .int (i : Nat), z, rfl, h1, h2, rfl, h3 xs hq⟩
end MS

set_option Elab.async false
set_option linter.all false
set_option maxRecDepth 100000
set_option maxHeartbeats 4000000
/-! SoundT3: sorted(set(a list of ints)), min(a list of ints, default=None), sorted(at most one pair). -/
namespace MS
open PySem PySem.Spec PyProof.Rows L2
open Sem (wp)
/-! ### set(a list of ints) -/
abbrev eSet (w : World) : Obj := { cls := .type "set", dict := none, data := .set #[] 0 (.fresh 0 0 (!w.params.followText "set-order")) }
section
variable {P : Program} {w : World} {A : Around} {E : Value → Shared → Prop} {s : Shared}
theorem set_of_ints {l : Addr} {vs : Array Value} (ns : List Int) {Q : Value → Shared → Prop} (nh : A.handled = none) (il : s.heap.IsList l vs) (iv : IntsAre vs.toList ns) (few : ns.length + 1 < scanBound)
    (fin : ∀ (h2 : Heap) (tk c : Nat), SetR w h2 s.heap.objs.size (fun j => decide (j ∈ ns)) c → c ≤ ns.length → (∀ b o, s.heap.get? b = some o → h2.get? b = some o) → Q (.ref s.heap.objs.size) { s with heap := h2, toks := tk }) : wpAny (model P w) A (call (.type "set") [.ref l]) Q E s := by
  have hsize : vs.size = ns.length := by have q := IntsAre.length iv; rw [Array.length_toList] at q; exact q
  obtain ⟨mc, mt, mro⟩ := F.called_set.mro
  have made := F.called_set.made; have sub := F.called_set.sub
  refine wpAny_call (codeAny_of_tree (show wpAny _ _ (callAny (.type "set") _) _ _ _ from wpAny_pure ⟨Code.quiet_builtin _ (by decide +kernel), codeAny_builtin F.entry_type_call ?_⟩))
  rw [Around.under_plain (weight_type_call_type "set" [.ref l] []) rfl]
  have nt := F.called_set.notType; have cc := F.called_set.canCreate; have tc := F.typeCall_set_1 (.ref l)
  repeat (any_goals (first | assumption | wp_step))
  refine codeAny_mono (code_set_led1 (.ref l) (E := E) (Q₁ := fun v s1 => v = .ref s.heap.objs.size ∧ s1 = { s with heap := s.heap.push (eSet w) }) ⟨rfl, rfl⟩) fun r s1 hr => ?_
  cases r with
  | error e => exact hr
  | ok fl =>
    cases fl with
    | ret v =>
      obtain ⟨rfl, rfl⟩ := hr
      have atS : (s.heap.push (eSet w)).get? s.heap.objs.size = some (eSet w) := Heap.get?_push_size _ rfl
      have tyS : Shared.TypeIs { s with heap := s.heap.push (eSet w) } (.ref s.heap.objs.size) "set" := ⟨_, atS, rfl⟩
      have li := F.called_set.init.lookup; have bi := F.called_set.init.bind (.ref s.heap.objs.size)
      repeat (any_goals (first | assumption | wp_step))
      refine codeAny_mono (codeAny_call_builtin (R := wants (fun r s2 => r = .none ∧ ∃ h2 tk c, s2 = { s with heap := h2, toks := tk } ∧ SetR w h2 s.heap.objs.size (fun j => decide (j ∈ ns)) c ∧ c ≤ ns.length ∧ (∀ b o, s.heap.get? b = some o → h2.get? b = some o)) E) F.called_set.init.plain F.entry_set_init (check_set_init_1 tyS ?_)) fun r2 s2 hr2 => ?_
      · obtain ⟨⟨oc, od, oda, osl⟩, ho, hcl, nl, hdl⟩ := il
        simp only at hcl hdl
        subst hcl hdl
        have ho2 : (s.heap.push (eSet w)).get? l = some { cls := .type "list", dict := od, data := .seq vs nl, slots := osl } := Heap.get?_push_of_some _ ho
        have s1 := F.sub_list_set; have s2 := F.sub_list_frozenset; have nd : (Value.type "list" == Value.type "dict") = false := by decide
        have il1 : (s.heap.push (eSet w)).IsList l vs := ⟨_, ho2, rfl, nl, rfl⟩
        unfold Builtin.«set.__init__» noKeywords Builtin.Frozenset.updateFrom
        generalize hIt : pyIter = It
        wp_walk
        subst hIt
        refine wpAny_pyIter_list il1 (wpAny_bind (wpAny_runValue ?_))
        have lS : l < s.heap.objs.size := Heap.lt_size ho
        have nh3 : A.in1.in1.in1.handled = none := by simp [nh]
        have lI : l ≠ (s.heap.push (eSet w)).objs.size := by rw [Heap.size_push]; exact Nat.ne_of_lt (Nat.lt_succ_of_lt lS)
        have sf : s.heap.objs.size ∉ [(s.heap.push (eSet w)).objs.size, l] := by
          rw [Heap.size_push]; simp only [List.mem_cons, List.mem_singleton, List.not_mem_nil, or_false, not_or]; exact ⟨Nat.ne_of_lt (Nat.lt_succ_self _), Nat.ne_of_gt lS⟩
        have item : ∀ (i : Nat) (v : Value), vs[i]? = some v → ∃ k t, ns[i]? = some k ∧ v = .int k t := fun i v hv => by
          have hi : i < ns.length := by rw [← hsize]; exact (Array.getElem?_eq_some_iff.mp hv).1
          obtain ⟨t, e⟩ := PyProof.Rows.IntsAre.int_at iv i v (by rw [Array.getElem?_toList]; exact hv)
          exact ⟨ns[i], t, List.getElem?_eq_getElem hi, by rw [e, List.getD_eq_getElem?_getD, List.getElem?_eq_getElem hi] <;> rfl⟩
        refine set_update_ints ((Walks.list nh3 _ l lI vs).toS) s.heap.objs.size sf ns hsize few item (vs.size - 0) 0 _ (by omega) (Nat.zero_le _) ⟨⟨_, Heap.get?_push_size _ rfl, rfl, rfl⟩, (il1.push _)⟩ ?first ?last
        case first =>
          have at2 : ((s.heap.push (eSet w)).push { cls := .type "list_iterator", data := .fields #[.ref l, .int 0 0] }).get? s.heap.objs.size = some (eSet w) := Heap.get?_push_of_some _ atS
          exact ⟨0, Nat.le_refl 0, setR_new_at at2⟩
        case last =>
          rintro ⟨h2, g2, d2, tk2, os2⟩ c2 hm hc2 hS2
          have eg : g2 = s.gens := hm.gens
          have ed : d2 = s.drawn := hm.drawn
          have eo : os2 = s.os := hm.os
          subst eg ed eo
          refine wpAny_pure (show wpAny _ _ (ret Value.none) _ _ _ from ?_)
          rw [hsize] at hc2
          refine wpAny_pure ⟨rfl, h2, tk2, c2, rfl, hS2, hc2, fun b o e => ?_⟩
          have b0 : b < s.heap.objs.size := Heap.lt_size e
          have b2 : b ≠ (s.heap.push (eSet w)).objs.size := by rw [Heap.size_push]; exact Nat.ne_of_lt (Nat.lt_succ_of_lt b0)
          exact hm.heap b o (by simp only [List.mem_cons, List.mem_singleton, List.not_mem_nil, or_false, not_or]; exact ⟨Nat.ne_of_lt b0, b2⟩) (Heap.get?_push_of_some _ (Heap.get?_push_of_some _ e))
      · cases r2 with
        | error e => exact hr2
        | ok f2 =>
          cases f2 with
          | ret v2 =>
            obtain ⟨rfl, h2, tk2, c2, rfl, k1, k2, k3⟩ := hr2
            repeat (any_goals (first | assumption | wp_step))
            exact fin _ _ _ k1 k2 k3
          | _ => exact hr2.elim
    | _ => exact hr.elim
end
def rSetOfI (K : Frag) (w : World) : List V → Hp → VK → Prop := fun vs H Q => ∃ (l : Addr) (ns : List Int), vs = [V.ref l] ∧ SqL K H l (ns.map V.int) ∧ ns.length < 64 ∧ ∀ (p : Addr) (c : Nat), H p = none → c ≤ ns.length → Q (.ref p) (upd H p (SetO w p (fun j => decide (j ∈ ns)) c))
theorem cr_setOfI {X : Cx} (hc : X.calm = true) : CallR X (.type "set") (rSetOfI X.K X.w) := by
  intro pins s σ H vs us Q I r h
  obtain ⟨l, ns, rfl, hs, h64, q⟩ := h
  obtain ⟨its, rv, hl, hz⟩ := I.list hs
  rw [Vals.ref1 r]
  have hb : (64 : Nat) < scanBound := by decide
  refine set_of_ints ns (I.ok.hd hc) hl.isList rv.ints (by omega) fun h2 tk c R hc2 hk => ?_
  exact ⟨.ref _, upd H s.heap.objs.size (SetO X.w s.heap.objs.size (fun j => decide (j ∈ ns)) c), I.laid (t' := tk) hk (Nat.le_refl _) (setO_new R), rfl, q _ _ (I.hok.fresh (Nat.le_refl _)) hc2⟩
/-! ### ascending, none twice -/
theorem ins_mem (z k : Int) : ∀ r : List Int, k ∈ Mini.insI z r ↔ k = z ∨ k ∈ r
  | [] => by simp [Mini.insI]
  | x :: r => by
    unfold Mini.insI
    split
    · simp
    · split
      · rename_i h; subst h; simp
      · rw [List.mem_cons, ins_mem z k r, List.mem_cons]
        constructor
        · rintro (h | h | h)
          · exact .inr (.inl h)
          · exact .inl h
          · exact .inr (.inr h)
        · rintro (h | h | h)
          · exact .inr (.inl h)
          · exact .inl h
          · exact .inr (.inr h)
theorem ins_up (z : Int) : ∀ r : List Int, r.Pairwise (· < ·) → (Mini.insI z r).Pairwise (· < ·)
  | [], _ => by simp [Mini.insI]
  | x :: r, h => by
    obtain ⟨h1, h2⟩ := List.pairwise_cons.mp h
    unfold Mini.insI
    split
    · rename_i q
      refine List.pairwise_cons.mpr ⟨fun y hy => ?_, h⟩
      rcases List.mem_cons.mp hy with e | hy
      · rw [e]; exact q
      · have := h1 y hy; omega
    · split
      · exact h
      · rename_i q1 q2
        refine List.pairwise_cons.mpr ⟨fun y hy => ?_, ins_up z r h2⟩
        rcases (ins_mem z y r).mp hy with e | hy
        · omega
        · exact h1 y hy
theorem sortI_mem (k : Int) : ∀ ns : List Int, k ∈ Mini.sortI ns ↔ k ∈ ns
  | [] => by simp [Mini.sortI]
  | x :: r => by rw [Mini.sortI, ins_mem, sortI_mem k r, List.mem_cons]
theorem sortI_up : ∀ ns : List Int, (Mini.sortI ns).Pairwise (· < ·)
  | [] => by simp [Mini.sortI]
  | x :: r => by rw [Mini.sortI]; exact ins_up x _ (sortI_up r)
theorem up_eq : ∀ {a b : List Int}, a.Pairwise (· < ·) → b.Pairwise (· < ·) → (∀ k, k ∈ a ↔ k ∈ b) → a = b
  | [], [], _, _, _ => rfl
  | [], y :: b, _, _, h => absurd ((h y).mpr List.mem_cons_self) (by simp)
  | x :: a, [], _, _, h => absurd ((h x).mp List.mem_cons_self) (by simp)
  | x :: a, y :: b, ha, hb, h => by
    obtain ⟨a1, a2⟩ := List.pairwise_cons.mp ha
    obtain ⟨b1, b2⟩ := List.pairwise_cons.mp hb
    have e : x = y := by
      rcases List.mem_cons.mp ((h x).mp List.mem_cons_self) with e | q
      · exact e
      · rcases List.mem_cons.mp ((h y).mpr List.mem_cons_self) with e | q2
        · exact e.symm
        · have := b1 x q; have := a1 y q2; omega
    subst e
    have : a = b := up_eq a2 b2 fun k => by
      constructor
      · intro q
        rcases List.mem_cons.mp ((h k).mp (List.mem_cons_of_mem _ q)) with e | q2
        · have := a1 k q; omega
        · exact q2
      · intro q
        rcases List.mem_cons.mp ((h k).mpr (List.mem_cons_of_mem _ q)) with e | q2
        · have := b1 k q; omega
        · exact q2
    rw [this]
/-! ### min(.., default=None) -/
def rMinD (K : Frag) : List V → List V → Hp → VK → Prop := fun vs zs H Q => ∃ (a : Addr) (ns : List Int), vs = [V.ref a] ∧ zs = [.non] ∧ SqL K H a (ns.map V.int) ∧ (ns = [] → Q .non H) ∧ ∀ m, m ∈ ns → (∀ y, y ∈ ns → m ≤ y) → Q (.int m) H
theorem minOf_is : ∀ (ys : List Int) (y : Int), PySem.W.minOf y ys ∈ (y :: ys) ∧ ∀ z, z ∈ (y :: ys) → PySem.W.minOf y ys ≤ z
  | [], y => ⟨List.mem_cons_self, fun z hz => by simp at hz; subst hz; exact Int.le_refl _⟩
  | x :: r, y => by
    have e : PySem.W.minOf y (x :: r) = PySem.W.minOf (if x < y then x else y) r := by
      show List.foldl _ _ _ = List.foldl _ _ _
      rw [List.foldl_cons]
      congr 1
      show (if decide (x < y) = true then x else y) = _
      simp
    obtain ⟨c, hc⟩ : ∃ c, c = if x < y then x else y := ⟨_, rfl⟩
    have c0 : c = x ∨ c = y := by rw [hc]; split <;> simp
    have c1 : c ≤ x ∧ c ≤ y := by rw [hc]; split <;> omega
    obtain ⟨h1, h2⟩ := minOf_is r c
    rw [e, ← hc]
    have hb := h2 _ List.mem_cons_self
    refine ⟨?_, fun z hz => ?_⟩
    · rcases List.mem_cons.mp h1 with q | q
      · rw [q]; rcases c0 with e | e <;> rw [e] <;> simp
      · exact List.mem_cons_of_mem _ (List.mem_cons_of_mem _ q)
    · rcases List.mem_cons.mp hz with rfl | hz
      · omega
      · rcases List.mem_cons.mp hz with rfl | hz
        · omega
        · exact h2 z (List.mem_cons_of_mem _ hz)
theorem cr_minD {X : Cx} (hc : X.calm = true) (hu : X.A.units + 65 < cLine) : CallRK X (.builtin "min") [Str.ofString "default"] (rMinD X.K) := by
  intro pins s σ H vs zs us ws Q I r rz h
  obtain ⟨a, ns, rfl, rfl, hs, q0, q1⟩ := h
  obtain rfl := Vals.ref1 r
  obtain ⟨u, rfl, ru⟩ := rz.one
  have ru : u = Value.none := ru
  subst ru
  obtain ⟨its, rv, hl, hz⟩ := I.list hs
  have hd : PySem.W.Datum.depth Int ≤ 1 := by decide
  refine PySem.W.min_list_datum_default (xs := ns) (I.ok.hd hc) hl.isList (PySem.W.HoldAll.of_ints (by simpa using rv.ints)) (by omega) (fun e h' tk hk => ⟨.non, H, I.kept hk, rfl, q0 e⟩) fun y ys i v h' tk e hi hv hk => ?_
  subst e
  obtain ⟨t, rfl⟩ := PySem.W.int_of_holds hv
  obtain ⟨m1, m2⟩ := minOf_is ys y
  exact ⟨.int _, H, I.kept hk, ⟨_, rfl⟩, q1 _ m1 m2⟩
end MS

set_option Elab.async false
set_option linter.all false
set_option maxRecDepth 100000
set_option maxHeartbeats 4000000
/-! SoundD: built-ins, items, slices. -/
namespace MS
open PySem PySem.Spec PyProof.Rows L2

def biTy : Mini.Bi → Bool
  | .int => true | .str => true | .tuple => true | _ => false
def biStr : Mini.Bi → String
  | .len => "len" | .abs => "abs" | .int => "int" | .str => "str" | .max => "max" | .min => "min" | .sum => "sum" | .all => "all" | .any => "any" | .tuple => "tuple"
def biVal (b : Mini.Bi) : Value := if biTy b then .type (biStr b) else .builtin (biStr b)
def BiR (X : Cx) (b : Mini.Bi) (ds : List Da) (d : Da) : Prop := ∃ r, CallR X (biVal b) r ∧ ∀ (G H : Hp) (vs : List V), Same G H → IsDs X.K G vs ds → ∀ Q : VK, (∀ v G' H', Gr G H G' H' → IsD X.K G' v d → Q v H') → r vs H Q
theorem ints_vals {K : Frag} {G : Hp} : ∀ {ds : List Da} {ns : List Int} {vs : List V}, Mini.ints? ds = some ns → IsDs K G vs ds → vs = ns.map V.int
  | [], ns, vs, h, r => by
    cases h; cases r; rfl
  | d :: ds, ns, vs, h, r => by
    cases r with
    | cons a b =>
      cases a with
      | int i =>
        rw [Mini.ints?, Option.map_eq_some_iff] at h
        obtain ⟨ms, h1, rfl⟩ := h
        rw [ints_vals h1 b]
        rfl
      | _ => simp [Mini.ints?] at h
theorem bools_vals {K : Frag} {G : Hp} : ∀ {ds : List Da} {ns : List Bool} {vs : List V}, Mini.bools? ds = some ns → IsDs K G vs ds → vs = ns.map V.bl
  | [], ns, vs, h, r => by
    cases h; cases r; rfl
  | d :: ds, ns, vs, h, r => by
    cases r with
    | cons a b =>
      cases a with
      | bl i =>
        rw [Mini.bools?, Option.map_eq_some_iff] at h
        obtain ⟨ms, h1, rfl⟩ := h
        rw [bools_vals h1 b]
        rfl
      | _ => simp [Mini.bools?] at h
theorem maxI_is : ∀ {ns : List Int} {m : Int}, m ∈ ns → (∀ y, y ∈ ns → y ≤ m) → Mini.maxI ns = m
  | [], _, h, _ => by cases h
  | [x], m, h, _ => by
    have e : m = x := by simpa using h
    rw [e]; rfl
  | x :: y :: r, m, h, g => by
    show (if Mini.maxI (y :: r) > x then Mini.maxI (y :: r) else x) = m
    have hx := g x List.mem_cons_self
    rcases List.mem_cons.mp h with e | h
    · subst e
      have : Mini.maxI (y :: r) ≤ m := by
        obtain ⟨z, hz⟩ : ∃ z, z ∈ (y :: r) ∧ ∀ w, w ∈ (y :: r) → w ≤ z := by
          clear h g hx
          induction r generalizing y with
          | nil => exact ⟨y, by simp, by simp⟩
          | cons a r ih =>
            obtain ⟨z, z1, z2⟩ := ih a
            by_cases c : y ≤ z
            · exact ⟨z, List.mem_cons_of_mem _ z1, fun w hw => by
                rcases List.mem_cons.mp hw with e | hw
                · subst e; exact c
                · exact z2 w hw⟩
            · exact ⟨y, List.mem_cons_self, fun w hw => by
                rcases List.mem_cons.mp hw with e | hw
                · subst e; omega
                · have := z2 w hw; omega⟩
        rw [maxI_is hz.1 hz.2]
        exact g z (List.mem_cons_of_mem _ hz.1)
      rw [if_neg (by omega)]
    · rw [maxI_is h fun w hw => g w (List.mem_cons_of_mem _ hw)]
      by_cases c : m > x
      · rw [if_pos c]
      · rw [if_neg c]; omega
theorem minI_is : ∀ {ns : List Int} {m : Int}, m ∈ ns → (∀ y, y ∈ ns → m ≤ y) → Mini.minI ns = m
  | [], _, h, _ => by cases h
  | [x], m, h, _ => by
    have e : m = x := by simpa using h
    rw [e]; rfl
  | x :: y :: r, m, h, g => by
    show (if Mini.minI (y :: r) < x then Mini.minI (y :: r) else x) = m
    have hx := g x List.mem_cons_self
    rcases List.mem_cons.mp h with e | h
    · subst e
      have : m ≤ Mini.minI (y :: r) := by
        obtain ⟨z, hz⟩ : ∃ z, z ∈ (y :: r) ∧ ∀ w, w ∈ (y :: r) → z ≤ w := by
          clear h g hx
          induction r generalizing y with
          | nil => exact ⟨y, by simp, by simp⟩
          | cons a r ih =>
            obtain ⟨z, z1, z2⟩ := ih a
            by_cases c : z ≤ y
            · exact ⟨z, List.mem_cons_of_mem _ z1, fun w hw => by
                rcases List.mem_cons.mp hw with e | hw
                · subst e; exact c
                · exact z2 w hw⟩
            · exact ⟨y, List.mem_cons_self, fun w hw => by
                rcases List.mem_cons.mp hw with e | hw
                · subst e; omega
                · have := z2 w hw; omega⟩
        rw [minI_is hz.1 hz.2]
        exact g z (List.mem_cons_of_mem _ hz.1)
      rw [if_neg (by omega)]
    · rw [minI_is h fun w hw => g w (List.mem_cons_of_mem _ hw)]
      by_cases c : m < x
      · rw [if_pos c]
      · rw [if_neg c]; omega
theorem sumI_is : ∀ ns : List Int, Mini.sumI ns = ns.sum
  | [] => rfl
  | x :: r => by rw [Mini.sumI, sumI_is r, List.sum_cons]
section
variable {X : Cx}
theorem one_of {K : Frag} {G : Hp} {vs : List V} {d : Da} (h : IsDs K G vs [d]) : ∃ v, vs = [v] ∧ IsD K G v d := by
  cases h with
  | cons a b => cases b; exact ⟨_, rfl, a⟩
theorem two_of {K : Frag} {G : Hp} {vs : List V} {d e : Da} (h : IsDs K G vs [d, e]) : ∃ v w, vs = [v, w] ∧ IsD K G v d ∧ IsD K G w e := by
  cases h with
  | cons a b =>
    cases b with
    | cons b c => cases c; exact ⟨_, _, rfl, a, b⟩
theorem bi_ok (hc : X.calm = true) (b : Mini.Bi) : ∀ {ds : List Da} {d : Da}, Mini.biF b ds = some d → BiR X b ds d := by
  intro ds d h
  unfold Mini.biF at h
  split at h
  · cases h
    refine ⟨_, call_len, fun G H vs sm hv Q q => ?_⟩
    obtain ⟨v, rfl, h1v⟩ := one_of hv
    cases h1v with
    | lst t e => exact ⟨_, _, rfl, .inl ⟨_, sm.seq t, rfl⟩, by rw [e.length]; exact q _ G H (Gr.refl sm) (.int _)⟩
  · cases h
    refine ⟨_, call_len, fun G H vs sm hv Q q => ?_⟩
    obtain ⟨v, rfl, h1v⟩ := one_of hv
    cases h1v with
    | tup t e => exact ⟨_, _, rfl, .inr ⟨_, Same.tup sm t, rfl⟩, by rw [e.length]; exact q _ G H (Gr.refl sm) (.int _)⟩
  · split at h
    · rename_i hl
      cases h
      refine ⟨_, call_len, fun G H vs sm hv Q q => ?_⟩
      obtain ⟨v, rfl, h1v⟩ := one_of hv
      cases h1v
      refine ⟨_, _, rfl, ⟨by rw [str_len]; exact le_line hl, rfl⟩, ?_⟩
      rw [str_len]
      exact q _ G H (Gr.refl sm) (.int _)
    · cases h
  · cases h
    refine ⟨_, call_abs, fun G H vs sm hv Q q => ?_⟩
    obtain ⟨v, rfl, h1v⟩ := one_of hv
    cases h1v
    exact ⟨_, rfl, q _ G H (Gr.refl sm) (.int _)⟩
  · cases h
    refine ⟨_, call_int1, fun G H vs sm hv Q q => ?_⟩
    obtain ⟨v, rfl, h1v⟩ := one_of hv
    cases h1v
    exact .inl ⟨_, rfl, q _ G H (Gr.refl sm) (.int _)⟩
  · cases h
    refine ⟨_, call_int1, fun G H vs sm hv Q q => ?_⟩
    obtain ⟨v, rfl, h1v⟩ := one_of hv
    cases h1v
    exact .inr ⟨_, rfl, q _ G H (Gr.refl sm) (.int _)⟩
  · cases h
    refine ⟨_, call_max2 hc, fun G H vs sm hv Q q => ?_⟩
    obtain ⟨v, w, rfl, h1v, h1w⟩ := two_of hv
    cases h1v; cases h1w
    exact ⟨_, _, rfl, q _ G H (Gr.refl sm) (.int _)⟩
  · cases h
    refine ⟨_, call_min2 hc, fun G H vs sm hv Q q => ?_⟩
    obtain ⟨v, w, rfl, h1v, h1w⟩ := two_of hv
    cases h1v; cases h1w
    exact ⟨_, _, rfl, q _ G H (Gr.refl sm) (.int _)⟩
  · rw [Option.bind_eq_some_iff] at h
    obtain ⟨ns, h1, h2⟩ := h
    split at h2
    · cases h2
    · rename_i hn
      cases h2
      refine ⟨_, cr_max hc, fun G H vs sm hv Q q => ?_⟩
      obtain ⟨v, rfl, h1v⟩ := one_of hv
      cases h1v with
      | lst t e =>
        have ev := ints_vals h1 e
        subst ev
        refine ⟨_, ns, rfl, sm.seq t, ?_, fun m hm hle => ?_⟩
        · cases ns with
          | nil => exact absurd rfl hn
          | cons _ _ => simp
        · rw [maxI_is hm hle] at q
          exact q _ G H (Gr.refl sm) (.int _)
  · rw [Option.bind_eq_some_iff] at h
    obtain ⟨ns, h1, h2⟩ := h
    split at h2
    · cases h2
    · rename_i hn
      cases h2
      refine ⟨_, cr_min hc, fun G H vs sm hv Q q => ?_⟩
      obtain ⟨v, rfl, h1v⟩ := one_of hv
      cases h1v with
      | lst t e =>
        have ev := ints_vals h1 e
        subst ev
        refine ⟨_, ns, rfl, sm.seq t, ?_, fun m hm hle => ?_⟩
        · cases ns with
          | nil => exact absurd rfl hn
          | cons _ _ => simp
        · rw [minI_is hm hle] at q
          exact q _ G H (Gr.refl sm) (.int _)
  · rw [Option.map_eq_some_iff] at h
    obtain ⟨ns, h1, rfl⟩ := h
    refine ⟨_, cr_sum hc, fun G H vs sm hv Q q => ?_⟩
    obtain ⟨v, rfl, h1v⟩ := one_of hv
    cases h1v with
    | lst t e =>
      have ev := ints_vals h1 e
      subst ev
      refine ⟨_, ns, rfl, sm.seq t, ?_⟩
      rw [← sumI_is]
      exact q _ G H (Gr.refl sm) (.int _)
  · rw [Option.map_eq_some_iff] at h
    obtain ⟨ns, h1, rfl⟩ := h
    refine ⟨_, cr_sumT hc, fun G H vs sm hv Q q => ?_⟩
    obtain ⟨v, rfl, h1v⟩ := one_of hv
    cases h1v with
    | tup t e =>
      have ev := ints_vals h1 e
      subst ev
      refine ⟨_, ns, rfl, Same.tup sm t, ?_⟩
      rw [← sumI_is]
      exact q _ G H (Gr.refl sm) (.int _)
  · rw [Option.map_eq_some_iff] at h
    obtain ⟨ns, h1, rfl⟩ := h
    refine ⟨_, cr_all hc, fun G H vs sm hv Q q => ?_⟩
    obtain ⟨v, rfl, h1v⟩ := one_of hv
    cases h1v with
    | lst t e =>
      have ev := bools_vals h1 e
      subst ev
      exact ⟨_, ns, rfl, sm.seq t, q _ G H (Gr.refl sm) (.bl _)⟩
  · rw [Option.map_eq_some_iff] at h
    obtain ⟨ns, h1, rfl⟩ := h
    refine ⟨_, cr_any hc, fun G H vs sm hv Q q => ?_⟩
    obtain ⟨v, rfl, h1v⟩ := one_of hv
    cases h1v with
    | lst t e =>
      have ev := bools_vals h1 e
      subst ev
      exact ⟨_, ns, rfl, sm.seq t, q _ G H (Gr.refl sm) (.bl _)⟩
  · cases h
    refine ⟨_, call_tuple_of, fun G H vs sm hv Q q => ?_⟩
    obtain ⟨v, rfl, h1v⟩ := one_of hv
    cases h1v with
    | @lst _ vs _ t e =>
      refine ⟨_, _, rfl, .inl ⟨sm.seq t, fun p hp => ?_⟩⟩
      have g := Gr.new (o := .tup vs) sm hp
      exact q _ _ _ g (.tup (SqT.of upd_same) (e.mono g.g))
  · cases h
    refine ⟨_, call_tuple_of, fun G H vs sm hv Q q => ?_⟩
    obtain ⟨v, rfl, h1v⟩ := one_of hv
    cases h1v with
    | tup t e => exact ⟨_, _, rfl, .inr ⟨Same.tup sm t, q _ G H (Gr.refl sm) (.tup t e)⟩⟩
  · cases h

/-! ### items -/
def IxD (X : Cx) (dx dy d : Da) : Prop := ∃ r : R2, IxR X r ∧ ∀ (G H : Hp) (x y : V), Same G H → IsD X.K G x dx → IsD X.K G y dy → ∀ Q : VK, (∀ v G' H', Gr G H G' H' → IsD X.K G' v d → Q v H') → r x y H Q
theorem ixN_eq (n : Nat) (i : Int) : Mini.ixN n i = L2.ixN n i := rfl
theorem at_of_ds {K : Frag} {G : Hp} {vs : List V} {ds : List Da} {i : Int} {d : Da} (h : Mini.at? ds i = some d) (r : IsDs K G vs ds) : ∃ v, atI vs i = some v ∧ IsD K G v d := by
  unfold Mini.at? at h
  unfold atI
  rw [r.length]
  rw [ixN_eq] at h
  cases q : L2.ixN ds.length i with
  | none => rw [q] at h; cases h
  | some j =>
    rw [q] at h
    obtain ⟨v, h1, h2⟩ := r.get (i := j) h
    exact ⟨v, h1, h2⟩
theorem ix_ok : ∀ {dx dy d : Da}, Mini.ixF dx dy = some d → IxD X dx dy d := by
  intro dx dy d h
  unfold Mini.ixF at h
  split at h
  · refine ⟨_, ix_list, fun G H x y sm hx hy Q q => ?_⟩
    cases hy
    cases hx with
    | lst t e =>
      obtain ⟨v, h1, h2⟩ := at_of_ds h e
      exact ⟨_, _, _, v, rfl, rfl, sm.seq t, h1, q _ G H (Gr.refl sm) h2⟩
  · refine ⟨_, ix_tup, fun G H x y sm hx hy Q q => ?_⟩
    cases hy
    cases hx with
    | tup t e =>
      obtain ⟨v, h1, h2⟩ := at_of_ds h e
      exact ⟨_, _, _, v, rfl, rfl, Same.tup sm t, h1, q _ G H (Gr.refl sm) h2⟩
  · rename_i s i
    split at h
    · rename_i hl
      rw [Option.map_eq_some_iff] at h
      obtain ⟨c, h1, rfl⟩ := h
      refine ⟨_, ix_str, fun G H x y sm hx hy Q q => ?_⟩
      cases hy
      cases hx
      exact ⟨_, _, c, rfl, rfl, by rw [str_len]; exact le_line hl, h1, q _ G H (Gr.refl sm) (.str [c])⟩
    · cases h
  · cases h

/-! ### slices -/
theorem cutAt_eq (n d : Nat) (o : Option Int) : Mini.cutAt n d o = HT.sIx n d o := by
  cases o with
  | none => rfl
  | some i => rfl
theorem cut_eq {K : Frag} {G : Hp} {vs : List V} {ds : List Da} (r : IsDs K G vs ds) (lo hi : Option Int) : IsDs K G (cutV vs lo hi) (Mini.cut ds lo hi) := by
  unfold cutV Mini.cut
  rw [cutAt_eq, cutAt_eq, r.length]
  exact IsDs.take _ (IsDs.drop _ r)
def SlD (X : Cx) (dx : Da) (lo hi : Option Int) (d : Da) : Prop := ∃ r : V → Option Int → Option Int → Hp → VK → Prop, SlR X r ∧ ∀ (G H : Hp) (x : V), Same G H → IsD X.K G x dx → ∀ Q : VK, (∀ v G' H', Gr G H G' H' → IsD X.K G' v d → Q v H') → r x lo hi H Q
theorem cut_whole {vs : List V} {lo hi : Option Int} (h : HT.sIx vs.length 0 lo = 0 ∧ HT.sIx vs.length vs.length hi = vs.length) : cutV vs lo hi = vs := by
  unfold cutV
  rw [h.1, h.2]
  simp
theorem cutS_eq (s : List Nat) (lo hi : Option Int) : cutS ⟨s.toArray⟩ lo hi = ⟨(Mini.cut s lo hi).toArray⟩ := by
  unfold cutS Mini.cut
  rw [cutAt_eq, cutAt_eq, str_len]
theorem sl_ok : ∀ {dx d : Da} {lo hi : Option Int}, Mini.slF dx lo hi = some d → SlD X dx lo hi d := by
  intro dx d lo hi h
  unfold Mini.slF at h
  split at h
  · cases h
    refine ⟨_, sl_tupA, fun G H x sm hx Q q => ?_⟩
    cases hx with
    | @tup a vs ds t e =>
      have ec := cut_eq e lo hi
      refine ⟨_, _, rfl, Same.tup sm t, fun hw => ?_, fun _ p hp => ?_⟩
      · rw [cut_whole hw] at ec
        exact q _ G H (Gr.refl sm) (.tup t ec)
      · have g := Gr.new (o := .tup (cutV vs lo hi)) sm hp
        exact q _ _ _ g (.tup (SqT.of upd_same) (ec.mono g.g))
  · split at h
    · rename_i hl
      cases h
      refine ⟨_, sl_str, fun G H x sm hx Q q => ?_⟩
      cases hx
      refine ⟨_, rfl, by rw [str_len]; exact le_line hl, ?_⟩
      rw [cutS_eq]
      exact q _ G H (Gr.refl sm) (.str _)
    · cases h
  · cases h
end
end MS

set_option Elab.async false
set_option linter.all false
set_option maxRecDepth 100000
set_option maxHeartbeats 4000000
/-! SoundE: contexts, calls, the expressions one by one. -/
namespace MS
open PySem PySem.Spec PyProof.Rows L2

/-! ### calls by data -/
def LentAt (vs : List V) (cells : List Mini.Cell) (i : Nat) (a : Addr) : Prop := vs[i]? = some (V.ref a) ∧ ∃ (m : Bool) (xs : List Da), cells[i]? = some (Mini.Cell.ow m xs)
structure ArgsOk (K : Frag) (G H : Hp) (vs : List V) (cells : List Mini.Cell) : Prop where
  len : vs.length = cells.length
  fz : ∀ (i : Nat) (d : Da), cells[i]? = some (Mini.Cell.fz d) → ∃ v, vs[i]? = some v ∧ IsD K G v d
  ow : ∀ (i : Nat) (m : Bool) (xs : List Da), cells[i]? = some (Mini.Cell.ow m xs) → ∃ (a : Addr) (us : List V), vs[i]? = some (V.ref a) ∧ H a = some (HO.lst us) ∧ G a = none ∧ IsDs K G us xs
  dist : ∀ i j a, LentAt vs cells i a → LentAt vs cells j a → i = j
structure CallOut (K : Frag) (G H : Hp) (vs : List V) (cells : List Mini.Cell) (G' H' : Hp) (cells' : List Mini.Cell) : Prop where
  g : Same G G'
  sub : Same G' H'
  dm : ∀ a, H a ≠ none → H' a ≠ none
  fr : ∀ a o, H a = some o → G a = none → (∀ i, ¬ LentAt vs cells i a) → H' a = some o ∧ G' a = none
  ow : ∀ (i : Nat) (m : Bool) (xs : List Da), cells[i]? = some (Mini.Cell.ow m xs) → ∃ (ys : List Da) (a : Addr) (us : List V), cells'[i]? = some (Mini.Cell.ow m ys) ∧ vs[i]? = some (V.ref a) ∧ H' a = some (HO.lst us) ∧ G' a = none ∧ IsDs K G' us ys
def RetOk (K : Frag) (H0 G' H' : Hp) (v : V) : Mini.Ret → Prop
  | .fz d => IsD K G' v d
  | .ow xs => ∃ (a : Addr) (us : List V), v = .ref a ∧ H' a = some (HO.lst us) ∧ G' a = none ∧ IsDs K G' us xs ∧ H0 a = none
/-- the promise: the arguments are data, the mini def hands back r: so does this one -/
def spF (Cl : Mini.Call) (f : Nat) (ps : Nat) (K : Frag) : Sp := fun vs H Q _ => vs.length = ps ∧ ∃ (G : Hp) (cells : List Mini.Cell) (r : Mini.Ret) (cells' : List Mini.Cell), Same G H ∧ ArgsOk K G H vs cells ∧ Cl f cells = some (r, cells') ∧
  ∀ v G' H', CallOut K G H vs cells G' H' cells' → RetOk K H G' H' v r → Q v H'

/-! ### where one stands -/
def bltNames : List Str := ["len", "abs", "int", "str", "max", "min", "sum", "all", "any", "tuple", "list", "range", "enumerate", "zip", "isinstance", "bool", "dict", "sorted", "set"]
structure Rt (T : Top) (n : Nat) (prog : Nat → Option Mini.Def) (P : Program) (w : World) (K : Frag) (mg : Str → Option Value) (base : Heap) : Prop where
  fn : ∀ (f : Nat) (x : Str), T.names[f]? = some x → ∃ (a : Addr) (fd : FuncData) (ps : List Str), mg x = some (.ref a) ∧ PySem.W.keepIn K (.ref a) = true ∧ Binds K fd ps [] ∧ FnOk P w K mg base CX0 n a fd ps (spF (Mini.callF prog n) f ps.length K) ∧
    ∀ cells r, Mini.callF prog n f cells = some r → cells.length = ps.length
  bl : ∀ x : Str, x ∈ bltNames → mg x = none
  cs : ∀ (x : Str) (d : Da), (x, d) ∈ T.consts → ∃ (u : Value) (v : V), mg x = some u ∧ RelV v u ∧ ∀ G, IsD K G v d
structure Good (T : Top) (n : Nat) (prog : Nat → Option Mini.Def) (C : Ctx) (X : Cx) : Prop where
  N : X.N = C.N
  sc : X.env.scope = C.sc
  fn : X.fn = C.fn
  calm : X.calm = true
  nd : C.N.Nodup
  xe : X.xe = fun _ _ => False
  room : Room n X.A
  rt : Rt T n prog X.prog X.w X.K X.mg X.base
section
variable {T : Top} {n : Nat} {prog : Nat → Option Mini.Def} {C : Ctx} {X : Cx}
theorem Good.gl (g : Good T n prog C X) {x : Str} (h : glB C.sc x = true) : Gl X x ∧ (x == ("__debug__" : Str)) = false ∧ x ≠ "__name__" := by
  obtain ⟨a, b, c⟩ := glB_of h
  refine ⟨?_, b, c⟩
  show X.env.scope.names.lookup x = _
  rw [g.sc]; exact a
theorem Good.var (g : Good T n prog C X) {i : Nat} {x : Str} (h : varB C i x = true) (p : Pos) : PE X (.Name x p) (tVar i) := by
  unfold varB at h
  simp only [Bool.and_eq_true, decide_eq_true_eq, Bool.not_eq_true'] at h
  obtain ⟨⟨⟨h1, h2⟩, h3⟩, h4⟩ := h
  exact pe_var (by rw [g.N]; exact h1) (by rw [g.sc]; exact visB_of h2) h3 h4
theorem Good.hu (g : Good T n prog C X) : X.A.units + 65 < cLine := by
  have := (g.room.mono (Nat.le_refl _)).un
  omega
theorem starE {x : Expr} {xs : List Expr} {env : Env} (h : notStar x = true) : starEach (x :: xs) env = (false, eval x env) :: starEach xs env := by
  cases x <;> first | rfl | cases h
theorem starsE : ∀ {xs : List Expr} {env : Env}, xs.all notStar = true → (starEach xs env).any (·.1) = false
  | [], _, _ => rfl
  | x :: xs, env, h => by
    rw [List.all_cons, Bool.and_eq_true] at h
    rw [starE h.1, List.any_cons, starsE h.2]
    rfl
theorem backE {pos : Pos} {l : List (Bool × Sem Value)} (h : l.any (·.1) = false) : (backTo pos l).any (·.1) = false := by
  unfold backTo
  rw [List.any_map]
  exact h
theorem backE1 {pos : Pos} {x : Expr} {xs : List Expr} {env : Env} (h : starEach (x :: xs) env = (false, eval x env) :: starEach xs env) : backTo pos (starEach (x :: xs) env) = (false, eval x env) :: backTo pos (starEach xs env) := by
  rw [h]
  rfl
theorem plainIx {b : Expr} (h : plainB b = true) : PlainIx b := by
  cases b <;> first | (intro o i; rfl) | cases h

/-! ### what is shown of each form -/
variable (T n prog)
def SE (a : Mini.E) : Prop := ∀ (C : Ctx) (x : Expr), chkE T C a x = true → ∀ X : Cx, Good T n prog C X → ∀ (Y : Ent) (G H : Hp) (σ : L2.St) (l : Mini.L) (d : Da) (l' : Mini.L), St1 X.K Y G H σ l → Mini.evE (Mini.callF prog n) a l = some (d, l') →
  ∀ Q : VK, (∀ v G' H', Go1 X.K Y G H σ l G' H' l' → IsD X.K G' v d → Q v H') → wE X x σ H Q
def ST (a : Mini.E) : Prop := ∀ (C : Ctx) (x : Expr), chkE T C a x = true → ∀ X : Cx, Good T n prog C X → ∀ (Y : Ent) (G H : Hp) (σ : L2.St) (l : Mini.L) (d : Da) (b : Bool) (l' : Mini.L), St1 X.K Y G H σ l → Mini.evE (Mini.callF prog n) a l = some (d, l') → Mini.truth d = some b →
  ∀ Q : Bool → Hp → Prop, (∀ G' H', Go1 X.K Y G H σ l G' H' l' → Q b H') → wT X x σ H Q
inductive AvsOk (K : Frag) (G : Hp) (σ : L2.St) : List V → List Mini.AV → Prop
  | nil : AvsOk K G σ [] []
  | v {v : V} {d : Da} {vs : List V} {as : List Mini.AV} : IsD K G v d → AvsOk K G σ vs as → AvsOk K G σ (v :: vs) (.v d :: as)
  | ln {x : Nat} {a : Addr} {vs : List V} {as : List Mini.AV} : σ[x]? = some (some (V.ref a)) → AvsOk K G σ vs as → AvsOk K G σ (.ref a :: vs) (.ln x :: as)
def SAs (a : Mini.As) : Prop := ∀ (C : Ctx) (xs : List Expr), chkAs T C a xs = true → ∀ X : Cx, Good T n prog C X → ∀ (Y : Ent) (G H : Hp) (σ : L2.St) (l : Mini.L) (as : List Mini.AV) (l' : Mini.L), St1 X.K Y G H σ l → Mini.evAs (Mini.callF prog n) a l = some (as, l') →
  ∀ Q : List V → Hp → Prop, (∀ vs G' H', Go1 X.K Y G H σ l G' H' l' → AvsOk X.K G' σ vs as → Q vs H') → wA X xs σ H Q
def SP' (a : Mini.Pt) : Prop := ∀ (C : Ctx) (x : Option Expr), chkP T C a x = true → ∀ X : Cx, Good T n prog C X → ∀ (Y : Ent) (G H : Hp) (σ : L2.St) (l : Mini.L) (o : Option Int) (l' : Mini.L), St1 X.K Y G H σ l → Mini.evP (Mini.callF prog n) a l = some (o, l') →
  ∀ Q : Option Int → Hp → Prop, (∀ G' H', Go1 X.K Y G H σ l G' H' l' → Q o H') → wPt X x σ H Q
/-- a list of one's own, fresh or moved, at a -/
structure OC (K : Frag) (Y : Ent) (G H : Hp) (σ : L2.St) (l : Mini.L) (G' H' : Hp) (l' : Mini.L) (a : Addr) (us : List V) (xs : List Da) : Prop where
  go : Go1 K Y G H σ l G' H' l'
  at_ : H' a = some (.lst us)
  no : G' a = none
  ds : IsDs K G' us xs
  h0 : Y.H0 a = none
  nw : ∀ i, ¬ OwnAt σ l' i a
  src : H a ≠ none → ∃ i, OwnAt σ l i a
def SO (a : Mini.O) : Prop := ∀ (C : Ctx) (x : Expr), chkO T C a x = true → ∀ X : Cx, Good T n prog C X → ∀ (Y : Ent) (G H : Hp) (σ : L2.St) (l : Mini.L) (xs : List Da) (l' : Mini.L), St1 X.K Y G H σ l → Mini.evO (Mini.callF prog n) a l = some (xs, l') →
  ∀ Q : VK, (∀ a us G' H', OC X.K Y G H σ l G' H' l' a us xs → Q (.ref a) H') → wE X x σ H Q
variable {T n prog}

/-! ### expressions -/
theorem se_var (i : Nat) : SE T n prog (.var i) := by
  intro C x hc X g Y G H σ l d l' s ev Q q
  unfold chkE at hc
  split at hc
  · rename_i id p
    rw [Mini.evE, Option.map_eq_some_iff] at ev
    obtain ⟨d', h1, h2⟩ := ev
    cases h2
    have hz : l[i]? = some (Mini.Cell.fz d) := by
      unfold Mini.getZ at h1
      split at h1
      · rename_i e q; cases h1; exact q
      · cases h1
    obtain ⟨v, e1, e2⟩ := s.fz i d hz
    exact pe_w (g.var hc p) ⟨v, e1, q v G H (Go1.refl s) e2⟩
  · cases hc
theorem se_cst (nm : List Nat) (d : Da) : SE T n prog (.cst nm d) := by
  intro C x hc X g Y G H σ l d' l' s ev Q q
  unfold chkE at hc
  split at hc
  · rename_i id p
    rw [Mini.evE] at ev
    cases ev
    simp only [Bool.and_eq_true, beq_iff_eq] at hc
    obtain ⟨⟨h1, h2⟩, h3⟩ := hc
    obtain ⟨g1, g2, g3⟩ := g.gl h1
    rw [List.any_eq_true] at h3
    obtain ⟨⟨y, e⟩, m1, m2⟩ := h3
    simp only [Bool.and_eq_true, beq_iff_eq] at m2
    obtain ⟨m2, m3⟩ := m2
    have := deq_eq m3
    subst this
    subst m2
    obtain ⟨u, v, r1, r2, r3⟩ := g.rt.cs _ _ m1
    exact pe_w (pe_glob g1 r1 r2 g2) (q v G H (Go1.refl s) (r3 G))
  · cases hc
theorem se_lit (d : Da) : SE T n prog (.lit d) := by
  intro C x hc X g Y G H σ l d' l' s ev Q q
  unfold chkE at hc
  split at hc
  · rename_i c k p
    rw [Mini.evE] at ev
    cases ev
    unfold litB at hc
    split at hc
    · have := beq_iff_eq.mp hc
      subst this
      exact pe_w pe_int (q _ G H (Go1.refl s) (.int _))
    · have := beq_iff_eq.mp hc
      subst this
      exact pe_w pe_bl (q _ G H (Go1.refl s) (.bl _))
    · exact pe_w pe_non (q _ G H (Go1.refl s) .non)
    · rename_i z y
      have e := beq_iff_eq.mp hc
      have e2 : y = ⟨z.toArray⟩ := by rw [← e]
      subst e2
      exact pe_w pe_str (q _ G H (Go1.refl s) (.str _))
    · cases hc
  · cases hc
theorem se_bin {op : Mini.Op} {a b : Mini.E} (ha : SE T n prog a) (hb : SE T n prog b) : SE T n prog (.bin op a b) := by
  intro C x hc X g Y G H σ l d l' s ev Q q
  unfold chkE at hc
  split at hc
  · rename_i u o v p
    simp only [Bool.and_eq_true] at hc
    obtain ⟨⟨h1, h2⟩, h3⟩ := hc
    rw [opB_eq h1]
    simp only [Mini.evE, Option.bind_eq_some_iff, Option.map_eq_some_iff] at ev
    obtain ⟨⟨da, l1⟩, e1, ⟨db, l2⟩, e2, dd, e3, e4⟩ := ev
    cases e4
    obtain ⟨r, ho, hr⟩ := op2_bin (X := X) op e3
    refine pe_w (pe_op ho (pw X u) (pw X v)) (ha C u h2 X g Y G H σ l da l1 s e1 _ fun x1 G1 H1 g1 d1 => ?_)
    refine hb C v h3 X g Y G1 H1 σ l1 db l2 g1.st e2 _ fun x2 G2 H2 g2 d2 => ?_
    exact hr G2 H2 x1 x2 g2.st.sub (d1.mono g2.g) d2 _ fun z G3 H3 g3 d3 => q z G3 H3 ((g1.trans g2).then g3) d3
  · cases hc
theorem se_neg {a : Mini.E} (ha : SE T n prog a) : SE T n prog (.neg a) := by
  intro C x hc X g Y G H σ l d l' s ev Q q
  unfold chkE at hc
  split at hc
  · rename_i u p
    simp only [Mini.evE, Option.bind_eq_some_iff, Option.map_eq_some_iff] at ev
    obtain ⟨⟨da, l1⟩, e1, i, e3, e4⟩ := ev
    cases e4
    refine pe_w (pe_un un_neg (pw X u)) (ha C u hc X g Y G H σ l da l1 s e1 _ fun x1 G1 H1 g1 d1 => ?_)
    cases d1 <;> simp only [Mini.int?, Option.some.injEq, reduceCtorEq] at e3
    subst e3
    exact ⟨_, rfl, q _ G1 H1 g1 (.int _)⟩
  · cases hc
theorem se_not {a : Mini.E} (ha : SE T n prog a) : SE T n prog (.not a) := by
  intro C x hc X g Y G H σ l d l' s ev Q q
  unfold chkE at hc
  split at hc
  · rename_i u p
    simp only [Mini.evE, Option.bind_eq_some_iff, Option.map_eq_some_iff] at ev
    obtain ⟨⟨da, l1⟩, e1, b, e3, e4⟩ := ev
    cases e4
    refine pe_w (pe_notT (pw X u)) (ha C u hc X g Y G H σ l da l1 s e1 _ fun x1 G1 H1 g1 d1 => ?_)
    exact ⟨b, truth_of e3 (d1.mono g1.st.sub), q _ G1 H1 g1 (.bl _)⟩
  · cases hc
theorem bool_of {K : Frag} {G : Hp} {v : V} {d : Da} {c : Bool} (h : Mini.bool? d = some c) (hv : IsD K G v d) : v = .bl c ∧ d = .bl c := by
  cases hv <;> simp only [Mini.bool?, Option.some.injEq, reduceCtorEq] at h
  subst h
  exact ⟨rfl, rfl⟩
theorem se_and {a b : Mini.E} (ha : SE T n prog a) (hb : SE T n prog b) : SE T n prog (.and a b) := by
  intro C x hc X g Y G H σ l d l' s ev Q q
  simp only [Mini.evE, Option.bind_eq_some_iff] at ev
  obtain ⟨⟨da, l1⟩, e1, c, e2, e3⟩ := ev
  have main : ∀ (u w : Expr), chkE T C a u = true → chkE T C b w = true → ∀ (σ' : L2.St), σ' = σ → tAndV (wE X u) (wE X w) σ H Q := by
    intro u w h1 h2 _ _
    refine ha C u h1 X g Y G H σ l da l1 s e1 _ fun x1 G1 H1 g1 d1 => ?_
    obtain ⟨ev1, ed⟩ := bool_of e2 d1
    refine ⟨c, ev1, ?_⟩
    cases c with
    | true =>
      exact iteT (hb C w h2 X g Y G1 H1 σ l1 d l' g1.st (by simpa using e3) _ fun x2 G2 H2 g2 d2 => q x2 G2 H2 (g1.trans g2) d2)
    | false =>
      have e4 : (Mini.Da.bl false, l1) = (d, l') := by simpa using e3
      cases e4
      exact iteF (q _ G1 H1 g1 (.bl _))
  unfold chkE at hc
  split at hc
  · rename_i u v p
    rw [Bool.and_eq_true] at hc
    exact pe_w (pe_and (pw X u) (pe_one (pw X v))) (main u v hc.1 hc.2 σ rfl)
  · rename_i u v w r p
    rw [Bool.and_eq_true] at hc
    exact pe_w (pe_and (pw X u) (pw X _)) (main u _ hc.1 hc.2 σ rfl)
  · cases hc
theorem se_or {a b : Mini.E} (ha : SE T n prog a) (hb : SE T n prog b) : SE T n prog (.or a b) := by
  intro C x hc X g Y G H σ l d l' s ev Q q
  simp only [Mini.evE, Option.bind_eq_some_iff] at ev
  obtain ⟨⟨da, l1⟩, e1, c, e2, e3⟩ := ev
  have main : ∀ (u w : Expr), chkE T C a u = true → chkE T C b w = true → tOrV (wE X u) (wE X w) σ H Q := by
    intro u w h1 h2
    refine ha C u h1 X g Y G H σ l da l1 s e1 _ fun x1 G1 H1 g1 d1 => ?_
    obtain ⟨ev1, ed⟩ := bool_of e2 d1
    refine ⟨c, ev1, ?_⟩
    cases c with
    | false =>
      exact iteF (hb C w h2 X g Y G1 H1 σ l1 d l' g1.st (by simpa using e3) _ fun x2 G2 H2 g2 d2 => q x2 G2 H2 (g1.trans g2) d2)
    | true =>
      have e4 : (Mini.Da.bl true, l1) = (d, l') := by simpa using e3
      cases e4
      exact iteT (q _ G1 H1 g1 (.bl _))
  unfold chkE at hc
  split at hc
  · rename_i u v p
    rw [Bool.and_eq_true] at hc
    exact pe_w (pe_or (pw X u) (pe_one (pw X v))) (main u v hc.1 hc.2)
  · rename_i u v w r p
    rw [Bool.and_eq_true] at hc
    exact pe_w (pe_or (pw X u) (pw X _)) (main u _ hc.1 hc.2)
  · cases hc
theorem se_ife {t a b : Mini.E} (ht : ST T n prog t) (ha : SE T n prog a) (hb : SE T n prog b) : SE T n prog (.ife t a b) := by
  intro C x hc X g Y G H σ l d l' s ev Q q
  unfold chkE at hc
  split at hc
  · rename_i c u v p
    simp only [Bool.and_eq_true] at hc
    obtain ⟨⟨h1, h2⟩, h3⟩ := hc
    simp only [Mini.evE, Option.bind_eq_some_iff] at ev
    obtain ⟨⟨dt, l1⟩, e1, k, e2, e3⟩ := ev
    refine pe_w (pe_ifExp (pwT X c) (pw X u) (pw X v)) (ht C c h1 X g Y G H σ l dt k l1 s e1 e2 _ fun G1 H1 g1 => ?_)
    cases k with
    | true => exact iteT (ha C u h2 X g Y G1 H1 σ l1 d l' g1.st (by simpa using e3) _ fun x2 G2 H2 g2 d2 => q x2 G2 H2 (g1.trans g2) d2)
    | false => exact iteF (hb C v h3 X g Y G1 H1 σ l1 d l' g1.st (by simpa using e3) _ fun x2 G2 H2 g2 d2 => q x2 G2 H2 (g1.trans g2) d2)
  · cases hc
theorem cmp_core {op : Mini.Cop} {a b : Mini.E} (ha : SE T n prog a) (hb : SE T n prog b) {C : Ctx} {u v : Expr} (h2 : chkE T C a u = true) (h3 : chkE T C b v = true) {X : Cx} (g : Good T n prog C X) {Y : Ent} {G H : Hp} {σ : L2.St} {l : Mini.L} {d : Da} {l' : Mini.L}
    (s : St1 X.K Y G H σ l) (ev : Mini.evE (Mini.callF prog n) (.cmp op a b) l = some (d, l')) : ∃ r, OpR X (compareOp (copOf op)) r ∧ ∃ c, d = .bl c ∧ ∀ Q : VK, (∀ G' H', Go1 X.K Y G H σ l G' H' l' → Q (.bl c) H') → tOp r (wE X u) (wE X v) σ H Q := by
  simp only [Mini.evE, Option.bind_eq_some_iff, Option.map_eq_some_iff] at ev
  obtain ⟨⟨da, l1⟩, e1, ⟨db, l2⟩, e2, c, e3, e4⟩ := ev
  cases e4
  obtain ⟨r, ho, hr⟩ := op2_cmp (X := X) g.hu op e3
  refine ⟨r, ho, c, rfl, fun Q q => ?_⟩
  refine ha C u h2 X g Y G H σ l da l1 s e1 _ fun x1 G1 H1 g1 d1 => ?_
  refine hb C v h3 X g Y G1 H1 σ l1 db l2 g1.st e2 _ fun x2 G2 H2 g2 d2 => ?_
  exact hr G2 H2 x1 x2 g2.st.sub (d1.mono g2.g) d2 _ fun z G3 H3 g3 d3 => by
    cases d3
    exact q G3 H3 ((g1.trans g2).then g3)
theorem se_cmp {op : Mini.Cop} {a b : Mini.E} (ha : SE T n prog a) (hb : SE T n prog b) : SE T n prog (.cmp op a b) := by
  intro C x hc X g Y G H σ l d l' s ev Q q
  unfold chkE at hc
  split at hc
  · rename_i u o v p
    simp only [Bool.and_eq_true, Bool.not_eq_true'] at hc
    obtain ⟨⟨⟨h1, h2⟩, h3⟩, h4⟩ := hc
    obtain ⟨r, ho, c, rfl, hr⟩ := cmp_core ha hb h3 h4 g s ev
    rw [copB_eq h1] at h2 ⊢
    exact pe_w (pe_cmpR ho (pw X u) (pw X v) h2) (hr _ fun G' H' g' => q _ G' H' g' (.bl _))
  · cases hc
theorem st_cmp {op : Mini.Cop} {a b : Mini.E} (ha : SE T n prog a) (hb : SE T n prog b) : ST T n prog (.cmp op a b) := by
  intro C x hc X g Y G H σ l d b' l' s ev tb Q q
  unfold chkE at hc
  split at hc
  · rename_i u o v p
    simp only [Bool.and_eq_true, Bool.not_eq_true'] at hc
    obtain ⟨⟨⟨h1, h2⟩, h3⟩, h4⟩ := hc
    obtain ⟨r, ho, c, rfl, hr⟩ := cmp_core ha hb h3 h4 g s ev
    cases tb
    rw [copB_eq h1] at h2 ⊢
    exact pt_w (pt_cmpR ho (pw X u) (pw X v) h2) (hr _ fun G' H' g' => ⟨_, rfl, q G' H' g'⟩)
  · cases hc
end
end MS

set_option Elab.async false
set_option linter.all false
set_option maxRecDepth 100000
set_option maxHeartbeats 4000000
/-! SoundF: calls, the other expressions. -/
namespace MS
open PySem PySem.Spec PyProof.Rows L2

/-! ### what a call is handed -/
theorem getO_some {l : Mini.L} {x : Nat} {xs : List Da} (h : Mini.getO l x = some xs) : ∃ m, l[x]? = some (Mini.Cell.ow m xs) := by
  unfold Mini.getO at h
  split at h
  · rename_i m ys q; cases h; exact ⟨m, q⟩
  · cases h
theorem avCells_get {l : Mini.L} : ∀ {as : List Mini.AV} {cells : List Mini.Cell}, Mini.avCells l as = some cells → cells.length = as.length ∧ ∀ (i : Nat),
    (∀ d, as[i]? = some (Mini.AV.v d) → cells[i]? = some (Mini.Cell.fz d)) ∧ (∀ x, as[i]? = some (Mini.AV.ln x) → ∃ xs, Mini.getO l x = some xs ∧ cells[i]? = some (Mini.Cell.ow false xs))
  | [], cells, h => by
    cases h
    exact ⟨rfl, fun i => ⟨fun d e => by simp at e, fun x e => by simp at e⟩⟩
  | .v d :: r, cells, h => by
    rw [Mini.avCells, Option.map_eq_some_iff] at h
    obtain ⟨cs, h1, rfl⟩ := h
    obtain ⟨e0, ih⟩ := avCells_get h1
    refine ⟨by simp [e0], fun i => ?_⟩
    cases i with
    | zero => exact ⟨fun d' e => by simpa using e, fun x e => by simp at e⟩
    | succ i => exact ⟨fun d' e => by simpa using (ih i).1 d' (by simpa using e), fun x e => by simpa using (ih i).2 x (by simpa using e)⟩
  | .ln x :: r, cells, h => by
    rw [Mini.avCells, Option.bind_eq_some_iff] at h
    obtain ⟨xs, h0, h⟩ := h
    rw [Option.map_eq_some_iff] at h
    obtain ⟨cs, h1, rfl⟩ := h
    obtain ⟨e0, ih⟩ := avCells_get h1
    refine ⟨by simp [e0], fun i => ?_⟩
    cases i with
    | zero =>
      refine ⟨fun d' e => by simp at e, fun y e => ?_⟩
      have e : x = y := by simpa using e
      subst e
      exact ⟨xs, h0, by simp⟩
    | succ i => exact ⟨fun d' e => by simpa using (ih i).1 d' (by simpa using e), fun x e => by simpa using (ih i).2 x (by simpa using e)⟩
theorem lentOf_mem : ∀ {as : List Mini.AV} {i x : Nat}, as[i]? = some (Mini.AV.ln x) → x ∈ Mini.lentOf as
  | .v d :: r, 0, x, e => by simp at e
  | .v d :: r, i + 1, x, e => by
    rw [Mini.lentOf]; exact lentOf_mem (i := i) (by simpa using e)
  | .ln y :: r, 0, x, e => by
    have e : y = x := by simpa using e
    subst e
    rw [Mini.lentOf]; exact List.mem_cons_self
  | .ln y :: r, i + 1, x, e => by
    rw [Mini.lentOf]; exact List.mem_cons_of_mem _ (lentOf_mem (i := i) (by simpa using e))
  | [], _, _, e => by simp at e
theorem lentOf_inj : ∀ {as : List Mini.AV} {i j x : Nat}, (Mini.lentOf as).Nodup → as[i]? = some (Mini.AV.ln x) → as[j]? = some (Mini.AV.ln x) → i = j
  | .v d :: r, 0, j, x, _, e, _ => by simp at e
  | .v d :: r, i + 1, 0, x, _, _, e => by simp at e
  | .v d :: r, i + 1, j + 1, x, n, e, e' => by
    rw [Mini.lentOf] at n
    rw [lentOf_inj (i := i) (j := j) n (by simpa using e) (by simpa using e')]
  | .ln y :: r, 0, 0, x, _, _, _ => rfl
  | .ln y :: r, 0, j + 1, x, n, e, e' => by
    have e : y = x := by simpa using e
    subst e
    rw [Mini.lentOf, List.nodup_cons] at n
    exact absurd (lentOf_mem (i := j) (by simpa using e')) n.1
  | .ln y :: r, i + 1, 0, x, n, e, e' => by
    have e' : y = x := by simpa using e'
    subst e'
    rw [Mini.lentOf, List.nodup_cons] at n
    exact absurd (lentOf_mem (i := i) (by simpa using e)) n.1
  | .ln y :: r, i + 1, j + 1, x, n, e, e' => by
    rw [Mini.lentOf, List.nodup_cons] at n
    rw [lentOf_inj (i := i) (j := j) n.2 (by simpa using e) (by simpa using e')]
  | [], _, _, _, _, e, _ => by simp at e
theorem mem_lentOf : ∀ {as : List Mini.AV} {x : Nat}, x ∈ Mini.lentOf as → ∃ i : Nat, as[i]? = some (Mini.AV.ln x)
  | .v d :: r, x, h => by
    rw [Mini.lentOf] at h
    obtain ⟨i, e⟩ := mem_lentOf h
    exact ⟨i + 1, by simpa using e⟩
  | .ln y :: r, x, h => by
    rw [Mini.lentOf] at h
    rcases List.mem_cons.mp h with e | h
    · subst e; exact ⟨0, by simp⟩
    · obtain ⟨i, e⟩ := mem_lentOf h
      exact ⟨i + 1, by simpa using e⟩
  | [], _, h => by cases h
theorem updO_length (x : Nat) (xs : List Da) (l : Mini.L) : (Mini.updO x xs l).length = l.length := by
  unfold Mini.updO
  split
  · rw [List.length_set]
  · rfl
theorem updO_other {x y : Nat} {xs : List Da} {l : Mini.L} (h : x ≠ y) : (Mini.updO x xs l)[y]? = l[y]? := by
  unfold Mini.updO
  split
  · rw [List.getElem?_set_ne h]
  · rfl
theorem updO_at {x : Nat} {xs ys : List Da} {m : Bool} {l : Mini.L} (h : l[x]? = some (Mini.Cell.ow m ys)) : (Mini.updO x xs l)[x]? = some (Mini.Cell.ow m xs) := by
  unfold Mini.updO
  rw [h]
  exact List.getElem?_set_self (List.getElem?_eq_some_iff.mp h).1
theorem putBack_length : ∀ (as : List Mini.AV) (cs : List Mini.Cell) (l : Mini.L), (Mini.putBack as cs l).length = l.length
  | [], [], l => rfl
  | [], _ :: _, l => rfl
  | .v _ :: _, [], l => rfl
  | .ln _ :: _, [], l => rfl
  | .v _ :: r, _ :: cs, l => putBack_length r cs l
  | .ln x :: r, .ow _ ys :: cs, l => by
    show (Mini.putBack r cs (Mini.updO x ys l)).length = _
    rw [putBack_length r cs, updO_length]
  | .ln x :: r, .fz _ :: cs, l => putBack_length r cs l
  | .ln x :: r, .un :: cs, l => putBack_length r cs l
theorem putBack_other : ∀ {as : List Mini.AV} {cs : List Mini.Cell} {l : Mini.L} {y : Nat}, y ∉ Mini.lentOf as → (Mini.putBack as cs l)[y]? = l[y]?
  | [], [], l, _, _ => rfl
  | [], _ :: _, l, _, _ => rfl
  | .v _ :: _, [], l, _, _ => rfl
  | .ln _ :: _, [], l, _, _ => rfl
  | .v _ :: r, _ :: cs, l, y, h => putBack_other (as := r) (cs := cs) h
  | .ln x :: r, .ow _ ys :: cs, l, y, h => by
    have h' : y ∉ x :: Mini.lentOf r := h
    rw [List.mem_cons, not_or] at h'
    show (Mini.putBack r cs (Mini.updO x ys l))[y]? = _
    rw [putBack_other h'.2, updO_other (Ne.symm h'.1)]
  | .ln x :: r, .fz _ :: cs, l, y, h => putBack_other (as := r) (cs := cs) fun z => h (List.mem_cons_of_mem _ z)
  | .ln x :: r, .un :: cs, l, y, h => putBack_other (as := r) (cs := cs) fun z => h (List.mem_cons_of_mem _ z)
theorem putBack_at : ∀ {as : List Mini.AV} {cs : List Mini.Cell} {l : Mini.L} {i x : Nat} {m m' : Bool} {xs ys : List Da}, (Mini.lentOf as).Nodup → as[i]? = some (Mini.AV.ln x) → cs[i]? = some (Mini.Cell.ow m' ys) → l[x]? = some (Mini.Cell.ow m xs) →
    (Mini.putBack as cs l)[x]? = some (Mini.Cell.ow m ys) := by
  intro as
  induction as with
  | nil => intro cs l i x m m' xs ys _ e; simp at e
  | cons a r ih =>
    intro cs l i x m m' xs ys hn e1 e2 e3
    cases cs with
    | nil => simp at e2
    | cons c cs =>
      cases i with
      | zero =>
        have e1 : a = .ln x := by simpa using e1
        have e2 : c = .ow m' ys := by simpa using e2
        subst e1 e2
        rw [Mini.lentOf, List.nodup_cons] at hn
        show (Mini.putBack r cs (Mini.updO x ys l))[x]? = _
        rw [putBack_other hn.1]
        exact updO_at e3
      | succ i =>
        have e1 : r[i]? = some (Mini.AV.ln x) := by simpa using e1
        have e2 : cs[i]? = some (Mini.Cell.ow m' ys) := by simpa using e2
        have hm := lentOf_mem e1
        cases a with
        | v d =>
          rw [Mini.lentOf] at hn
          show (Mini.putBack r cs l)[x]? = _
          exact ih hn e1 e2 e3
        | ln y =>
          rw [Mini.lentOf, List.nodup_cons] at hn
          have hne : y ≠ x := fun z => hn.1 (z ▸ hm)
          cases c with
          | ow m2 zs =>
            show (Mini.putBack r cs (Mini.updO y zs l))[x]? = _
            exact ih hn.2 e1 e2 (by rw [updO_other hne]; exact e3)
          | fz d => exact ih hn.2 e1 e2 e3
          | un => exact ih hn.2 e1 e2 e3
section
variable {K : Frag} {Y : Ent} {G H G' H' : Hp} {σ : L2.St} {l : Mini.L} {vs : List V} {as : List Mini.AV} {cells cells' : List Mini.Cell}
theorem AvsOk.mono (e : Same G G') : ∀ {vs : List V} {as : List Mini.AV}, AvsOk K G σ vs as → AvsOk K G' σ vs as
  | _, _, .nil => .nil
  | _, _, .v a b => .v (a.mono e) (AvsOk.mono e b)
  | _, _, .ln a b => .ln a (AvsOk.mono e b)
theorem AvsOk.length : ∀ {vs : List V} {as : List Mini.AV}, AvsOk K G σ vs as → vs.length = as.length
  | _, _, .nil => rfl
  | _, _, .v a b => by rw [List.length_cons, List.length_cons, AvsOk.length b]
  | _, _, .ln a b => by rw [List.length_cons, List.length_cons, AvsOk.length b]
theorem AvsOk.get_v : ∀ {vs : List V} {as : List Mini.AV} {i : Nat} {d : Da}, AvsOk K G σ vs as → as[i]? = some (Mini.AV.v d) → ∃ v, vs[i]? = some v ∧ IsD K G v d
  | _, _, 0, d, .v a b, e => by
    simp at e; subst e; exact ⟨_, by simp, a⟩
  | _, _, 0, _, .ln a b, e => by simp at e
  | _, _, i + 1, _, .v a b, e => by simpa using AvsOk.get_v (i := i) b (by simpa using e)
  | _, _, i + 1, _, .ln a b, e => by simpa using AvsOk.get_v (i := i) b (by simpa using e)
  | _, _, _, _, .nil, e => by simp at e
theorem AvsOk.get_ln : ∀ {vs : List V} {as : List Mini.AV} {i x : Nat}, AvsOk K G σ vs as → as[i]? = some (Mini.AV.ln x) → ∃ a, vs[i]? = some (V.ref a) ∧ σ[x]? = some (some (V.ref a))
  | _, _, 0, _, .v a b, e => by simp at e
  | _, _, 0, x, .ln a b, e => by
    simp at e; subst e; exact ⟨_, by simp, a⟩
  | _, _, i + 1, _, .v a b, e => by simpa using AvsOk.get_ln (i := i) b (by simpa using e)
  | _, _, i + 1, _, .ln a b, e => by simpa using AvsOk.get_ln (i := i) b (by simpa using e)
  | _, _, _, _, .nil, e => by simp at e
theorem AvsOk.vals : ∀ {vs : List V} {as : List Mini.AV} {ds : List Da}, AvsOk K G σ vs as → Mini.vals? as = some ds → IsDs K G vs ds
  | _, _, ds, .nil, e => by cases e; exact .nil
  | _, _, ds, .v a b, e => by
    rw [Mini.vals?, Option.map_eq_some_iff] at e
    obtain ⟨es, e1, rfl⟩ := e
    exact .cons a (AvsOk.vals b e1)
  | _, _, ds, .ln a b, e => by cases e
theorem AvsOk.appV {us : List V} {ds : List Da} (h : IsDs K G us ds) (r : AvsOk K G σ vs as) : AvsOk K G σ (us ++ vs) (ds.map Mini.AV.v ++ as) := by
  induction ds generalizing us with
  | nil => cases h; exact r
  | cons d ds ih =>
    cases h with
    | cons a b => exact .v a (ih b)
theorem lent_own (s : St1 K Y G H σ l) (hv : AvsOk K G σ vs as) (hc : Mini.avCells l as = some cells) {i : Nat} {a : Addr} (h : LentAt vs cells i a) : ∃ x, as[i]? = some (Mini.AV.ln x) ∧ OwnAt σ l x a := by
  obtain ⟨e0, get⟩ := avCells_get hc
  obtain ⟨h1, m, xs, h2⟩ := h
  have hi : i < as.length := by rw [← e0]; exact (List.getElem?_eq_some_iff.mp h2).1
  cases q : as[i]? with
  | none => rw [List.getElem?_eq_none_iff] at q; omega
  | some z =>
    cases z with
    | v d =>
      rw [(get i).1 d q] at h2; cases h2
    | ln x =>
      obtain ⟨ys, g1, g2⟩ := (get i).2 x q
      obtain ⟨b, v1, v2⟩ := hv.get_ln q
      rw [h1] at v1
      cases v1
      obtain ⟨m', g3⟩ := getO_some g1
      exact ⟨x, rfl, v2, m', ys, g3⟩
theorem args_ok (s : St1 K Y G H σ l) (hv : AvsOk K G σ vs as) (hn : (Mini.lentOf as).Nodup) (hc : Mini.avCells l as = some cells) : ArgsOk K G H vs cells := by
  obtain ⟨e0, get⟩ := avCells_get hc
  refine ⟨by rw [e0]; exact hv.length, fun i d e => ?_, fun i m xs e => ?_, fun i j a p q => ?_⟩
  · have hi : i < as.length := by rw [← e0]; exact (List.getElem?_eq_some_iff.mp e).1
    cases q : as[i]? with
    | none => rw [List.getElem?_eq_none_iff] at q; omega
    | some z =>
      cases z with
      | v d' =>
        rw [(get i).1 d' q] at e
        cases e
        exact hv.get_v q
      | ln x =>
        obtain ⟨ys, g1, g2⟩ := (get i).2 x q
        rw [g2] at e; cases e
  · have hi : i < as.length := by rw [← e0]; exact (List.getElem?_eq_some_iff.mp e).1
    cases q : as[i]? with
    | none => rw [List.getElem?_eq_none_iff] at q; omega
    | some z =>
      cases z with
      | v d' => rw [(get i).1 d' q] at e; cases e
      | ln x =>
        obtain ⟨ys, g1, g2⟩ := (get i).2 x q
        rw [g2] at e
        cases e
        obtain ⟨b, v1, v2⟩ := hv.get_ln q
        obtain ⟨m', g3⟩ := getO_some g1
        obtain ⟨c, us, w1, w2, w3, w4, _⟩ := s.ow x m' _ g3
        rw [v2] at w1
        cases w1
        exact ⟨b, us, v1, w2, w3, w4⟩
  · obtain ⟨x, p1, p2⟩ := lent_own s hv hc p
    obtain ⟨y, q1, q2⟩ := lent_own s hv hc q
    have := s.dist x y a p2 q2
    subst this
    exact lentOf_inj hn p1 q1
theorem call_go (s : St1 K Y G H σ l) (hv : AvsOk K G σ vs as) (hn : (Mini.lentOf as).Nodup) (hc : Mini.avCells l as = some cells) (o : CallOut K G H vs cells G' H' cells') : Go1 K Y G H σ l G' H' (Mini.putBack as cells' l) := by
  obtain ⟨e0, get⟩ := avCells_get hc
  -- a slot that is lent
  have lentx : ∀ {x : Nat}, x ∈ Mini.lentOf as → ∃ (i : Nat) (m : Bool) (xs ys : List Da) (a : Addr) (us : List V), as[i]? = some (Mini.AV.ln x) ∧ l[x]? = some (Mini.Cell.ow m xs) ∧ (Mini.putBack as cells' l)[x]? = some (Mini.Cell.ow m ys) ∧ σ[x]? = some (some (V.ref a)) ∧ vs[i]? = some (V.ref a) ∧
      H' a = some (HO.lst us) ∧ G' a = none ∧ IsDs K G' us ys := by
    intro x hx
    obtain ⟨i, hi⟩ := mem_lentOf hx
    obtain ⟨xs, g1, g2⟩ := (get i).2 x hi
    obtain ⟨m, g3⟩ := getO_some g1
    obtain ⟨ys, a, us, q1, q2, q3, q4, q5⟩ := o.ow i false xs g2
    obtain ⟨b, v1, v2⟩ := hv.get_ln hi
    rw [q2] at v1
    cases v1
    exact ⟨i, m, xs, ys, a, us, hi, g3, putBack_at hn hi q1 g3, v2, q2, q3, q4, q5⟩
  have same : ∀ {x : Nat}, x ∉ Mini.lentOf as → (Mini.putBack as cells' l)[x]? = l[x]? := fun h => putBack_other h
  have own_iff : ∀ x a, OwnAt σ (Mini.putBack as cells' l) x a → OwnAt σ l x a := by
    intro x a ⟨h1, m, xs, h2⟩
    by_cases hx : x ∈ Mini.lentOf as
    · obtain ⟨i, m', xs', ys, b, us, q1, q2, q3, q4, _⟩ := lentx hx
      exact ⟨h1, m', xs', q2⟩
    · rw [same hx] at h2
      exact ⟨h1, m, xs, h2⟩
  have nolent : ∀ {a : Addr}, (∀ i, ¬ OwnAt σ l i a) → ∀ i, ¬ LentAt vs cells i a := fun h i z => by
    obtain ⟨x, _, q⟩ := lent_own s hv hc z
    exact h x q
  refine ⟨o.g, ⟨o.sub, s.g0.trans o.g, by rw [putBack_length]; exact s.len, fun i d e => ?_, fun i m xs e => ?_, fun i j a p q => s.dist i j a (own_iff i a p) (own_iff j a q), fun a u e1 e2 e3 => ?_, fun a h => o.dm a (s.dom a h), fun k a h => ?_⟩, fun a u e1 e2 e3 => o.fr a u e1 e2 (nolent e3), own_iff, o.dm⟩
  · by_cases hx : i ∈ Mini.lentOf as
    · obtain ⟨_, m', xs', ys, b, us, q1, q2, q3, q4, _⟩ := lentx hx
      rw [q3] at e; cases e
    · rw [same hx] at e
      obtain ⟨v, q1, q2⟩ := s.fz i d e
      exact ⟨v, q1, q2.mono o.g⟩
  · by_cases hx : i ∈ Mini.lentOf as
    · obtain ⟨j, m', xs', ys, b, us, q1, q2, q3, q4, q5, q6, q7, q8⟩ := lentx hx
      rw [q3] at e
      cases e
      obtain ⟨c, ws, w1, w2, w3, w4, w5⟩ := s.ow i _ xs' q2
      rw [q4] at w1
      cases w1
      exact ⟨b, us, q4, q6, q7, q8, w5⟩
    · rw [same hx] at e
      obtain ⟨c, ws, w1, w2, w3, w4, w5⟩ := s.ow i m xs e
      have nl : ∀ j, ¬ LentAt vs cells j c := fun j z => by
        obtain ⟨x, z1, z2⟩ := lent_own s hv hc z
        have := s.dist i x c ⟨w1, m, xs, e⟩ z2
        subst this
        exact hx (lentOf_mem z1)
      obtain ⟨r1, r2⟩ := o.fr c _ w2 w3 nl
      exact ⟨c, ws, w1, r1, r2, w4.mono o.g, w5⟩
  · obtain ⟨r1, r2⟩ := s.fr0 a u e1 e2 e3
    refine o.fr a u r1 r2 fun j z => ?_
    obtain ⟨x, z1, z2, m, xs, z3⟩ := lent_own s hv hc z
    obtain ⟨c, ws, w1, w2, w3, w4, w5, w6⟩ := s.ow x m xs z3
    rw [z2] at w1
    cases w1
    cases m with
    | true => rw [w5 rfl] at e1; cases e1
    | false => exact e3 x (w6 rfl)
  · obtain ⟨r1, xs, r2⟩ := s.lent k a h
    refine ⟨r1, ?_⟩
    by_cases hx : k ∈ Mini.lentOf as
    · obtain ⟨j, m', xs', ys, b, us, q1, q2, q3, _⟩ := lentx hx
      rw [q2] at r2
      cases r2
      exact ⟨ys, q3⟩
    · exact ⟨xs, by rw [same hx]; exact r2⟩
end

/-! ### what a call hands back -/
def RC' (K : Frag) (Y : Ent) (G H : Hp) (σ : L2.St) (l : Mini.L) (G' H' : Hp) (l' : Mini.L) (v : V) : Mini.Ret → Prop
  | .fz d => Go1 K Y G H σ l G' H' l' ∧ IsD K G' v d
  | .ow xs => ∃ a us, v = .ref a ∧ OC K Y G H σ l G' H' l' a us xs
section
variable {T : Top} {n : Nat} {prog : Nat → Option Mini.Def} {C : Ctx} {X : Cx}
theorem call_core {f : Nat} {es : Mini.As} (hes : SAs T n prog es) {id : Str} {p pos : Pos} {xs : List Expr} (h1 : T.names[f]? = some id) (h2 : glB C.sc id = true) (h3 : xs.all notStar = true) (h4 : chkAs T C es xs = true) (g : Good T n prog C X)
    {Y : Ent} {G H : Hp} {σ : L2.St} {l : Mini.L} {as : List Mini.AV} {l1 : Mini.L} {r : Mini.Ret} {l' : Mini.L} (s : St1 X.K Y G H σ l) (e1 : Mini.evAs (Mini.callF prog n) es l = some (as, l1)) (e2 : Mini.callV (Mini.callF prog n) f as l1 = some (r, l')) {Q : VK}
    (q : ∀ v G' H', RC' X.K Y G H σ l G' H' l' v r → Q v H') : wE X (.Call (.Name id p) xs [] pos) σ H Q := by
  obtain ⟨fa, fd, ps, m1, m2, m3, F, hlen⟩ := g.rt.fn f id h1
  obtain ⟨g1, g2, g3⟩ := g.gl h2
  unfold Mini.callV at e2
  split at e2
  · rename_i hn
    simp only [Option.bind_eq_some_iff, Option.map_eq_some_iff] at e2
    obtain ⟨cells, c1, ⟨r', cells'⟩, c2, c3⟩ := e2
    cases c3
    have hr : Room n X.A := g.room
    have key : tCall (spF (Mini.callF prog n) f ps.length X.K) [] E0 (wA X xs) σ H Q := by
      refine hes C xs h4 X g Y G H σ l as l1 s e1 _ fun vs G1 H1 go1 hv => ?_
      rw [List.append_nil]
      have ao := args_ok go1.st hv hn c1
      refine ⟨by rw [ao.len]; exact hlen _ _ c2, G1, cells, r', cells', go1.st.sub, ao, c2, fun v G' H' o ro => ?_⟩
      have go2 := call_go go1.st hv hn c1 o
      refine q v G' H' ?_
      cases r' with
      | fz d => exact ⟨go1.trans go2, ro⟩
      | ow zs =>
        obtain ⟨a, us, rfl, r1, r2, r3, r4⟩ := ro
        have hH : H a = none := by
          cases z : H a with
          | none => rfl
          | some o => exact absurd r4 (go1.dm a (by rw [z]; simp))
        refine ⟨a, us, rfl, ⟨go1.trans go2, r1, r2, r3, ?_, fun i z => ?_, fun z => absurd hH z⟩⟩
        · cases z : Y.H0 a with
          | none => rfl
          | some o => exact absurd hH (s.dom a (by rw [z]; simp))
        · exact (s.own_some (go1.ow i a (go2.ow i a z))).1 hH
    cases xs with
    | nil =>
      have key0 : tCall (spF (Mini.callF prog n) f ps.length X.K) [] E0 tNil σ H Q := by
        cases es with
        | nil =>
          rw [Mini.evAs] at e1
          cases e1
          have ao := args_ok s (.nil (G := G)) hn c1
          refine ⟨by rw [List.append_nil, ao.len]; exact hlen _ _ c2, G, cells, r', cells', s.sub, ao, c2, fun v G' H' o ro => ?_⟩
          have go2 := call_go s (.nil (G := G)) hn c1 o
          refine q v G' H' ?_
          cases r' with
          | fz d => exact ⟨go2, ro⟩
          | ow zs =>
            obtain ⟨a, us, rfl, r1, r2, r3, r4⟩ := ro
            refine ⟨a, us, rfl, ⟨go2, r1, r2, r3, ?_, fun i z => ?_, fun z => absurd r4 z⟩⟩
            · cases z : Y.H0 a with
              | none => rfl
              | some o => exact absurd r4 (s.dom a (by rw [z]; simp))
            · exact (s.own_some (go2.ow i a z)).1 r4
        | e a r => simp [chkAs] at h4
        | st a r => simp [chkAs] at h4
        | ln a r => simp [chkAs] at h4
      exact pe_w (pe_call0 F hr g1 m1 m2 m3 .nil pass0 g2) key0
    | cons x xs =>
      rw [List.all_cons, Bool.and_eq_true] at h3
      exact pe_w (pe_call F hr g1 m1 m2 m3 .nil pass0 (pwA X (x :: xs)) g2 (starE h3.1) (backE (starsE h3.2))) key
  · cases e2
end
end MS

set_option Elab.async false
set_option linter.all false
set_option maxRecDepth 100000
set_option maxHeartbeats 4000000
/-! SoundG: the other expressions. -/
namespace MS
open PySem PySem.Spec PyProof.Rows L2
section
variable {T : Top} {n : Nat} {prog : Nat → Option Mini.Def}

theorem se_chn {o o' : Mini.Cop} {a b c : Mini.E} (ha : SE T n prog a) (hb : SE T n prog b) (hcc : SE T n prog c) : SE T n prog (.chn o o' a b c) ∧ ST T n prog (.chn o o' a b c) := by
  have core : ∀ (C : Ctx) (x : Expr), chkE T C (.chn o o' a b c) x = true → ∀ X : Cx, Good T n prog C X → ∀ (Y : Ent) (G H : Hp) (σ : L2.St) (l : Mini.L) (d : Da) (l' : Mini.L), St1 X.K Y G H σ l → Mini.evE (Mini.callF prog n) (.chn o o' a b c) l = some (d, l') →
      ∃ u p p' v w pos r r' k, x = .Compare u [p, p'] [v, w] pos ∧ OpR X (compareOp p) r ∧ OpR X (compareOp p') r' ∧ lastMarks [p, p'] [v, w] = false ∧ d = .bl k ∧ ∀ Q : VK, (∀ G' H', Go1 X.K Y G H σ l G' H' l' → Q (.bl k) H') → tChain r r' (wE X u) (wE X v) (wE X w) σ H Q := by
    intro C x hc X g Y G H σ l d l' s ev
    unfold chkE at hc
    split at hc
    · rename_i u p p' v w pos
      simp only [Bool.and_eq_true, Bool.not_eq_true'] at hc
      obtain ⟨⟨⟨⟨⟨h1, h2⟩, h3⟩, h4⟩, h5⟩, h6⟩ := hc
      have ep := copB_eq h1
      have ep' := copB_eq h2
      subst ep ep'
      simp only [Mini.evE, Option.bind_eq_some_iff] at ev
      obtain ⟨⟨da, l1⟩, e1, ⟨db, l2⟩, e2, k, e3, e4⟩ := ev
      obtain ⟨r, ho, hr⟩ := op2_cmp (X := X) g.hu o e3
      cases k with
      | false =>
        have e5 : (Mini.Da.bl false, l2) = (d, l') := by simpa using e4
        cases e5
        refine ⟨u, _, _, v, w, pos, r, fun _ _ _ _ => False, false, rfl, ho, fun _ _ _ _ _ _ _ _ _ _ _ _ z => z.elim, h3, rfl, fun Q q => ?_⟩
        refine ha C u h4 X g Y G H σ l da l1 s e1 _ fun x1 G1 H1 g1 d1 => ?_
        refine hb C v h5 X g Y G1 H1 σ l1 db _ g1.st e2 _ fun x2 G2 H2 g2 d2 => ?_
        exact hr G2 H2 x1 x2 g2.st.sub (d1.mono g2.g) d2 _ fun z G3 H3 g3 d3 => by
          cases d3
          exact ⟨false, rfl, iteF (q G3 H3 ((g1.trans g2).then g3))⟩
      | true =>
        simp only [if_true, Option.bind_eq_some_iff, Option.map_eq_some_iff] at e4
        obtain ⟨⟨dc, l3⟩, e5, k', e6, e7⟩ := e4
        cases e7
        obtain ⟨r', ho', hr'⟩ := op2_cmp (X := X) g.hu o' e6
        refine ⟨u, _, _, v, w, pos, r, r', k', rfl, ho, ho', h3, rfl, fun Q q => ?_⟩
        refine ha C u h4 X g Y G H σ l da l1 s e1 _ fun x1 G1 H1 g1 d1 => ?_
        refine hb C v h5 X g Y G1 H1 σ l1 db _ g1.st e2 _ fun x2 G2 H2 g2 d2 => ?_
        exact hr G2 H2 x1 x2 g2.st.sub (d1.mono g2.g) d2 _ fun z G3 H3 g3 d3 => by
          cases d3
          refine ⟨true, rfl, iteT ?_⟩
          have st3 := (g2.then g3).st
          refine hcc C w h6 X g Y G3 H3 σ _ dc _ st3 e5 _ fun x4 G4 H4 g4 d4 => ?_
          exact hr' G4 H4 x2 x4 g4.st.sub (d2.mono (g3.g.trans g4.g)) d4 _ fun z G5 H5 g5 d5 => by
            cases d5
            exact q G5 H5 ((((g1.trans g2).then g3).trans g4).then g5)
    · cases hc
  refine ⟨fun C x hc X g Y G H σ l d l' s ev Q q => ?_, fun C x hc X g Y G H σ l d b' l' s ev tb Q q => ?_⟩
  · obtain ⟨u, p, p', v, w, pos, r, r', k, rfl, ho, ho', hm, rfl, hr⟩ := core C x hc X g Y G H σ l d l' s ev
    exact pe_w (pe_chain ho ho' (pw X u) (pw X v) (pw X w) hm) (hr _ fun G' H' g' => q _ G' H' g' (.bl _))
  · obtain ⟨u, p, p', v, w, pos, r, r', k, rfl, ho, ho', hm, rfl, hr⟩ := core C x hc X g Y G H σ l d l' s ev
    cases tb
    exact pt_w (pt_chain ho ho' (pw X u) (pw X v) (pw X w) hm) (hr _ fun G' H' g' => ⟨_, rfl, q G' H' g'⟩)
theorem se_tup {es : Mini.As} (hes : SAs T n prog es) : SE T n prog (.tup es) := by
  intro C x hc X g Y G H σ l d l' s ev Q q
  unfold chkE at hc
  split at hc
  · rename_i xs k p
    simp only [Mini.evE, Option.bind_eq_some_iff] at ev
    obtain ⟨⟨as, l1⟩, e1, ds, e2, e3⟩ := ev
    split at e3
    · rename_i hl
      cases e3
      refine pe_w (pe_tup (pwA X xs)) (hes C xs hc X g Y G H σ l as _ s e1 _ fun vs G1 H1 g1 hv => ?_)
      have iv := hv.vals e2
      refine ⟨by rw [iv.length]; exact le_line hl, fun p hp => ?_⟩
      have gr := Gr.new (o := .tup vs) g1.st.sub hp
      exact q _ _ _ (g1.then gr) (.tup (SqT.of upd_same) (iv.mono gr.g))
    · cases e3
  · cases hc
theorem se_ix {a i : Mini.E} (ha : SE T n prog a) (hi : SE T n prog i) : SE T n prog (.ix a i) := by
  intro C x hc X g Y G H σ l d l' s ev Q q
  unfold chkE at hc
  split at hc
  · rename_i u v p
    simp only [Bool.and_eq_true] at hc
    obtain ⟨⟨h1, h2⟩, h3⟩ := hc
    simp only [Mini.evE, Option.bind_eq_some_iff, Option.map_eq_some_iff] at ev
    obtain ⟨⟨da, l1⟩, e1, ⟨db, l2⟩, e2, dd, e3, e4⟩ := ev
    cases e4
    obtain ⟨r, ho, hr⟩ := ix_ok (X := X) e3
    refine pe_w (pe_ix ho (pw X u) (pw X v) (plainIx h1)) (ha C u h2 X g Y G H σ l da l1 s e1 _ fun x1 G1 H1 g1 d1 => ?_)
    refine hi C v h3 X g Y G1 H1 σ l1 db l2 g1.st e2 _ fun x2 G2 H2 g2 d2 => ?_
    exact hr G2 H2 x1 x2 g2.st.sub (d1.mono g2.g) d2 _ fun z G3 H3 g3 d3 => q z G3 H3 ((g1.trans g2).then g3) d3
  · cases hc
theorem se_sl {a : Mini.E} {lo hi : Mini.Pt} (ha : SE T n prog a) (hlo : SP' T n prog lo) (hhi : SP' T n prog hi) : SE T n prog (.sl a lo hi) := by
  intro C x hc X g Y G H σ l d l' s ev Q q
  unfold chkE at hc
  split at hc
  · rename_i u p' q' pp pos
    simp only [Bool.and_eq_true] at hc
    obtain ⟨⟨h1, h2⟩, h3⟩ := hc
    simp only [Mini.evE, Option.bind_eq_some_iff, Option.map_eq_some_iff] at ev
    obtain ⟨⟨da, l1⟩, e1, ⟨o1, l2⟩, e2, ⟨o2, l3⟩, e3, dd, e4, e5⟩ := ev
    cases e5
    obtain ⟨r, ho, hr⟩ := sl_ok (X := X) e4
    refine pe_w (pe_slice ho (pw X u) (pwPt X p') (pwPt X q')) (ha C u h1 X g Y G H σ l da l1 s e1 _ fun x1 G1 H1 g1 d1 => ?_)
    refine hlo C p' h2 X g Y G1 H1 σ l1 o1 l2 g1.st e2 _ fun G2 H2 g2 => ?_
    refine hhi C q' h3 X g Y G2 H2 σ l2 o2 l3 g2.st e3 _ fun G3 H3 g3 => ?_
    exact hr G3 H3 x1 g3.st.sub (d1.mono (g2.g.trans g3.g)) _ fun z G4 H4 g4 d4 => q z G4 H4 (((g1.trans g2).trans g3).then g4) d4
  · cases hc
/-- a list of one's own is frozen -/
theorem OC.freeze {K : Frag} {Y : Ent} {G H G' H' : Hp} {σ : L2.St} {l l' : Mini.L} {a : Addr} {us : List V} {xs : List Da} (o : OC K Y G H σ l G' H' l' a us xs) : Go1 K Y G H σ l (upd G' a (.lst us)) H' l' ∧ IsD K (upd G' a (.lst us)) (.ref a) (.lst xs) := by
  have sm : Same G' (upd G' a (.lst us)) := same_new o.no
  refine ⟨⟨o.go.g.trans sm, o.go.st.freeze o.at_ o.h0 o.nw, fun b u e1 e2 e3 => ?_, o.go.ow, o.go.dm⟩, .lst (SqL.of upd_same) (o.ds.mono sm)⟩
  obtain ⟨r1, r2⟩ := o.go.fr b u e1 e2 e3
  refine ⟨r1, ?_⟩
  by_cases z : b = a
  · subst z
    obtain ⟨i, hi⟩ := o.src (by rw [e1]; simp)
    exact absurd hi (e3 i)
  · rw [upd_ne z]; exact r2
theorem se_call {f : Nat} {es : Mini.As} (hes : SAs T n prog es) : SE T n prog (.call f es) := by
  intro C x hc X g Y G H σ l d l' s ev Q q
  unfold chkE at hc
  split at hc
  · rename_i id p xs pos
    simp only [Bool.and_eq_true, decide_eq_true_eq] at hc
    obtain ⟨⟨⟨h1, h2⟩, h3⟩, h4⟩ := hc
    simp only [Mini.evE, Option.bind_eq_some_iff, Option.map_eq_some_iff] at ev
    obtain ⟨⟨as, l1⟩, e1, ⟨r, l2⟩, e2, e3⟩ := ev
    refine call_core hes h1 h2 h3 h4 g s e1 e2 fun v G' H' rc => ?_
    cases r with
    | fz d' =>
      cases e3
      exact q v G' H' rc.1 rc.2
    | ow zs =>
      cases e3
      obtain ⟨a, us, rfl, o⟩ := rc
      obtain ⟨g1, d1⟩ := o.freeze
      exact q _ _ _ g1 d1
  · cases hc
theorem boot_bi : ∀ b : Mini.Bi, bootBuiltins (biName b) = some (biVal b) := by
  intro b
  cases b <;> decide +kernel
theorem bi_mem : ∀ b : Mini.Bi, biName b ∈ bltNames := by
  intro b
  cases b <;> decide +kernel
theorem se_bi {b : Mini.Bi} {es : Mini.As} (hes : SAs T n prog es) : SE T n prog (.bi b es) := by
  intro C x hc X g Y G H σ l d l' s ev Q q
  unfold chkE at hc
  split at hc
  · rename_i id p u xs pos
    simp only [Bool.and_eq_true, beq_iff_eq] at hc
    obtain ⟨⟨⟨h1, h2⟩, h3⟩, h4⟩ := hc
    subst h1
    obtain ⟨g1, g2, g3⟩ := g.gl h2
    simp only [Mini.evE, Option.bind_eq_some_iff, Option.map_eq_some_iff] at ev
    obtain ⟨⟨as, l1⟩, e1, ds, e2, dd, e3, e4⟩ := ev
    cases e4
    obtain ⟨r, ho, hr⟩ := bi_ok (X := X) g.calm b e3
    have hm := g.rt.bl _ (bi_mem b)
    have hv := boot_bi b
    rw [List.all_cons, Bool.and_eq_true] at h3
    have key : tCB r (wA X (u :: xs)) σ H Q := by
      refine hes C (u :: xs) h4 X g Y G H σ l as _ s e1 _ fun vs G1 H1 go1 hav => ?_
      exact hr G1 H1 vs go1.st.sub (hav.vals e2) _ fun z G3 H3 g3 d3 => q z G3 H3 (go1.then g3) d3
    unfold biVal at ho hv
    cases hb : biTy b with
    | true =>
      rw [if_pos hb] at ho hv
      exact pe_w (pe_callTy ho g1 hm hv (pwA X (u :: xs)) g3 g2 (starE h3.1) (backE (starsE h3.2))) key
    | false =>
      rw [if_neg (by rw [hb]; exact Bool.false_ne_true)] at ho hv
      exact pe_w (pe_callB ho g1 hm hv (pwA X (u :: xs)) g3 g2 (starE h3.1) (backE (starsE h3.2))) key
  · cases hc

/-! ### isinstance -/
def daTy : Da → String
  | .non => "NoneType" | .bl _ => "bool" | .int _ => "int" | .str _ => "str" | .tup _ => "tuple" | .lst _ => "list"
theorem tyx_of {K : Frag} {H : Hp} {v : V} {d : Da} (h : IsD K H v d) : TyX K H v (.type (daTy d)) := by
  cases h with
  | non => exact .base .non
  | bl b => exact .base (.bl b)
  | int i => exact .base (.int i)
  | str s => exact .base (.str _)
  | tup t _ =>
    rcases t with (t | ⟨o, t⟩) | ⟨o, its, m, h1, h2, _⟩
    · exact .base (.tup t)
    · exact .fTuple t
    · exact .kTuple h1 h2
  | lst t _ =>
    rcases t with (t | ⟨o, t⟩) | ⟨o, its, m, h1, h2, _⟩
    · exact .base (.lst t)
    · exact .base (.frz t)
    · exact .kList h1 h2
inductive DK where | non | bl | int | str | tup | lst
def dkOf : Da → DK
  | .non => .non | .bl _ => .bl | .int _ => .int | .str _ => .str | .tup _ => .tup | .lst _ => .lst
def dkS : DK → String
  | .non => "NoneType" | .bl => "bool" | .int => "int" | .str => "str" | .tup => "tuple" | .lst => "list"
def dkTy : DK → Mini.Ty → Bool
  | .bl, .bool => true | .bl, .int => true | .int, .int => true | .str, .str => true | .lst, .list => true | .tup, .tuple => true | _, _ => false
theorem kit_dk (k : DK) (t : Mini.Ty) : kitB (dkS k) (tyStr t) = some (dkTy k t) := by
  cases k <;> cases t <;> decide +kernel
theorem dk_ty (d : Da) (t : Mini.Ty) : Mini.isTy d t = dkTy (dkOf d) t := by
  cases d <;> cases t <;> rfl
theorem dk_s (d : Da) : daTy d = dkS (dkOf d) := by
  cases d <;> rfl
theorem kit_tab (d : Da) (t : Mini.Ty) : kitB (daTy d) (tyStr t) = some (Mini.isTy d t) := by
  rw [dk_ty, dk_s]
  exact kit_dk _ t
theorem boot_ty : ∀ t : Mini.Ty, bootBuiltins (tyName t) = some (.type (tyStr t)) := by
  intro t
  cases t <;> decide +kernel
theorem ty_mem : ∀ t : Mini.Ty, tyName t ∈ bltNames := by
  intro t
  cases t <;> decide +kernel
theorem kitAny_tab {K : Frag} (d : Da) : ∀ ts : List Mini.Ty, PySem.W.kitAny K (.type (daTy d)) (ts.map fun t => .type (tyStr t)) = some (ts.any (Mini.isTy d))
  | [] => kitAny_nil
  | t :: ts => by
    rw [List.map_cons]
    refine kitAny_cons (kit_ty (kit_tab d t)) (fun h => ?_) (fun h => ?_)
    · rw [kitAny_tab d ts, List.any_cons, h]; rfl
    · rw [List.any_cons, h]; rfl
theorem tys_pa {C : Ctx} {X : Cx} (g : Good T n prog C X) : ∀ {ts : List Mini.Ty} {xs : List Expr}, tysB C.sc ts xs = true → ∃ t : TA, PA X xs t ∧ ∀ (σ : L2.St) (H : Hp) (Q : List V → Hp → Prop), Q (ts.map fun t => .ty (tyStr t)) H → t σ H Q
  | [], [], _ => ⟨_, pa_nil, fun _ _ _ q => q⟩
  | t :: ts, .Name id p :: xs, h => by
    simp only [tysB, Bool.and_eq_true, beq_iff_eq] at h
    obtain ⟨⟨h1, h2⟩, h3⟩ := h
    subst h1
    obtain ⟨g1, g2, g3⟩ := g.gl h2
    obtain ⟨ta, hta, hq⟩ := tys_pa g h3
    exact ⟨_, pa_cons (pe_bltn (v := .ty (tyStr t)) g1 (g.rt.bl _ (ty_mem t)) (boot_ty t) rfl g3 g2) hta (starE rfl), fun σ H Q q => hq σ H _ q⟩
  | [], _ :: _, h => by simp [tysB] at h
  | _ :: _, [], h => by simp [tysB] at h
  | t :: ts, x :: xs, h => by
    cases x with
    | Name id p =>
      simp only [tysB, Bool.and_eq_true, beq_iff_eq] at h
      obtain ⟨⟨h1, h2⟩, h3⟩ := h
      subst h1
      obtain ⟨g1, g2, g3⟩ := g.gl h2
      obtain ⟨ta, hta, hq⟩ := tys_pa g h3
      exact ⟨_, pa_cons (pe_bltn (v := .ty (tyStr t)) g1 (g.rt.bl _ (ty_mem t)) (boot_ty t) rfl g3 g2) hta (starE rfl), fun σ H Q q => hq σ H _ q⟩
    | _ => simp [tysB] at h
theorem clsv_all (ts : List Mini.Ty) : Paired ClsV (ts.map fun t => V.ty (tyStr t)) (ts.map fun t => Value.type (tyStr t)) := by
  induction ts with
  | nil => exact .nil
  | cons t ts ih => exact .cons (.ty _) ih
theorem se_isi {a : Mini.E} {ts : List Mini.Ty} (ha : SE T n prog a) : SE T n prog (.isi a ts) := by
  intro C x hc X g Y G H σ l d l' s ev Q q
  simp only [Mini.evE, Option.map_eq_some_iff] at ev
  obtain ⟨⟨da, l1⟩, e1, e2⟩ := ev
  cases e2
  have hm : X.mg "isinstance" = none := g.rt.bl _ (by decide +kernel)
  unfold chkE at hc
  split at hc
  · rename_i id p u t pt pos
    simp only [Bool.and_eq_true, beq_iff_eq] at hc
    obtain ⟨⟨⟨⟨h1, h2⟩, h3⟩, h4⟩, h5⟩ := hc
    subst h1
    obtain ⟨g1, g2, g3⟩ := g.gl h2
    cases ts with
    | nil => simp [tysB] at h5
    | cons ty ts =>
      simp only [tysB, Bool.and_eq_true, beq_iff_eq] at h5
      obtain ⟨⟨k1, k2⟩, k3⟩ := h5
      subst k1
      cases ts with
      | cons _ _ => simp [tysB] at k3
      | nil =>
        obtain ⟨q1, q2, q3⟩ := g.gl k2
        refine pe_w (pe_callB call_isi g1 hm (by decide +kernel) (pa_cons (pw X u) (pa_cons (pe_bltn (v := .ty (tyStr ty)) q1 (g.rt.bl _ (ty_mem ty)) (boot_ty ty) rfl q3 q2) pa_nil (starE rfl)) (starE h3)) g3 g2 (starE h3) (backE (starsE rfl))) ?_
        refine ha C u h4 X g Y G H σ l da _ s e1 _ fun x1 G1 H1 g1 d1 => ?_
        refine ⟨x1, _, _, _, _, rfl, .ty _, tyx_of (d1.mono g1.st.sub), kit_ty (kit_tab da ty), ?_⟩
        have e : [ty].any (Mini.isTy da) = Mini.isTy da ty := by simp
        rw [e] at q
        exact q _ G1 H1 g1 (.bl _)
  · rename_i id p u ys k pt pos
    simp only [Bool.and_eq_true, beq_iff_eq, decide_eq_true_eq] at hc
    obtain ⟨⟨⟨⟨⟨h1, h2⟩, h3⟩, h4⟩, h5⟩, h6⟩ := hc
    subst h1
    obtain ⟨g1, g2, g3⟩ := g.gl h2
    obtain ⟨ta, hta, hq⟩ := tys_pa g h5
    refine pe_w (pe_callB call_isiT g1 hm (by decide +kernel) (pa_cons (pw X u) (pa_cons (pe_tup hta) pa_nil (starE rfl)) (starE h3)) g3 g2 (starE h3) (backE (starsE rfl))) ?_
    refine ha C u h4 X g Y G H σ l da _ s e1 _ fun x1 G1 H1 g1 d1 => ?_
    refine hq σ H1 _ ⟨?_, fun tp htp => ?_⟩
    · rw [List.length_map]
      exact le_line (Nat.le_trans h6 (by decide))
    · have gr := Gr.new (o := .tup (ts.map fun t => V.ty (tyStr t))) g1.st.sub htp
      refine ⟨x1, tp, _, _, _, _, rfl, upd_same, clsv_all ts, tyx_of ((d1.mono gr.g).mono gr.sub), kitAny_tab da ts, ?_⟩
      exact q _ _ _ (g1.then gr) (.bl _)
  · cases hc
theorem se_fr {o : Mini.O} (ho : SO T n prog o) : SE T n prog (.fr o) := by
  intro C x hc X g Y G H σ l d l' s ev Q q
  unfold chkE at hc
  rw [Bool.and_eq_true] at hc
  simp only [Mini.evE, Option.map_eq_some_iff] at ev
  obtain ⟨⟨xs, l1⟩, e1, e2⟩ := ev
  cases e2
  refine ho C x hc.2 X g Y G H σ l xs _ s e1 _ fun a us G' H' oc => ?_
  obtain ⟨g1, d1⟩ := oc.freeze
  exact q _ _ _ g1 d1
/-- an owned list is read -/
theorem own_read {X : Cx} {C : Ctx} (g : Good T n prog C X) {Y : Ent} {G H : Hp} {σ : L2.St} {l : Mini.L} {i : Nat} {xs : List Da} (s : St1 X.K Y G H σ l) (h : Mini.getO l i = some xs) : ∃ a us, σ[i]? = some (some (V.ref a)) ∧ H a = some (.lst us) ∧ G a = none ∧ IsDs X.K G us xs := by
  obtain ⟨m, e⟩ := getO_some h
  obtain ⟨a, us, h1, h2, h3, h4, _⟩ := s.ow i m xs e
  exact ⟨a, us, h1, h2, h3, h4⟩
/-- an expression leaves an owned slot owned -/
theorem slot_of {K : Frag} {Y : Ent} {G H : Hp} {σ : L2.St} {l : Mini.L} {i : Nat} {xs : List Da} (s : St1 K Y G H σ l) (h : Mini.getO l i = some xs) : ∃ a, σ[i]? = some (some (V.ref a)) := by
  obtain ⟨m, e⟩ := getO_some h
  obtain ⟨a, us, h1, _⟩ := s.ow i m xs e
  exact ⟨a, h1⟩
theorem se_oix {i : Nat} {a : Mini.E} (ha : SE T n prog a) : SE T n prog (.oix i a) := by
  intro C x hc X g Y G H σ l d l' s ev Q q
  unfold chkE at hc
  split at hc
  · rename_i id p v pos
    simp only [Bool.and_eq_true] at hc
    obtain ⟨⟨h1, h2⟩, h3⟩ := hc
    simp only [Mini.evE, Option.bind_eq_some_iff, Option.map_eq_some_iff] at ev
    obtain ⟨xs0, e0, ⟨da, l1⟩, e1, xs, e2, k, e3, dd, e4, e5⟩ := ev
    cases e5
    obtain ⟨a0, s0⟩ := slot_of s e0
    refine pe_w (pe_ix ix_list (g.var h1 p) (pw X v) (plainIx h2)) ⟨_, s0, ?_⟩
    refine ha C v h3 X g Y G H σ l da _ s e1 _ fun x1 G1 H1 g1 d1 => ?_
    cases d1 <;> simp only [Mini.int?, Option.some.injEq, reduceCtorEq] at e3
    subst e3
    obtain ⟨a1, us, r1, r2, r3, r4⟩ := own_read g g1.st e2
    rw [s0] at r1
    cases r1
    obtain ⟨z, z1, z2⟩ := at_of_ds e4 r4
    exact ⟨_, _, _, z, rfl, rfl, SqL.of r2, z1, q _ G1 H1 g1 z2⟩
  · cases hc
theorem se_olen {i : Nat} : SE T n prog (.olen i) := by
  intro C x hc X g Y G H σ l d l' s ev Q q
  unfold chkE at hc
  split at hc
  · rename_i f pf id p pos
    simp only [Bool.and_eq_true, beq_iff_eq] at hc
    obtain ⟨⟨h1, h2⟩, h3⟩ := hc
    subst h1
    obtain ⟨g1, g2, g3⟩ := g.gl h2
    simp only [Mini.evE, Option.map_eq_some_iff] at ev
    obtain ⟨xs, e1, e2⟩ := ev
    cases e2
    obtain ⟨a1, us, r1, r2, r3, r4⟩ := own_read g s e1
    refine pe_w (pe_callB call_len g1 (g.rt.bl _ (by decide +kernel)) (by decide +kernel) (pa_cons (g.var h3 p) pa_nil (starE rfl)) g3 g2 (starE rfl) (backE (starsE rfl))) ⟨_, r1, ?_⟩
    refine ⟨_, _, rfl, .inl ⟨_, SqL.of r2, rfl⟩, ?_⟩
    rw [r4.length]
    exact q _ G H (Go1.refl s) (.int _)
  · cases hc
theorem se_otup {i : Nat} : SE T n prog (.otup i) := by
  intro C x hc X g Y G H σ l d l' s ev Q q
  unfold chkE at hc
  split at hc
  · rename_i f pf id p pos
    simp only [Bool.and_eq_true, beq_iff_eq] at hc
    obtain ⟨⟨h1, h2⟩, h3⟩ := hc
    subst h1
    obtain ⟨g1, g2, g3⟩ := g.gl h2
    simp only [Mini.evE, Option.map_eq_some_iff] at ev
    obtain ⟨xs, e1, e2⟩ := ev
    cases e2
    obtain ⟨a1, us, r1, r2, r3, r4⟩ := own_read g s e1
    refine pe_w (pe_callTy call_tuple_of g1 (g.rt.bl _ (by decide +kernel)) (by decide +kernel) (pa_cons (g.var h3 p) pa_nil (starE rfl)) g3 g2 (starE rfl) (backE (starsE rfl))) ⟨_, r1, ?_⟩
    refine ⟨_, _, rfl, .inl ⟨SqL.of r2, fun p hp => ?_⟩⟩
    have gr := Gr.new (o := .tup us) s.sub hp
    exact q _ _ _ (Go1.gr s gr) (.tup (SqT.of upd_same) (r4.mono gr.g))
  · cases hc

theorem lints_of {K : Frag} {G : Hp} {v : V} {d : Da} {ns : List Int} (h : Mini.lints? d = some ns) (hv : IsD K G v d) : ∃ a, v = .ref a ∧ SqL K G a (ns.map V.int) := by
  cases hv with
  | lst t e =>
    have ev := ints_vals h e
    subst ev
    exact ⟨_, rfl, t⟩
  | _ => cases h
theorem se_mind {a : Mini.E} (ha : SE T n prog a) : SE T n prog (.mind a) := by
  intro C x hc X g Y G H σ l d l' s ev Q q
  unfold chkE at hc
  split at hc
  · rename_i id p u k c c2 kp pos
    simp only [Bool.and_eq_true, beq_iff_eq] at hc
    obtain ⟨⟨⟨⟨h1, h2⟩, h3⟩, h4⟩, h5⟩ := hc
    subst h1
    subst h3
    obtain ⟨g1, g2, g3⟩ := g.gl h2
    simp only [Mini.evE, Option.bind_eq_some_iff, Option.map_eq_some_iff] at ev
    obtain ⟨⟨da, l1⟩, e1, ns, e2, e3⟩ := ev
    cases e3
    refine pe_w (pe_callBK (cr_minD g.calm g.hu) g1 (g.rt.bl _ (by decide +kernel)) (by decide +kernel) (pa_cons (pw X u) pa_nil (starE h4)) (pk_cons pe_non pk_nil) g3 g2 (backE1 (starE h4)) (backE (starsE (by rw [List.all_cons, h4]; rfl)))) ?_
    refine ha C u h5 X g Y G H σ l da _ s e1 _ fun x1 G1 H1 go d1 => ?_
    obtain ⟨b, rfl, hb⟩ := lints_of e2 d1
    refine ⟨b, ns, rfl, rfl, go.st.sub.seq hb, fun e => ?_, fun m hm hle => ?_⟩
    · subst e
      exact q _ G1 H1 go .non
    · have hn : ns.isEmpty = false := by cases ns with
        | nil => cases hm
        | cons _ _ => rfl
      have hx := minI_is hm hle
      rw [hn, hx] at q
      exact q _ G1 H1 go (.int _)
  · cases hc

/-! ### items -/
theorem sas_nil : SAs T n prog .nil := by
  intro C xs hc X g Y G H σ l as l' s ev Q q
  unfold chkAs at hc
  rw [Mini.evAs] at ev
  cases ev
  cases xs with
  | nil => exact pa_w pa_nil (q _ G H (Go1.refl s) .nil)
  | cons _ _ => cases hc
theorem sas_e {a : Mini.E} {r : Mini.As} (ha : SE T n prog a) (hr : SAs T n prog r) : SAs T n prog (.e a r) := by
  intro C xs hc X g Y G H σ l as l' s ev Q q
  unfold chkAs at hc
  split at hc
  · rename_i x xs
    simp only [Bool.and_eq_true] at hc
    obtain ⟨⟨h1, h2⟩, h3⟩ := hc
    simp only [Mini.evAs, Option.bind_eq_some_iff, Option.map_eq_some_iff] at ev
    obtain ⟨⟨d, l1⟩, e1, ⟨as', l2⟩, e2, e3⟩ := ev
    cases e3
    refine pa_w (pa_cons (pw X x) (pwA X xs) (starE h1)) (ha C x h2 X g Y G H σ l d l1 s e1 _ fun x1 G1 H1 g1 d1 => ?_)
    exact hr C xs h3 X g Y G1 H1 σ l1 as' _ g1.st e2 _ fun vs G2 H2 g2 hv => q _ G2 H2 (g1.trans g2) (.v (d1.mono g2.g) hv)
  · cases hc
theorem sas_st {a : Mini.E} {r : Mini.As} (ha : SE T n prog a) (hr : SAs T n prog r) : SAs T n prog (.st a r) := by
  intro C xs hc X g Y G H σ l as l' s ev Q q
  unfold chkAs at hc
  split at hc
  · rename_i x p xs
    simp only [Bool.and_eq_true] at hc
    obtain ⟨h2, h3⟩ := hc
    simp only [Mini.evAs, Option.bind_eq_some_iff, Option.map_eq_some_iff] at ev
    obtain ⟨⟨d, l1⟩, e1, ys, e0, ⟨as', l2⟩, e2, e3⟩ := ev
    cases e3
    refine pa_w (StX.pa_star (pw X x) (pwA X xs) rfl) (ha C x h2 X g Y G H σ l d l1 s e1 _ fun x1 G1 H1 g1 d1 => ?_)
    have fin : ∀ us, IsDs X.K G1 us ys → wA X xs σ H1 (fun vs H2 => Q (us ++ vs) H2) := fun us iu =>
      hr C xs h3 X g Y G1 H1 σ l1 as' _ g1.st e2 _ fun vs G2 H2 g2 hv => q _ G2 H2 (g1.trans g2) ((hv).appV (iu.mono g2.g))
    cases d1 <;> simp only [Mini.items?, Option.some.injEq, reduceCtorEq] at e0
    · subst e0
      rename_i t dd
      exact ⟨_, _, rfl, .inl (Same.tup g1.st.sub t), fin _ dd⟩
    · subst e0
      rename_i t dd
      exact ⟨_, _, rfl, .inr (g1.st.sub.seq t), fin _ dd⟩
  · cases hc
theorem sas_ln {i : Nat} {r : Mini.As} (hr : SAs T n prog r) : SAs T n prog (.ln i r) := by
  intro C xs hc X g Y G H σ l as l' s ev Q q
  unfold chkAs at hc
  split at hc
  · rename_i id p xs
    simp only [Bool.and_eq_true] at hc
    obtain ⟨h2, h3⟩ := hc
    simp only [Mini.evAs, Option.bind_eq_some_iff, Option.map_eq_some_iff] at ev
    obtain ⟨ys, e0, ⟨as', l2⟩, e2, e3⟩ := ev
    cases e3
    obtain ⟨a, s0⟩ := slot_of s e0
    refine pa_w (pa_cons (g.var h2 p) (pwA X xs) (starE rfl)) ⟨_, s0, ?_⟩
    exact hr C xs h3 X g Y G H σ l as' _ s e2 _ fun vs G2 H2 g2 hv => q _ G2 H2 g2 (.ln s0 hv)
  · cases hc
theorem sp_no : SP' T n prog .no := by
  intro C x hc X g Y G H σ l o l' s ev Q q
  unfold chkP at hc
  rw [Mini.evP] at ev
  cases ev
  cases x with
  | none => exact q G H (Go1.refl s)
  | some _ => cases hc
theorem sp_so {a : Mini.E} (ha : SE T n prog a) : SP' T n prog (.so a) := by
  intro C x hc X g Y G H σ l o l' s ev Q q
  unfold chkP at hc
  split at hc
  · rename_i x
    simp only [Mini.evP, Option.bind_eq_some_iff, Option.map_eq_some_iff] at ev
    obtain ⟨⟨d, l1⟩, e1, i, e2, e3⟩ := ev
    cases e3
    refine ha C x hc X g Y G H σ l d _ s e1 _ fun x1 G1 H1 g1 d1 => ?_
    cases d1 <;> simp only [Mini.int?, Option.some.injEq, reduceCtorEq] at e2
    subst e2
    exact ⟨_, rfl, q G1 H1 g1⟩
  · cases hc
end
end MS

set_option Elab.async false
set_option linter.all false
set_option maxRecDepth 100000
set_option maxHeartbeats 4000000
/-! SoundH: targets, fresh lists (all but comprehensions), what is walked. -/
namespace MS
open PySem PySem.Spec PyProof.Rows L2

/-! ### targets -/
def gOf (K : Frag) : Mini.Tg → TG
  | .nm i => gName i
  | .t2 a b => gTup K 2 (gCons (gOf K a) (gCons (gOf K b) gNil))
  | .t3 a b c => gTup K 3 (gCons (gOf K a) (gCons (gOf K b) (gCons (gOf K c) gNil)))
section
variable {T : Top} {n : Nat} {prog : Nat → Option Mini.Def}
theorem storeB_of {C : Ctx} {i : Nat} {x : Str} (h : storeB C i x = true) : C.N[i]? = some x ∧ Loc C.sc x ∧ (C.fn x = true ∨ C.sc.names.lookup x = some .local) := by
  unfold storeB at h
  rw [Bool.and_eq_true] at h
  obtain ⟨h1, h2⟩ := h
  refine ⟨of_decide_eq_true h1, ?_⟩
  split at h2
  · rename_i q; exact ⟨.inl q, .inr q⟩
  · rename_i q; exact ⟨.inr q, .inl h2⟩
  · cases h2
theorem Good.store {C : Ctx} {X : Cx} (g : Good T n prog C X) {i : Nat} {x : Str} (h : storeB C i x = true) : X.N[i]? = some x ∧ Loc X.env.scope x ∧ (X.fn x = true ∨ X.env.scope.names.lookup x = some .local) := by
  obtain ⟨a, b, c⟩ := storeB_of h
  rw [g.N, g.sc, g.fn]
  exact ⟨a, b, c⟩
theorem chkT_each {C : Ctx} {t : Mini.Tg} {x : Expr} (h : chkT C t x = true) (env : Env) (xs : List Expr) : (assignEach (x :: xs) env).map (·.2) = assign x env :: (assignEach xs env).map (·.2) ∧ (assignEach (x :: xs) env).map (·.1) = false :: (assignEach xs env).map (·.1) := by
  cases t with
  | nm i =>
    unfold chkT at h
    split at h
    · exact ⟨rfl, rfl⟩
    · cases h
  | t2 a b =>
    unfold chkT at h
    split at h
    · exact ⟨rfl, rfl⟩
    · cases h
  | t3 a b c =>
    unfold chkT at h
    split at h
    · exact ⟨rfl, rfl⟩
    · cases h
theorem find_none {l : List (Bool × (Value → Sem Unit))} (h : l.map (·.1) = List.replicate l.length false) : l.findIdx? (·.1) = none := by
  rw [List.findIdx?_eq_none_iff]
  intro x hx
  have : x.1 ∈ l.map (·.1) := List.mem_map.mpr ⟨x, hx, rfl⟩
  rw [h] at this
  exact (List.mem_replicate.mp this).2
theorem pg_of {C : Ctx} {X : Cx} (g : Good T n prog C X) : ∀ {t : Mini.Tg} {x : Expr}, chkT C t x = true → PG X x (gOf X.K t)
  | .nm i, x, h => by
    unfold chkT at h
    split at h
    · obtain ⟨a, b, c⟩ := g.store h
      exact pg_name (by rw [g.N]; exact g.nd) a b c
    · cases h
  | .t2 a b, x, h => by
    unfold chkT at h
    split at h
    · rename_i u v k p
      rw [Bool.and_eq_true] at h
      have eu := chkT_each h.1 X.env
      have ev := chkT_each h.2 X.env
      have m1 : (assignEach [u, v] X.env).map (·.1) = [false, false] := by rw [(eu _).2, (ev _).2]; rfl
      have hl : (assignEach [u, v] X.env).length = 2 := by
        have := congrArg List.length m1
        simpa using this
      exact pg_tup g.calm (pgs_cons (pg_of g h.1) (pgs_cons (pg_of g h.2) pgs_nil (ev _).1) (eu _).1) hl (find_none (by rw [m1, hl]; rfl))
    · cases h
  | .t3 a b c, x, h => by
    unfold chkT at h
    split at h
    · rename_i u v w k p
      simp only [Bool.and_eq_true] at h
      have eu := chkT_each h.1.1 X.env
      have ev := chkT_each h.1.2 X.env
      have ew := chkT_each h.2 X.env
      have m1 : (assignEach [u, v, w] X.env).map (·.1) = [false, false, false] := by rw [(eu _).2, (ev _).2, (ew _).2]; rfl
      have hl : (assignEach [u, v, w] X.env).length = 3 := by
        have := congrArg List.length m1
        simpa using this
      exact pg_tup g.calm (pgs_cons (pg_of g h.1.1) (pgs_cons (pg_of g h.1.2) (pgs_cons (pg_of g h.2) pgs_nil (ew _).1) (ev _).1) (eu _).1) hl (find_none (by rw [m1, hl]; rfl))
    · cases h

/-! a slot is stored -/
theorem putC_some {i : Nat} {c : Mini.Cell} {l l2 : Mini.L} (h : Mini.putC i c l = some l2) : l2 = l.set i c ∧ ∀ xs, l[i]? ≠ some (Mini.Cell.ow false xs) := by
  unfold Mini.putC at h
  split at h
  · cases h
  · rename_i hn
    cases h
    refine ⟨rfl, fun xs e => hn ?_⟩
    have : l.getD i .un = .ow false xs := by rw [List.getD_eq_getElem?_getD, e]; rfl
    rw [this]; rfl
theorem St1.store {K : Frag} {Y : Ent} {G H : Hp} {σ : L2.St} {l l2 : Mini.L} (s : St1 K Y G H σ l) {i : Nat} {d : Da} {v : V} (h : Mini.putC i (.fz d) l = some l2) (hv : IsD K G v d) : St1 K Y G H (σ.set i (some v)) l2 := by
  obtain ⟨rfl, nl⟩ := putC_some h
  have key : ∀ j, j ≠ i → (σ.set i (some v))[j]? = σ[j]? ∧ (l.set i (Mini.Cell.fz d))[j]? = l[j]? := fun j hj => ⟨List.getElem?_set_ne (Ne.symm hj), List.getElem?_set_ne (Ne.symm hj)⟩
  have own : ∀ j a, OwnAt (σ.set i (some v)) (l.set i (Mini.Cell.fz d)) j a → j ≠ i ∧ OwnAt σ l j a := fun j a ⟨h1, m, xs, h2⟩ => by
    have hj : j ≠ i := fun e => by
      subst e
      by_cases hl : j < l.length
      · rw [List.getElem?_set_self hl] at h2; cases h2
      · rw [List.getElem?_eq_none (by rw [List.length_set]; omega)] at h2; cases h2
    rw [(key j hj).1] at h1
    rw [(key j hj).2] at h2
    exact ⟨hj, h1, m, xs, h2⟩
  refine ⟨s.sub, s.g0, by rw [List.length_set, List.length_set]; exact s.len, fun j e hj => ?_, fun j m xs hj => ?_, fun j k a p q => s.dist j k a (own j a p).2 (own k a q).2, s.fr0, s.dom, fun k a q => ?_⟩
  · by_cases z : j = i
    · subst z
      have hl : j < l.length := by
        have := (List.getElem?_eq_some_iff.mp hj).1
        rwa [List.length_set] at this
      rw [List.getElem?_set_self hl] at hj
      cases hj
      exact ⟨v, List.getElem?_set_self (by rw [s.len]; exact hl), hv⟩
    · rw [(key j z).2] at hj
      rw [(key j z).1]
      exact s.fz j e hj
  · by_cases z : j = i
    · subst z
      have hl : j < l.length := by
        have := (List.getElem?_eq_some_iff.mp hj).1
        rwa [List.length_set] at this
      rw [List.getElem?_set_self hl] at hj
      cases hj
    · rw [(key j z).2] at hj
      rw [(key j z).1]
      exact s.ow j m xs hj
  · obtain ⟨q1, xs, q2⟩ := s.lent k a q
    have z : k ≠ i := fun z => nl xs (z ▸ q2)
    rw [(key k z).1, (key k z).2]
    exact ⟨q1, xs, q2⟩
/-- what a target's storing leaves -/
theorem set_ok {K : Frag} {Y : Ent} {G H : Hp} : ∀ {t : Mini.Tg} {d : Da} {σ : L2.St} {l l2 : Mini.L} {v : V}, St1 K Y G H σ l → Mini.setT t d l = some l2 → IsD K G v d →
    ∀ Q : L2.St → Hp → Prop, (∀ σ2, St1 K Y G H σ2 l2 → (∀ vs : List Nat, (∀ i ∈ slotsT t, i ∈ vs) → wipe σ2 vs = wipe σ vs) → Q σ2 H) → gOf K t v σ H Q
  | .nm i, d, σ, l, l2, v, s, h, hv, Q, q => by
    rw [Mini.setT] at h
    refine q _ (s.store h hv) fun vs hvs => ?_
    have hi := hvs i (by simp [slotsT])
    clear hvs
    have : ∀ (vs : List Nat) (σ : L2.St), i ∈ vs → wipe (σ.set i (some v)) vs = wipe σ vs := by
      intro vs
      induction vs with
      | nil => intro σ h; cases h
      | cons w ws ih =>
        intro σ h
        show (wipe (σ.set i (some v)) ws).set w none = (wipe σ ws).set w none
        by_cases hw : i ∈ ws
        · rw [ih σ hw]
        · have e : i = w := (List.mem_cons.mp h).elim id fun z => absurd z hw
          subst e
          have wc : ∀ (us : List Nat) (σ : L2.St), i ∉ us → wipe (σ.set i (some v)) us = (wipe σ us).set i (some v) := by
            intro us
            induction us with
            | nil => intro σ _; rfl
            | cons u us ih2 =>
              intro σ hu
              rw [List.mem_cons, not_or] at hu
              show (wipe (σ.set i (some v)) us).set u none = ((wipe σ us).set u none).set i (some v)
              rw [ih2 σ hu.2, List.set_comm _ _ hu.1]
          rw [wc ws σ hw, List.set_set]
    exact this vs σ hi
  | .t2 a b, d, σ, l, l2, v, s, h, hv, Q, q => by
    cases d with
    | tup ds =>
      match ds, h, hv with
      | [x, y], h, hv =>
        rw [Mini.setT, Option.bind_eq_some_iff] at h
        obtain ⟨l1, h1, h2⟩ := h
        cases hv with
        | @tup ad us _ ht hd =>
          obtain ⟨v1, v2, rfl, d1, d2⟩ := two_of hd
          refine ⟨ad, _, rfl, Same.tup s.sub ht, rfl, v1, _, rfl, ?_⟩
          refine set_ok s h1 d1 _ fun σ1 s1 w1 => ?_
          refine ⟨v2, _, rfl, ?_⟩
          refine set_ok s1 h2 d2 _ fun σ2 s2 w2 => ?_
          refine ⟨rfl, q σ2 s2 fun vs hvs => ?_⟩
          rw [w2 vs fun i hi => hvs i (by simp [slotsT, hi]), w1 vs fun i hi => hvs i (by simp [slotsT, hi])]
      | [], h, _ => simp [Mini.setT] at h
      | [_], h, _ => simp [Mini.setT] at h
      | _ :: _ :: _ :: _, h, _ => simp [Mini.setT] at h
    | _ => simp [Mini.setT] at h
  | .t3 a b c, d, σ, l, l2, v, s, h, hv, Q, q => by
    cases d with
    | tup ds =>
      match ds, h, hv with
      | [x, y, z], h, hv =>
        rw [Mini.setT, Option.bind_eq_some_iff] at h
        obtain ⟨l1, h1, h⟩ := h
        rw [Option.bind_eq_some_iff] at h
        obtain ⟨l3, h2, h3⟩ := h
        cases hv with
        | @tup ad us _ ht hd =>
          cases hd with
          | @cons v1 _ _ _ d1 hd =>
            obtain ⟨v2, v3, rfl, d2, d3⟩ := two_of hd
            refine ⟨ad, _, rfl, Same.tup s.sub ht, rfl, v1, _, rfl, ?_⟩
            refine set_ok s h1 d1 _ fun σ1 s1 w1 => ?_
            refine ⟨v2, _, rfl, ?_⟩
            refine set_ok s1 h2 d2 _ fun σ2 s2 w2 => ?_
            refine ⟨v3, _, rfl, ?_⟩
            refine set_ok s2 h3 d3 _ fun σ3 s3 w3 => ?_
            refine ⟨rfl, q σ3 s3 fun vs hvs => ?_⟩
            rw [w3 vs fun i hi => hvs i (by simp [slotsT, hi]), w2 vs fun i hi => hvs i (by simp [slotsT, hi]), w1 vs fun i hi => hvs i (by simp [slotsT, hi])]
      | [], h, _ => simp [Mini.setT] at h
      | [_], h, _ => simp [Mini.setT] at h
      | [_, _], h, _ => simp [Mini.setT] at h
      | _ :: _ :: _ :: _ :: _, h, _ => simp [Mini.setT] at h
    | _ => simp [Mini.setT] at h

/-! ### fresh lists -/
theorem OC.new {K : Frag} {Y : Ent} {G H G1 H1 : Hp} {σ : L2.St} {l l1 : Mini.L} (s : St1 K Y G H σ l) (g1 : Go1 K Y G H σ l G1 H1 l1) {p : Addr} {vs : List V} {ds : List Da} (hp : H1 p = none) (iv : IsDs K G1 vs ds) :
    OC K Y G H σ l G1 (upd H1 p (.lst vs)) l1 p vs ds := by
  have gr : Gr G1 H1 G1 (upd H1 p (.lst vs)) := Gr.raw g1.st.sub hp
  refine ⟨g1.then gr, upd_same, g1.st.sub.free hp, iv, ?_, fun i z => (g1.st.own_some z).1 hp, fun z => absurd hp (g1.dm p z)⟩
  cases z : Y.H0 p with
  | none => rfl
  | some o => exact absurd hp (g1.st.dom p (by rw [z]; simp))
theorem OC.trans {K : Frag} {Y : Ent} {G H G1 H1 G2 H2 : Hp} {σ : L2.St} {l l1 l2 : Mini.L} {a : Addr} {us : List V} {xs : List Da} (g : Go1 K Y G H σ l G1 H1 l1) (o : OC K Y G1 H1 σ l1 G2 H2 l2 a us xs) : OC K Y G H σ l G2 H2 l2 a us xs :=
  ⟨g.trans o.go, o.at_, o.no, o.ds, o.h0, o.nw, fun z => let ⟨i, hi⟩ := o.src (g.dm a z); ⟨i, g.ow i a hi⟩⟩
theorem so_dis {es : Mini.As} (hes : SAs T n prog es) : SO T n prog (.dis es) := by
  intro C x hc X g Y G H σ l xs l' s ev Q q
  unfold chkO at hc
  split at hc
  · rename_i ys p
    simp only [Mini.evO, Option.bind_eq_some_iff] at ev
    obtain ⟨⟨as, l1⟩, e1, ds, e2, e3⟩ := ev
    split at e3
    · rename_i hl
      cases e3
      refine pe_w (pe_lst (pwA X ys)) (hes C ys hc X g Y G H σ l as _ s e1 _ fun vs G1 H1 g1 hv => ?_)
      have iv := hv.vals e2
      exact ⟨by rw [iv.length]; exact le_line hl, fun p hp => q _ _ _ _ (OC.new s g1 hp iv)⟩
    · cases e3
  · cases hc
theorem so_lis {a : Mini.E} (ha : SE T n prog a) : SO T n prog (.lis a) := by
  intro C x hc X g Y G H σ l xs l' s ev Q q
  unfold chkO at hc
  split at hc
  · rename_i f pf u pos
    simp only [Bool.and_eq_true, beq_iff_eq] at hc
    obtain ⟨⟨⟨h1, h2⟩, h3⟩, h4⟩ := hc
    subst h1
    obtain ⟨g1, g2, g3⟩ := g.gl h2
    simp only [Mini.evO, Option.bind_eq_some_iff, Option.map_eq_some_iff] at ev
    obtain ⟨⟨d, l1⟩, e1, ys, e2, e3⟩ := ev
    cases e3
    refine pe_w (pe_callTy call_list_of g1 (g.rt.bl _ (by decide +kernel)) (by decide +kernel) (pa_cons (pw X u) pa_nil (starE h3)) g3 g2 (starE h3) (backE (starsE rfl))) ?_
    refine ha C u h4 X g Y G H σ l d _ s e1 _ fun x1 G1 H1 go d1 => ?_
    cases d1 <;> simp only [Mini.items?, Option.some.injEq, reduceCtorEq] at e2
    · subst e2
      rename_i t dd
      exact ⟨_, _, rfl, .inr (Same.tup go.st.sub t), fun p hp => q _ _ _ _ (OC.new s go hp dd)⟩
    · subst e2
      rename_i t dd
      exact ⟨_, _, rfl, .inl (go.st.sub.seq t), fun p hp => q _ _ _ _ (OC.new s go hp dd)⟩
  · cases hc
/-- a list of one's own stands behind an evaluation -/
theorem OC.after {K : Frag} {Y : Ent} {G H G1 H1 G2 H2 : Hp} {σ : L2.St} {l l1 l2 : Mini.L} {a : Addr} {us : List V} {xs : List Da} (o : OC K Y G H σ l G1 H1 l1 a us xs) (g : Go1 K Y G1 H1 σ l1 G2 H2 l2) : H2 a = some (.lst us) ∧ IsDs K G2 us xs := by
  obtain ⟨r1, r2⟩ := g.fr a _ o.at_ o.no o.nw
  exact ⟨r1, o.ds.mono g.g⟩
theorem so_cat {a b : Mini.O} (ha : SO T n prog a) (hb : SO T n prog b) : SO T n prog (.cat a b) := by
  intro C x hc X g Y G H σ l xs l' s ev Q q
  unfold chkO at hc
  split at hc
  · rename_i u v p
    rw [Bool.and_eq_true] at hc
    simp only [Mini.evO, Option.bind_eq_some_iff] at ev
    obtain ⟨⟨xa, l1⟩, e1, ⟨xb, l2⟩, e2, e3⟩ := ev
    split at e3
    · rename_i hl
      cases e3
      refine pe_w (pe_op op_cat (pw X u) (pw X v)) (ha C u hc.1 X g Y G H σ l xa l1 s e1 _ fun a1 u1 G1 H1 o1 => ?_)
      refine hb C v hc.2 X g Y G1 H1 σ l1 xb _ o1.go.st e2 _ fun a2 u2 G2 H2 o2 => ?_
      obtain ⟨r1, r2⟩ := o1.after o2.go
      refine ⟨a1, a2, u1, u2, rfl, rfl, r1, o2.at_, by rw [r2.length, o2.ds.length]; exact le_line hl, fun p hp => ?_⟩
      exact q _ _ _ _ (OC.new s (o1.go.trans o2.go) hp (r2.append o2.ds))
    · cases e3
  · cases hc
theorem so_rep {a : Mini.O} {b : Mini.E} (ha : SO T n prog a) (hb : SE T n prog b) : SO T n prog (.rep a b) := by
  intro C x hc X g Y G H σ l xs l' s ev Q q
  unfold chkO at hc
  split at hc
  · rename_i u v p
    rw [Bool.and_eq_true] at hc
    simp only [Mini.evO, Option.bind_eq_some_iff] at ev
    obtain ⟨⟨xa, l1⟩, e1, ⟨db, l2⟩, e2, k, e0, e3⟩ := ev
    split at e3
    · rename_i hl
      cases e3
      obtain ⟨c1, c2, c3⟩ := hl
      refine pe_w (pe_op op_rep (pw X u) (pw X v)) (ha C u hc.1 X g Y G H σ l xa l1 s e1 _ fun a1 u1 G1 H1 o1 => ?_)
      refine hb C v hc.2 X g Y G1 H1 σ l1 db _ o1.go.st e2 _ fun x2 G2 H2 g2 d2 => ?_
      cases d2 <;> simp only [Mini.int?, Option.some.injEq, reduceCtorEq] at e0
      subst e0
      obtain ⟨r1, r2⟩ := o1.after g2
      have hlen := r2.length
      refine ⟨a1, _, u1, rfl, rfl, r1, by omega, by omega, ?_, fun p hp => ?_⟩
      · have h1 : u1.length ≤ 1000 := by rw [hlen]; exact c1
        have h2 : Int.toNat _ ≤ 1000 := Int.toNat_le.mpr c3
        exact Nat.le_trans (Nat.mul_le_mul h1 h2) (by rw [sizeLine_eq]; decide)
      · exact q _ _ _ _ (OC.new s (o1.go.trans g2) hp (r2.rep _))
    · cases e3
  · cases hc
theorem so_sl {a : Mini.E} {lo hi : Mini.Pt} (ha : SE T n prog a) (hlo : SP' T n prog lo) (hhi : SP' T n prog hi) : SO T n prog (.sl a lo hi) := by
  intro C x hc X g Y G H σ l xs l' s ev Q q
  unfold chkO at hc
  split at hc
  · rename_i u p' q' pp pos
    simp only [Bool.and_eq_true] at hc
    obtain ⟨⟨h1, h2⟩, h3⟩ := hc
    simp only [Mini.evO, Option.bind_eq_some_iff] at ev
    obtain ⟨⟨da, l1⟩, e1, ⟨o1, l2⟩, e2, ⟨o2, l3⟩, e3, e4⟩ := ev
    split at e4
    · rename_i ys hys
      cases e4
      refine pe_w (pe_slice sl_list (pw X u) (pwPt X p') (pwPt X q')) (ha C u h1 X g Y G H σ l da l1 s e1 _ fun x1 G1 H1 g1 d1 => ?_)
      refine hlo C p' h2 X g Y G1 H1 σ l1 o1 l2 g1.st e2 _ fun G2 H2 g2 => ?_
      refine hhi C q' h3 X g Y G2 H2 σ l2 o2 _ g2.st e3 _ fun G3 H3 g3 => ?_
      have ed : da = .lst ys := hys
      subst ed
      cases d1 with
      | @lst ad us _ t dd =>
        have sm : Same G1 G3 := g2.g.trans g3.g
        refine ⟨ad, us, rfl, (sm.trans g3.st.sub).seq t, fun p hp => ?_⟩
        exact q _ _ _ _ (OC.new s ((g1.trans g2).trans g3) hp (cut_eq (dd.mono sm) o1 o2))
    · cases e4
  · cases hc
theorem so_osl {i : Nat} {lo hi : Mini.Pt} (hlo : SP' T n prog lo) (hhi : SP' T n prog hi) : SO T n prog (.osl i lo hi) := by
  intro C x hc X g Y G H σ l xs l' s ev Q q
  unfold chkO at hc
  split at hc
  · rename_i id p p' q' pp pos
    simp only [Bool.and_eq_true] at hc
    obtain ⟨⟨h1, h2⟩, h3⟩ := hc
    simp only [Mini.evO, Option.bind_eq_some_iff, Option.map_eq_some_iff] at ev
    obtain ⟨ys0, e0, ⟨o1, l2⟩, e2, ⟨o2, l3⟩, e3, ys, e4, e5⟩ := ev
    cases e5
    obtain ⟨a0, s0⟩ := slot_of s e0
    refine pe_w (pe_slice sl_list (g.var h1 p) (pwPt X p') (pwPt X q')) ⟨_, s0, ?_⟩
    refine hlo C p' h2 X g Y G H σ l o1 l2 s e2 _ fun G2 H2 g2 => ?_
    refine hhi C q' h3 X g Y G2 H2 σ l2 o2 _ g2.st e3 _ fun G3 H3 g3 => ?_
    obtain ⟨a1, us, r1, r2, r3, r4⟩ := own_read g g3.st e4
    rw [s0] at r1
    cases r1
    refine ⟨a0, us, rfl, SqL.of r2, fun p hp => ?_⟩
    exact q _ _ _ _ (OC.new s (g2.trans g3) hp (cut_eq r4 o1 o2))
  · cases hc
theorem so_call {f : Nat} {es : Mini.As} (hes : SAs T n prog es) : SO T n prog (.call f es) := by
  intro C x hc X g Y G H σ l xs l' s ev Q q
  unfold chkO at hc
  split at hc
  · rename_i id p ys pos
    simp only [Bool.and_eq_true, decide_eq_true_eq] at hc
    obtain ⟨⟨⟨h1, h2⟩, h3⟩, h4⟩ := hc
    simp only [Mini.evO, Option.bind_eq_some_iff] at ev
    obtain ⟨⟨as, l1⟩, e1, ⟨r, l2⟩, e2, e3⟩ := ev
    refine call_core hes h1 h2 h3 h4 g s e1 e2 fun v G' H' rc => ?_
    cases r with
    | fz d' => cases e3
    | ow zs =>
      cases e3
      obtain ⟨a, us, rfl, o⟩ := rc
      exact q _ _ _ _ o
  · cases hc
theorem so_mv {i : Nat} : SO T n prog (.mv i) := by
  intro C x hc X g Y G H σ l xs l' s ev Q q
  unfold chkO at hc
  split at hc
  · rename_i id p
    rw [Mini.evO] at ev
    split at ev
    · rename_i hm
      rw [Option.map_eq_some_iff] at ev
      obtain ⟨ys, e1, e2⟩ := ev
      cases e2
      obtain ⟨m, e3⟩ := getO_some e1
      have em : m = true := by
        have hm' : Mini.isMine (l.getD i .un) = true := hm
        rw [List.getD_eq_getElem?_getD, e3] at hm'
        cases m with
        | true => rfl
        | false => cases hm'
      subst em
      obtain ⟨a, us, r1, r2, r3, r4, r5, _⟩ := s.ow i true _ e3
      have hi : i < l.length := (List.getElem?_eq_some_iff.mp e3).1
      have oth : ∀ j, j ≠ i → (l.set i Mini.Cell.un)[j]? = l[j]? := fun j hj => List.getElem?_set_ne (Ne.symm hj)
      have own : ∀ j b, OwnAt σ (l.set i Mini.Cell.un) j b → j ≠ i ∧ OwnAt σ l j b := fun j b ⟨h1, m, zs, h2⟩ => by
        have hj : j ≠ i := fun e => by subst e; rw [List.getElem?_set_self hi] at h2; cases h2
        rw [oth j hj] at h2
        exact ⟨hj, h1, m, zs, h2⟩
      have st : St1 X.K Y G H σ (l.set i .un) := by
        refine ⟨s.sub, s.g0, by rw [List.length_set]; exact s.len, fun j d hj => ?_, fun j m zs hj => ?_, fun j k b p q => s.dist j k b (own j b p).2 (own k b q).2, s.fr0, s.dom, fun k b z => ?_⟩
        · have z : j ≠ i := fun e => by subst e; rw [List.getElem?_set_self hi] at hj; cases hj
          rw [oth j z] at hj
          exact s.fz j d hj
        · have z : j ≠ i := fun e => by subst e; rw [List.getElem?_set_self hi] at hj; cases hj
          rw [oth j z] at hj
          exact s.ow j m zs hj
        · obtain ⟨w1, zs, w2⟩ := s.lent k b z
          have z : k ≠ i := fun e => by subst e; rw [e3] at w2; cases w2
          exact ⟨w1, zs, by rw [oth k z]; exact w2⟩
      refine pe_w (g.var hc p) ⟨_, r1, q a us G H ⟨⟨Same.refl G, st, fun b o h1 h2 _ => ⟨h1, h2⟩, fun j b z => (own j b z).2, fun _ h => h⟩, r2, r3, r4, r5 rfl, fun j z => ?_, fun _ => ⟨i, r1, true, _, e3⟩⟩⟩
      obtain ⟨z1, z2⟩ := own j a z
      exact z1 (s.dist j i a z2 ⟨r1, true, _, e3⟩)
    · cases ev
  · cases hc
theorem so_orr {a b : Mini.O} (ha : SO T n prog a) (hb : SO T n prog b) : SO T n prog (.orr a b) := by
  intro C x hc X g Y G H σ l xs l' s ev Q q
  unfold chkO at hc
  split at hc
  · rename_i u v p
    rw [Bool.and_eq_true] at hc
    simp only [Mini.evO, Option.bind_eq_some_iff] at ev
    obtain ⟨⟨xa, l1⟩, e1, e2⟩ := ev
    refine pe_w (pe_orT (pw X u) (pe_one (pw X v))) (ha C u hc.1 X g Y G H σ l xa l1 s e1 _ fun a1 u1 G1 H1 o1 => ?_)
    have hl := o1.ds.length
    cases hx : xa.isEmpty with
    | true =>
      have e2 : Mini.evO (Mini.callF prog n) b l1 = some (xs, l') := by simpa [hx] using e2
      have hu : u1 = [] := by
        cases u1 with
        | nil => rfl
        | cons _ _ => cases xa with
          | nil => simp at hl
          | cons _ _ => simp at hx
      refine ⟨false, .inl ⟨u1, SqL.of o1.at_, by rw [hu]; rfl⟩, iteF ?_⟩
      exact hb C v hc.2 X g Y G1 H1 σ l1 xs l' o1.go.st e2 _ fun a2 u2 G2 H2 o2 => q _ _ _ _ (OC.trans o1.go o2)
    | false =>
      have e2 : (xa, l1) = (xs, l') := by simpa [hx] using e2
      cases e2
      refine ⟨true, .inl ⟨u1, SqL.of o1.at_, ?_⟩, iteT (q _ _ _ _ o1)⟩
      cases u1 with
      | nil => cases xs with
        | nil => simp at hx
        | cons _ _ => simp at hl
      | cons _ _ => rfl
  · cases hc
end
end MS

set_option Elab.async false
set_option linter.all false
set_option maxRecDepth 100000
set_option maxHeartbeats 400000
/-! SoundH2: sorted. -/
namespace MS
open PySem PySem.Spec PyProof.Rows L2
section
variable {T : Top} {n : Nat} {prog : Nat → Option Mini.Def}
theorem ds_ints {K : Frag} {G : Hp} : ∀ ns : List Int, IsDs K G (ns.map V.int) (ns.map Mini.Da.int)
  | [] => .nil
  | x :: r => .cons (.int x) (ds_ints r)
theorem so_sst {a : Mini.E} (ha : SE T n prog a) : SO T n prog (.sst a) := by
  intro C x hc X g Y G H σ l xs l' s ev Q q
  unfold chkO at hc
  split at hc
  · rename_i f pf y py u p1 p2
    simp only [Bool.and_eq_true, beq_iff_eq] at hc
    obtain ⟨⟨⟨⟨⟨h1, h2⟩, h3⟩, h4⟩, h5⟩, h6⟩ := hc
    subst h1
    subst h3
    obtain ⟨g1, g2, g3⟩ := g.gl h2
    obtain ⟨q1, q2, q3⟩ := g.gl h4
    simp only [Mini.evO, Option.bind_eq_some_iff] at ev
    obtain ⟨⟨d, l1⟩, e1, ns, e2, e3⟩ := ev
    split at e3
    · rename_i hn
      cases e3
      refine pe_w (pe_callB (cr_sortedSet g.calm) g1 (g.rt.bl _ (by decide +kernel)) (by decide +kernel) (pa_cons (pe_callTy (cr_setOfI g.calm) q1 (g.rt.bl _ (by decide +kernel)) (by decide +kernel) (pa_cons (pw X u) pa_nil (starE h5)) q3 q2 (starE h5) (backE (starsE rfl))) pa_nil (starE rfl)) g3 g2 (starE rfl) (backE (starsE rfl))) ?_
      refine ha C u h6 X g Y G H σ l d _ s e1 _ fun x1 G1 H1 go d1 => ?_
      obtain ⟨b, rfl, hb⟩ := lints_of e2 d1
      refine ⟨b, ns, rfl, go.st.sub.seq hb, hn, fun p c hp hc2 => ?_⟩
      refine ⟨p, _, c, rfl, upd_same, by omega, fun ms p2 m1 m2 m3 hp2 => ?_⟩
      have em : ms = Mini.sortI ns := up_eq m1 (sortI_up ns) fun k => by rw [m2 k, sortI_mem]; simp
      subst em
      have gr : Gr G1 H1 G1 (upd H1 p (SetO X.w p (fun j => decide (j ∈ ns)) c)) := Gr.raw go.st.sub hp
      exact q _ _ _ _ (OC.new s (go.then gr) hp2 (ds_ints _))
    · cases e3
  · cases hc
theorem perm_few {α : Type} : ∀ {us zs : List α}, us.length ≤ 1 → zs.Perm us → zs = us
  | [], _, _, h => h.eq_nil
  | [_], _, _, h => List.perm_singleton.mp h
  | _ :: _ :: _, _, h, _ => by simp at h
def bdF : List Da → Int
  | [.tup [.int i, .int j]] => i + j + 1
  | _ => 1
theorem few_of {K : Frag} {G H : Hp} {v : V} {d : Da} {xs : List Da} (h : Mini.few? d = some xs) (sm : Same G H) (hv : IsD K G v d) : ∃ b us, v = .ref b ∧ SqL K H b us ∧ us.length ≤ 1 ∧ IsDs K G us xs ∧ ∀ x ∈ us, ∃ ns, TupI K H x ns ∧ ns.length = 2 ∧ TS.Bd (bdF xs) ns := by
  cases hv with
  | @lst a vs ds t e =>
    match ds, e, h with
    | [], e, h =>
      have hx : xs = [] := by simp [Mini.few?] at h; first | exact h | exact h.symm
      subst hx
      cases e
      exact ⟨a, [], rfl, sm.seq t, by decide, .nil, fun x hx => by cases hx⟩
    | [.tup [.int i, .int j]], e, h =>
      have hx : (0 ≤ i ∧ 0 ≤ j) ∧ xs = [.tup [.int i, .int j]] := by
        simp only [Mini.few?] at h
        split at h
        · rename_i hh; cases h; exact ⟨hh, rfl⟩
        · cases h
      obtain ⟨⟨h1, h2⟩, rfl⟩ := hx
      have e0 := e
      cases e with
      | cons e1 e2 =>
        cases e2
        cases e1 with
        | tup t1 f1 =>
          have hv := ints_vals (ns := [i, j]) rfl f1
          subst hv
          refine ⟨a, _, rfl, sm.seq t, by simp, e0, fun x hx => ?_⟩
          have hx := List.mem_singleton.mp hx
          subst hx
          refine ⟨[i, j], ⟨_, rfl, Same.tup sm t1⟩, rfl, fun m hm => ?_⟩
          show 0 ≤ m ∧ m < i + j + 1
          rcases List.mem_cons.mp hm with rfl | hm
          · omega
          · have := List.mem_singleton.mp hm; omega
    | [.non], _, h => simp [Mini.few?] at h
    | [.bl _], _, h => simp [Mini.few?] at h
    | [.int _], _, h => simp [Mini.few?] at h
    | [.str _], _, h => simp [Mini.few?] at h
    | [.lst _], _, h => simp [Mini.few?] at h
    | [.tup []], _, h => simp [Mini.few?] at h
    | [.tup [_]], _, h => simp [Mini.few?] at h
    | [.tup (_ :: _ :: _ :: _)], _, h => simp [Mini.few?] at h
    | _ :: _ :: _, _, h => simp [Mini.few?] at h
    | [.tup [.non, _]], _, h => simp [Mini.few?] at h
    | [.tup [.bl _, _]], _, h => simp [Mini.few?] at h
    | [.tup [.str _, _]], _, h => simp [Mini.few?] at h
    | [.tup [.lst _, _]], _, h => simp [Mini.few?] at h
    | [.tup [.tup _, _]], _, h => simp [Mini.few?] at h
    | [.tup [.int _, .non]], _, h => simp [Mini.few?] at h
    | [.tup [.int _, .bl _]], _, h => simp [Mini.few?] at h
    | [.tup [.int _, .str _]], _, h => simp [Mini.few?] at h
    | [.tup [.int _, .lst _]], _, h => simp [Mini.few?] at h
    | [.tup [.int _, .tup _]], _, h => simp [Mini.few?] at h
  | _ => simp [Mini.few?] at h
theorem so_srt {a : Mini.E} (ha : SE T n prog a) : SO T n prog (.srt a) := by
  intro C x hc X g Y G H σ l xs l' s ev Q q
  unfold chkO at hc
  split at hc
  · rename_i f pf u pos
    simp only [Bool.and_eq_true, beq_iff_eq] at hc
    obtain ⟨⟨⟨h1, h2⟩, h3⟩, h4⟩ := hc
    subst h1
    obtain ⟨g1, g2, g3⟩ := g.gl h2
    simp only [Mini.evO, Option.bind_eq_some_iff, Option.map_eq_some_iff] at ev
    obtain ⟨⟨d, l1⟩, e1, ys, e2, e3⟩ := ev
    obtain ⟨e4, e5⟩ := Prod.mk.inj e3
    subst e4
    subst e5
    refine pe_w (pe_callB (cr_sortT (d := 2) (B := bdF ys) (by decide)) g1 (g.rt.bl _ (by decide +kernel)) (by decide +kernel) (pa_cons (pw X u) pa_nil (starE h3)) g3 g2 (starE h3) (backE (starsE rfl))) ?_
    refine ha C u h4 X g Y G H σ l d l1 s e1 _ fun x1 G1 H1 go d1 => ?_
    obtain ⟨b, us, hv, hs, hl1, hd, hb⟩ := few_of e2 go.st.sub d1
    subst hv
    refine ⟨b, us, rfl, hs, by omega, hb, fun zs p hperm _ hp => ?_⟩
    have e0 : zs = us := perm_few hl1 hperm
    subst e0
    exact q _ _ _ _ (OC.new s go hp hd)
  · cases hc
end
end MS

set_option Elab.async false
set_option linter.all false
set_option maxRecDepth 100000
set_option maxHeartbeats 4000000
/-! SoundI: what is walked; comprehensions. -/
namespace MS
open PySem PySem.Spec PyProof.Rows L2

theorem IsDs.get' {K : Frag} {G : Hp} : ∀ {vs : List V} {ds : List Da} {i : Nat} {v : V}, IsDs K G vs ds → vs[i]? = some v → ∃ d, ds[i]? = some d ∧ IsD K G v d
  | _ :: _, _ :: _, 0, _, .cons a _, e => by simp at e; subst e; exact ⟨_, rfl, a⟩
  | _ :: _, _ :: _, i + 1, v, .cons _ b, e => by
    obtain ⟨d, h1, h2⟩ := IsDs.get' (i := i) (v := v) b (by simpa using e)
    exact ⟨d, by simpa using h1, h2⟩
  | [], [], _, _, _, e => by simp at e
/-- a walk over data -/
def Iter (K : Frag) (J : It) (ds : List Da) (G : Hp) : Prop :=
  Walk J ds.length (fun H => Same G H) (fun i H x H' => ∀ G1, Same G G1 → Same G1 H → ∃ d G2, ds[i]? = some d ∧ Gr G1 H G2 H' ∧ IsD K G2 x d)
section
variable {K : Frag} {G : Hp}
theorem iter_list {a : Addr} {vs : List V} {ds : List Da} (t : SqL K G a vs) (h : IsDs K G vs ds) : Iter K (Itl K a) ds G := by
  have w := walk_list (K := K) (a := a) (xs := vs)
  unfold Iter
  rw [← h.length]
  exact w.mono (fun H e => e.seq t) fun i H x H' hi e y G1 e1 e2 => by
    obtain ⟨rfl, y⟩ := y
    obtain ⟨d, h1, h2⟩ := h.get' y
    exact ⟨d, G1, h1, Gr.refl e2, h2.mono e1⟩
theorem iter_tup {a : Addr} {vs : List V} {ds : List Da} (t : SqT K G a vs) (h : IsDs K G vs ds) : Iter K (Itt K a) ds G := by
  have w := walk_tup (K := K) (a := a) (xs := vs)
  unfold Iter
  rw [← h.length]
  exact w.mono (fun H e => Same.tup e t) fun i H x H' hi e y G1 e1 e2 => by
    obtain ⟨rfl, y⟩ := y
    obtain ⟨d, h1, h2⟩ := h.get' y
    exact ⟨d, G1, h1, Gr.refl e2, h2.mono e1⟩
theorem range_get (lo : Int) (n i : Nat) (h : i < n) : (Mini.rangeL lo n)[i]? = some (.int (lo + (i : Nat))) := by
  unfold Mini.rangeL
  rw [List.getElem?_map, List.getElem?_range h]
  rfl
theorem iter_range (lo : Int) (n : Nat) : Iter K (Itr lo n) (Mini.rangeL lo n) G := by
  have w := walk_range (lo := lo) (n := n)
  have hl : (Mini.rangeL lo n).length = n := by unfold Mini.rangeL; simp
  unfold Iter
  rw [hl]
  exact w.mono (fun H e => True.intro) fun i H x H' hi e y G1 e1 e2 => by
    obtain ⟨rfl, rfl⟩ := y
    exact ⟨_, G1, range_get lo n i hi, Gr.refl e2, .int _⟩
theorem enum_get (k : Nat) : ∀ (xs : List Da) (i : Nat), (Mini.enumL k xs)[i]? = xs[i]?.map fun x => .tup [.int ((k + i : Nat) : Int), x]
  | [], i => by simp [Mini.enumL]
  | x :: r, 0 => by simp [Mini.enumL]
  | x :: r, i + 1 => by
    rw [Mini.enumL, List.getElem?_cons_succ, List.getElem?_cons_succ, enum_get (k + 1) r i]
    have e : k + 1 + i = k + (i + 1) := by omega
    rw [e]
theorem enum_length (k : Nat) : ∀ xs : List Da, (Mini.enumL k xs).length = xs.length
  | [] => rfl
  | x :: r => by rw [Mini.enumL, List.length_cons, List.length_cons, enum_length (k + 1) r]
theorem pair_gr {H G1 : Hp} {p : Addr} {x y : V} {a b : Da} (s : Same G1 H) (hp : H p = none) (h1 : IsD K G1 x a) (h2 : IsD K G1 y b) : ∃ G2, Gr G1 H G2 (upd H p (.tup [x, y])) ∧ IsD K G2 (.ref p) (.tup [a, b]) := by
  have g := Gr.new (o := .tup [x, y]) s hp
  exact ⟨_, g, .tup (SqT.of upd_same) (.cons (h1.mono g.g) (.cons (h2.mono g.g) .nil))⟩
theorem iter_enum {a : Addr} {vs : List V} {ds : List Da} (t : SqL K G a vs) (h : IsDs K G vs ds) : Iter K (Ite K a) (Mini.enumL 0 ds) G := by
  have w := walk_enum (K := K) (a := a) (xs := vs)
  unfold Iter
  rw [enum_length, ← h.length]
  exact w.mono (fun H e => e.seq t) fun i H x H' hi e y G1 e1 e2 => by
    obtain ⟨p, u, v, rfl, hp, rfl, q1, q2⟩ := y
    cases q1
    obtain ⟨d, h1, h2⟩ := h.get' q2
    obtain ⟨G2, g, hd⟩ := pair_gr (a := .int (i : Nat)) e2 hp (.int _) (h2.mono e1)
    refine ⟨_, G2, ?_, g, hd⟩
    rw [enum_get, h1]
    simp
theorem iter_enumT {a : Addr} {vs : List V} {ds : List Da} (t : SqT K G a vs) (h : IsDs K G vs ds) : Iter K (IteT K a) (Mini.enumL 0 ds) G := by
  have w := walk_enumT (K := K) (a := a) (xs := vs)
  unfold Iter
  rw [enum_length, ← h.length]
  exact w.mono (fun H e => Same.tup e t) fun i H x H' hi e y G1 e1 e2 => by
    obtain ⟨p, u, v, rfl, hp, rfl, q1, q2⟩ := y
    cases q1
    obtain ⟨d, h1, h2⟩ := h.get' q2
    obtain ⟨G2, g, hd⟩ := pair_gr (a := .int (i : Nat)) e2 hp (.int _) (h2.mono e1)
    refine ⟨_, G2, ?_, g, hd⟩
    rw [enum_get, h1]
    simp
theorem zip_get : ∀ (xs ys : List Da) (i : Nat), (Mini.zipL xs ys)[i]? = xs[i]?.bind fun x => ys[i]?.map fun y => .tup [x, y]
  | [], ys, i => by simp [Mini.zipL]
  | x :: r, [], i => by
    cases i <;> simp [Mini.zipL]
  | x :: r, y :: q, 0 => by simp [Mini.zipL]
  | x :: r, y :: q, i + 1 => by
    rw [Mini.zipL, List.getElem?_cons_succ, List.getElem?_cons_succ, List.getElem?_cons_succ, zip_get r q i]
theorem zip_length : ∀ xs ys : List Da, (Mini.zipL xs ys).length = min xs.length ys.length
  | [], ys => by simp [Mini.zipL]
  | x :: r, [] => by simp [Mini.zipL]
  | x :: r, y :: q => by
    rw [Mini.zipL, List.length_cons, List.length_cons, List.length_cons, zip_length r q]
    omega
theorem walk_zipT {K : Frag} {a b : Addr} {xs ys : List V} : Walk (RZ.ItzT K a b) (min xs.length ys.length) (fun H => SqT K H a xs ∧ SqT K H b ys) (YPair (fun i => xs[i]?) (fun i => ys[i]?)) := by
  refine ⟨fun i _ hi q => ?_, fun _ q => ⟨xs, ys, q.1, q.2, by omega⟩, fun i H v H' _ q y => ?_⟩
  · have h1 : i < xs.length := by omega
    have h2 : i < ys.length := by omega
    exact ⟨xs, ys, xs[i], ys[i], q.1, q.2, by simp [h1], by simp [h2]⟩
  · obtain ⟨T, x, z, h1, h2, h3, h4, h5⟩ := y
    exact ⟨T, x, z, h1, h2, h3, h4 xs q.1, h5 ys q.2⟩
theorem zip_yield {vs us : List V} {ds es : List Da} (h : IsDs K G vs ds) (k : IsDs K G us es) {i : Nat} {H H' : Hp} {x : V} (y : YPair (fun i => vs[i]?) (fun i => us[i]?) i H x H') {G1 : Hp} (e1 : Same G G1) (e2 : Same G1 H) :
    ∃ d G2, (Mini.zipL ds es)[i]? = some d ∧ Gr G1 H G2 H' ∧ IsD K G2 x d := by
  obtain ⟨p, u, v, rfl, hp, rfl, q1, q2⟩ := y
  obtain ⟨d, h1, h2⟩ := h.get' q1
  obtain ⟨e, k1, k2⟩ := k.get' q2
  obtain ⟨G2, g, hd⟩ := pair_gr e2 hp (h2.mono e1) (k2.mono e1)
  refine ⟨_, G2, ?_, g, hd⟩
  rw [zip_get, h1, k1]
  rfl
theorem iter_zipL {a b : Addr} {vs us : List V} {ds es : List Da} (t : SqL K G a vs) (h : IsDs K G vs ds) (t' : SqL K G b us) (k : IsDs K G us es) : Iter K (Itz K a b) (Mini.zipL ds es) G := by
  have w := walk_zip (K := K) (a := a) (b := b) (xs := vs) (ys := us) rfl
  unfold Iter
  rw [zip_length, ← h.length, ← k.length]
  exact w.mono (fun H e => ⟨e.seq t, e.seq t'⟩) fun i H x H' hi e y G1 e1 e2 => zip_yield h k y e1 e2
theorem iter_zipT {a b : Addr} {vs us : List V} {ds es : List Da} (t : SqT K G a vs) (h : IsDs K G vs ds) (t' : SqT K G b us) (k : IsDs K G us es) : Iter K (RZ.ItzT K a b) (Mini.zipL ds es) G := by
  have w := walk_zipT (K := K) (a := a) (b := b) (xs := vs) (ys := us)
  unfold Iter
  rw [zip_length, ← h.length, ← k.length]
  exact w.mono (fun H e => ⟨Same.tup e t, Same.tup e t'⟩) fun i H x H' hi e y G1 e1 e2 => zip_yield h k y e1 e2
end

section
variable (T : Top) (n : Nat) (prog : Nat → Option Mini.Def)
def SI (it : Mini.I) : Prop := ∀ (C : Ctx) (tg x : Expr), chkI T C it tg x = true → ∀ X : Cx, Good T n prog C X → ∀ (Y : Ent) (G H : Hp) (σ : L2.St) (l : Mini.L) (ds : List Da) (l' : Mini.L), St1 X.K Y G H σ l → Mini.evI (Mini.callF prog n) it l = some (ds, l') →
  ∃ w : TI, PI X tg x w ∧ ∀ R : It → Hp → Prop, (∀ J G' H', Go1 X.K Y G H σ l G' H' l' → Iter X.K J ds G' → R J H') → w σ H R
end
section
variable {T : Top} {n : Nat} {prog : Nat → Option Mini.Def}
theorem go_iter {K : Frag} {Y : Ent} {G H G1 H1 : Hp} {σ : L2.St} {l l1 : Mini.L} (g : Go1 K Y G H σ l G1 H1 l1) {a : Addr} {vs : List V} (t : SqL K G1 a vs) : SqL K H1 a vs := g.st.sub.seq t
theorem si_it {a : Mini.E} (ha : SE T n prog a) : SI T n prog (.it a) := by
  intro C tg x hc X g Y G H σ l ds l' s ev
  unfold chkI at hc
  simp only [Mini.evI, Option.bind_eq_some_iff, Option.map_eq_some_iff] at ev
  obtain ⟨⟨d, l1⟩, e1, ys, e2, e3⟩ := ev
  cases e3
  cases d <;> simp only [Mini.items?, Option.some.injEq, reduceCtorEq] at e2
  · subst e2
    refine ⟨_, pi_tup (pw X x), fun R q => ha C x hc X g Y G H σ l _ _ s e1 _ fun v G1 H1 g1 d1 => ?_⟩
    cases d1 with
    | tup t dd => exact ⟨_, rfl, ⟨_, Same.tup g1.st.sub t⟩, q _ G1 H1 g1 (iter_tup t dd)⟩
  · subst e2
    refine ⟨_, pi_list (pw X x), fun R q => ha C x hc X g Y G H σ l _ _ s e1 _ fun v G1 H1 g1 d1 => ?_⟩
    cases d1 with
    | lst t dd => exact ⟨_, rfl, ⟨_, g1.st.sub.seq t⟩, q _ G1 H1 g1 (iter_list t dd)⟩
theorem rng_of {i : Int} (h : Mini.rngOk i = true) : -(2 ^ 62) ≤ i ∧ i < 2 ^ 62 := by
  unfold Mini.rngOk at h
  rw [Bool.and_eq_true] at h
  exact ⟨of_decide_eq_true h.1, of_decide_eq_true h.2⟩
theorem si_r1 {a : Mini.E} (ha : SE T n prog a) : SI T n prog (.r1 a) := by
  intro C tg x hc X g Y G H σ l ds l' s ev
  unfold chkI at hc
  split at hc
  · rename_i f pf u pos
    simp only [Bool.and_eq_true, beq_iff_eq] at hc
    obtain ⟨⟨⟨h1, h2⟩, h3⟩, h4⟩ := hc
    subst h1
    obtain ⟨g1, g2, g3⟩ := g.gl h2
    simp only [Mini.evI, Option.bind_eq_some_iff] at ev
    obtain ⟨⟨d, l1⟩, e1, i, e2, e3⟩ := ev
    split at e3
    · rename_i hr
      cases e3
      obtain ⟨r1, r2⟩ := rng_of hr
      refine ⟨_, pi_range1 g1 (g.rt.bl _ (by decide +kernel)) (pa_cons (pw X u) pa_nil (starE h3)) (by rw [starE h3]; rfl), fun R q => ha C u h4 X g Y G H σ l d _ s e1 _ fun v G1 H1 go d1 => ?_⟩
      cases d1 <;> simp only [Mini.int?, Option.some.injEq, reduceCtorEq] at e2
      subst e2
      exact ⟨_, rfl, r1, r2, q _ G1 H1 go (iter_range 0 _)⟩
    · cases e3
  · cases hc
theorem si_r2 {a b : Mini.E} (ha : SE T n prog a) (hb : SE T n prog b) : SI T n prog (.r2 a b) := by
  intro C tg x hc X g Y G H σ l ds l' s ev
  unfold chkI at hc
  split at hc
  · rename_i f pf u v pos
    simp only [Bool.and_eq_true, beq_iff_eq] at hc
    obtain ⟨⟨⟨⟨⟨h1, h2⟩, h3⟩, h4⟩, h5⟩, h6⟩ := hc
    subst h1
    obtain ⟨g1, g2, g3⟩ := g.gl h2
    simp only [Mini.evI, Option.bind_eq_some_iff] at ev
    obtain ⟨⟨d, l1⟩, e1, ⟨d2, l2⟩, e2, i, e3, j, e4, e5⟩ := ev
    split at e5
    · rename_i hr
      cases e5
      rw [Bool.and_eq_true] at hr
      obtain ⟨r1, r2⟩ := rng_of hr.1
      obtain ⟨r3, r4⟩ := rng_of hr.2
      refine ⟨_, pi_range2 g1 (g.rt.bl _ (by decide +kernel)) (pa_cons (pw X u) (pa_cons (pw X v) pa_nil (starE h4)) (starE h3)) (by rw [starE h3, starE h4]; rfl) (by rw [starE h4]; rfl), fun R q => ha C u h5 X g Y G H σ l d _ s e1 _ fun v1 G1 H1 go d1 => ?_⟩
      refine hb C v h6 X g Y G1 H1 σ _ d2 _ go.st e2 _ fun v2 G2 H2 go2 dd2 => ?_
      cases d1 <;> simp only [Mini.int?, Option.some.injEq, reduceCtorEq] at e3
      subst e3
      cases dd2 <;> simp only [Mini.int?, Option.some.injEq, reduceCtorEq] at e4
      subst e4
      exact ⟨_, _, rfl, ⟨r1, r2, r3, r4⟩, q _ G2 H2 (go.trans go2) (iter_range _ _)⟩
    · cases e5
  · cases hc
theorem si_en {a : Mini.E} (ha : SE T n prog a) : SI T n prog (.en a) := by
  intro C tg x hc X g Y G H σ l ds l' s ev
  unfold chkI at hc
  split at hc
  · rename_i f pf u pos
    simp only [Bool.and_eq_true, beq_iff_eq] at hc
    obtain ⟨⟨⟨⟨h1, h2⟩, h3⟩, h0⟩, h4⟩ := hc
    subst h1
    obtain ⟨g1, g2, g3⟩ := g.gl h2
    simp only [Mini.evI, Option.bind_eq_some_iff] at ev
    obtain ⟨⟨d, l1⟩, e1, e3⟩ := ev
    split at e3
    · rename_i ys hys
      cases e3
      have ed : d = .lst ys := hys
      subst ed
      cases tg <;> first | cases h0 | skip
      refine ⟨_, pi_enum g1 (g.rt.bl _ (by decide +kernel)) (pa_cons (pw X u) pa_nil (starE h3)) (by rw [starE h3]; rfl), fun R q => ha C u h4 X g Y G H σ l _ _ s e1 _ fun v G1 H1 go d1 => ?_⟩
      cases d1 with
      | lst t dd => exact ⟨_, _, rfl, go.st.sub.seq t, q _ G1 H1 go (iter_enum t dd)⟩
    · rename_i ys hys
      cases e3
      have ed : d = .tup ys := hys
      subst ed
      cases tg <;> first | cases h0 | skip
      refine ⟨_, pi_enumT g1 (g.rt.bl _ (by decide +kernel)) (pa_cons (pw X u) pa_nil (starE h3)) (by rw [starE h3]; rfl), fun R q => ha C u h4 X g Y G H σ l _ _ s e1 _ fun v G1 H1 go d1 => ?_⟩
      cases d1 with
      | tup t dd => exact ⟨_, _, rfl, Same.tup go.st.sub t, q _ G1 H1 go (iter_enumT t dd)⟩
    · cases e3
  · cases hc
theorem si_zp {a b : Mini.E} (ha : SE T n prog a) (hb : SE T n prog b) : SI T n prog (.zp a b) := by
  intro C tg x hc X g Y G H σ l ds l' s ev
  unfold chkI at hc
  split at hc
  · rename_i f pf u v pos
    simp only [Bool.and_eq_true, beq_iff_eq] at hc
    obtain ⟨⟨⟨⟨⟨⟨h1, h2⟩, h3⟩, h4⟩, h0⟩, h5⟩, h6⟩ := hc
    subst h1
    obtain ⟨g1, g2, g3⟩ := g.gl h2
    simp only [Mini.evI, Option.bind_eq_some_iff] at ev
    obtain ⟨⟨d, l1⟩, e1, ⟨d2, l2⟩, e2, e3⟩ := ev
    cases tg <;> first | cases h0 | skip
    refine ⟨_, RZ.pi_zipA g1 (g.rt.bl _ (by decide +kernel)) (pa_cons (pw X u) (pa_cons (pw X v) pa_nil (starE h4)) (starE h3)) (starE h3) (by rw [starE h4]; rfl), fun R q => ha C u h5 X g Y G H σ l d _ s e1 _ fun v1 G1 H1 go d1 => ?_⟩
    refine hb C v h6 X g Y G1 H1 σ _ d2 _ go.st e2 _ fun v2 G2 H2 go2 dd2 => ?_
    split at e3
    · rename_i xs ys hx hy
      cases e3
      have ex : d = .lst xs := hx
      have ey : d2 = .lst ys := hy
      subst ex ey
      cases d1 with
      | lst t dd =>
        cases dd2 with
        | lst t2 dd2 =>
          have t' := go2.g.seq t
          exact ⟨_, _, _, _, rfl, .inl ⟨go2.st.sub.seq t', go2.st.sub.seq t2, q _ G2 H2 (go.trans go2) (iter_zipL t' (dd.mono go2.g) t2 dd2)⟩⟩
    · rename_i xs ys hx hy
      cases e3
      have ex : d = .tup xs := hx
      have ey : d2 = .tup ys := hy
      subst ex ey
      cases d1 with
      | tup t dd =>
        cases dd2 with
        | tup t2 dd2 =>
          have t' := Same.tup go2.g t
          exact ⟨_, _, _, _, rfl, .inr ⟨Same.tup go2.st.sub t', Same.tup go2.st.sub t2, q _ G2 H2 (go.trans go2) (iter_zipT t' (dd.mono go2.g) t2 dd2)⟩⟩
    · cases e3
  · cases hc
end
end MS

set_option Elab.async false
set_option linter.all false
set_option maxRecDepth 100000
set_option maxHeartbeats 4000000
/-! SoundJ: comprehensions; all expressions together. -/
namespace MS
open PySem PySem.Spec PyProof.Rows L2

/-! ### slots forgotten -/
theorem wipeC_length (l : Mini.L) : ∀ vs : List Nat, (Mini.wipeC l vs).length = l.length
  | [] => rfl
  | v :: vs => by rw [Mini.wipeC, List.length_set, wipeC_length l vs]
theorem wipeC_out {l : Mini.L} {i : Nat} : ∀ {vs : List Nat}, i ∉ vs → (Mini.wipeC l vs)[i]? = l[i]?
  | [], _ => rfl
  | v :: vs, h => by
    rw [List.mem_cons, not_or] at h
    rw [Mini.wipeC, List.getElem?_set_ne (Ne.symm h.1), wipeC_out h.2]
theorem wipeC_in {l : Mini.L} {i : Nat} : ∀ {vs : List Nat}, i ∈ vs → ∀ c, (Mini.wipeC l vs)[i]? = some c → c = .un
  | v :: vs, h, c, e => by
    rw [Mini.wipeC] at e
    by_cases z : v = i
    · subst z
      have hl : v < (Mini.wipeC l vs).length := by
        have := (List.getElem?_eq_some_iff.mp e).1
        rwa [List.length_set] at this
      rw [List.getElem?_set_self hl] at e
      cases e; rfl
    · rw [List.getElem?_set_ne z] at e
      rcases List.mem_cons.mp h with q | q
      · exact absurd q.symm z
      · exact wipeC_in q c e
theorem wipe_idem (σ : L2.St) (vs : List Nat) : wipe (wipe σ vs) vs = wipe σ vs := by
  apply List.ext_getElem?
  intro i
  by_cases h : i ∈ vs
  · have a : ∀ (τ : L2.St) (us : List Nat), i ∈ us → (wipe τ us)[i]? = if i < τ.length then some none else none := by
      intro τ us
      induction us with
      | nil => intro q; cases q
      | cons u us ih =>
        intro q
        show ((wipe τ us).set u none)[i]? = _
        by_cases z : u = i
        · subst z
          by_cases hl : u < τ.length
          · rw [List.getElem?_set_self (by rw [wipe_length]; exact hl), if_pos hl]
          · rw [if_neg hl, List.getElem?_eq_none (by rw [List.length_set, wipe_length]; omega)]
        · rw [List.getElem?_set_ne z]
          rcases List.mem_cons.mp q with w | w
          · exact absurd w.symm z
          · exact ih w
    rw [a _ _ h, a _ _ h, wipe_length]
  · rw [wipe_out h]
theorem backC_length (old new : Mini.L) : ∀ vs : List Nat, (Mini.backC old new vs).length = new.length
  | [] => rfl
  | v :: vs => by rw [Mini.backC, List.length_set, backC_length old new vs]
theorem backC_out {old new : Mini.L} {i : Nat} : ∀ {vs : List Nat}, i ∉ vs → (Mini.backC old new vs)[i]? = new[i]?
  | [], _ => rfl
  | v :: vs, h => by
    rw [List.mem_cons, not_or] at h
    rw [Mini.backC, List.getElem?_set_ne (Ne.symm h.1), backC_out h.2]
theorem backC_in {old new : Mini.L} {i : Nat} : ∀ {vs : List Nat}, i ∈ vs → ∀ c, (Mini.backC old new vs)[i]? = some c → c = old.getD i .un
  | v :: vs, h, c, e => by
    rw [Mini.backC] at e
    by_cases z : v = i
    · subst z
      have hl : v < (Mini.backC old new vs).length := by
        have := (List.getElem?_eq_some_iff.mp e).1
        rwa [List.length_set] at this
      rw [List.getElem?_set_self hl] at e
      cases e; rfl
    · rw [List.getElem?_set_ne z] at e
      rcases List.mem_cons.mp h with q | q
      · exact absurd q.symm z
      · exact backC_in q c e
theorem noOw_of {l : Mini.L} {vs : List Nat} (h : Mini.noOw l vs = true) {i : Nat} (hi : i ∈ vs) : ∀ m xs, l[i]? ≠ some (Mini.Cell.ow m xs) := fun m xs e => by
  unfold Mini.noOw at h
  have := List.all_eq_true.mp h i hi
  rw [List.getD_eq_getElem?_getD, e] at this
  cases this
theorem of_noOw {l : Mini.L} {vs : List Nat} (h : ∀ i ∈ vs, ∀ m xs, l[i]? ≠ some (Mini.Cell.ow m xs)) : Mini.noOw l vs = true := by
  unfold Mini.noOw
  rw [List.all_eq_true]
  intro i hi
  rw [List.getD_eq_getElem?_getD]
  cases q : l[i]? with
  | none => rfl
  | some c =>
    cases c with
    | ow m xs => exact absurd q (h i hi m xs)
    | un => rfl
    | fz d => rfl
section
variable {K : Frag} {Y : Ent} {G H G1 H1 G2 H2 : Hp} {σ σ2 : L2.St} {l l1 l2 : Mini.L} {vs : List Nat}
theorem own_wipe (h : Mini.noOw l vs = true) (i : Nat) (a : Addr) : OwnAt (wipe σ vs) (Mini.wipeC l vs) i a ↔ OwnAt σ l i a := by
  by_cases z : i ∈ vs
  · constructor
    · rintro ⟨_, m, xs, e⟩
      cases wipeC_in z _ e
    · rintro ⟨_, m, xs, e⟩
      exact absurd e (noOw_of h z m xs)
  · unfold OwnAt
    rw [wipe_out z, wipeC_out z]
theorem St1.wipe (s : St1 K Y G H σ l) (h : Mini.noOw l vs = true) : St1 K Y G H (L2.wipe σ vs) (Mini.wipeC l vs) := by
  refine ⟨s.sub, s.g0, by rw [wipe_length, wipeC_length]; exact s.len, fun i d e => ?_, fun i m xs e => ?_, fun i j a p q => s.dist i j a ((own_wipe h i a).mp p) ((own_wipe h j a).mp q), s.fr0, s.dom, fun k a q => ?_⟩
  · by_cases z : i ∈ vs
    · cases wipeC_in z _ e
    · rw [wipeC_out z] at e
      rw [wipe_out z]
      exact s.fz i d e
  · by_cases z : i ∈ vs
    · cases wipeC_in z _ e
    · rw [wipeC_out z] at e
      rw [wipe_out z]
      exact s.ow i m xs e
  · obtain ⟨q1, xs, q2⟩ := s.lent k a q
    have z : k ∉ vs := fun z => noOw_of h z _ _ q2
    rw [wipe_out z, wipeC_out z]
    exact ⟨q1, xs, q2⟩
/-- behind a block: its own names as they were -/
theorem Go1.back (s : St1 K Y G H σ l) (h : Mini.noOw l vs = true) (g : Go1 K Y G H (L2.wipe σ vs) (Mini.wipeC l vs) G1 H1 l1) : Go1 K Y G H σ l G1 H1 (Mini.backC l l1 vs) := by
  have s1 := g.st
  have hlen : l1.length = l.length := by
    have e1 := s1.len
    rw [wipe_length, s.len] at e1
    exact e1.symm
  have own : ∀ i a, OwnAt σ (Mini.backC l l1 vs) i a → i ∉ vs ∧ OwnAt (L2.wipe σ vs) l1 i a := fun i a ⟨h1, m, xs, h2⟩ => by
    have z : i ∉ vs := fun z => by
      have e := backC_in z _ h2
      rw [List.getD_eq_getElem?_getD] at e
      cases q : l[i]? with
      | none => rw [q] at e; cases e
      | some c =>
        rw [q] at e
        have e : Mini.Cell.ow m xs = c := e
        exact noOw_of h z m xs (by rw [q, e])
    rw [backC_out z] at h2
    exact ⟨z, by rw [wipe_out z]; exact h1, m, xs, h2⟩
  refine ⟨g.g, ⟨s1.sub, s1.g0, by rw [backC_length, hlen]; exact s.len, fun i d e => ?_, fun i m xs e => ?_, fun i j a p q => s1.dist i j a (own i a p).2 (own j a q).2, s1.fr0, s1.dom, fun k a q => ?_⟩, fun a o h1 h2 h3 => g.fr a o h1 h2 fun i z => h3 i ((own_wipe h i a).mp z), fun i a z => (own_wipe h i a).mp (g.ow i a (own i a z).2), g.dm⟩
  · by_cases z : i ∈ vs
    · have q := backC_in z _ e
      rw [List.getD_eq_getElem?_getD] at q
      cases w : l[i]? with
      | none => rw [w] at q; cases q
      | some c =>
        rw [w] at q
        have q : Mini.Cell.fz d = c := q
        subst q
        obtain ⟨v, v1, v2⟩ := s.fz i d w
        exact ⟨v, v1, v2.mono g.g⟩
    · rw [backC_out z] at e
      have := s1.fz i d e
      rwa [wipe_out z] at this
  · have hm : ∃ m, m = m := ⟨m, rfl⟩
    have z : i ∉ vs := fun z => by
      have q := backC_in z _ e
      rw [List.getD_eq_getElem?_getD] at q
      cases w : l[i]? with
      | none => rw [w] at q; cases q
      | some c =>
        rw [w] at q
        have q : Mini.Cell.ow m xs = c := q
        exact noOw_of h z m xs (by rw [w, q])
    rw [backC_out z] at e
    have := s1.ow i m xs e
    rwa [wipe_out z] at this
  · obtain ⟨q1, xs, q2⟩ := s1.lent k a q
    obtain ⟨w1, ys, w2⟩ := s.lent k a q
    have z : k ∉ vs := fun z => noOw_of h z _ _ w2
    rw [backC_out z]
    rw [wipe_out z] at q1
    exact ⟨q1, xs, q2⟩
/-- a thing that nothing leans on is changed -/
theorem St1.raw (s : St1 K Y G H σ l) {D : Addr} {o : HO} (g0 : G D = none) (h0 : Y.H0 D = none) (no : ∀ i, ¬ OwnAt σ l i D) : St1 K Y G (upd H D o) σ l := by
  have up : ∀ b, b ≠ D → (upd H D o) b = H b := fun b hb => upd_ne hb
  refine ⟨fun b u e => ?_, s.g0, s.len, s.fz, fun i m xs e => ?_, s.dist, fun b u e1 e2 e3 => ?_, fun b hb => ?_, s.lent⟩
  · have z : b ≠ D := fun z => by rw [z, g0] at e; cases e
    rw [up b z]; exact s.sub _ _ e
  · obtain ⟨a, us, h1, h2, h3, h4⟩ := s.ow i m xs e
    have z : a ≠ D := fun z => no i ⟨z ▸ h1, m, xs, e⟩
    exact ⟨a, us, h1, by rw [up a z]; exact h2, h3, h4⟩
  · obtain ⟨q1, q2⟩ := s.fr0 b u e1 e2 e3
    have z : b ≠ D := fun z => by rw [z, h0] at e1; cases e1
    exact ⟨by rw [up b z]; exact q1, q2⟩
  · by_cases z : b = D
    · subst z; rw [upd_same]; simp
    · rw [up b z]; exact s.dom b hb
theorem Go1.raw (g : Go1 K Y G H σ l G1 H1 l1) {D : Addr} {o : HO} (hD : H D = none) (g0 : G1 D = none) (h0 : Y.H0 D = none) (no : ∀ i, ¬ OwnAt σ l1 i D) : Go1 K Y G H σ l G1 (upd H1 D o) l1 := by
  refine ⟨g.g, g.st.raw g0 h0 no, fun a u h1 h2 h3 => ?_, g.ow, fun a ha => ?_⟩
  · obtain ⟨q1, q2⟩ := g.fr a u h1 h2 h3
    have z : a ≠ D := fun z => by rw [z, hD] at h1; cases h1
    exact ⟨by rw [upd_ne z]; exact q1, q2⟩
  · by_cases z : a = D
    · subst z; rw [upd_same]; simp
    · rw [upd_ne z]; exact g.dm a ha
/-- one turn of a block -/
theorem Go1.turn (iff1 : ∀ i a, OwnAt σ2 l1 i a ↔ OwnAt σ l i a) (g : Go1 K Y G H σ2 l1 G1 H1 l2) (hw : L2.wipe σ2 vs = σ) (hn : Mini.noOw l2 vs = true) : Go1 K Y G H σ l G1 H1 (Mini.wipeC l2 vs) := by
  have own : ∀ i a, OwnAt σ (Mini.wipeC l2 vs) i a ↔ OwnAt σ2 l2 i a := fun i a => by rw [← hw]; exact own_wipe hn i a
  refine ⟨g.g, by rw [← hw]; exact g.st.wipe hn, fun a o h1 h2 h3 => g.fr a o h1 h2 fun i z => h3 i ((iff1 i a).mp z), fun i a z => (iff1 i a).mp (g.ow i a ((own i a).mp z)), g.dm⟩
end
theorem setT_get : ∀ {t : Mini.Tg} {d : Da} {l l2 : Mini.L}, Mini.setT t d l = some l2 → ∀ i : Nat, (i ∉ slotsT t → l2[i]? = l[i]?) ∧ (l2[i]? = l[i]? ∨ ∃ e, l2[i]? = some (Mini.Cell.fz e))
  | .nm j, d, l, l2, h, i => by
    rw [Mini.setT] at h
    obtain ⟨rfl, _⟩ := putC_some h
    by_cases z : i = j
    · subst z
      refine ⟨fun q => absurd (by simp [slotsT]) q, ?_⟩
      by_cases hl : i < l.length
      · exact .inr ⟨d, List.getElem?_set_self hl⟩
      · exact .inl (by rw [List.getElem?_eq_none (by rw [List.length_set]; omega), List.getElem?_eq_none (by omega)])
    · have e := List.getElem?_set_ne (l := l) (a := Mini.Cell.fz d) (Ne.symm z)
      exact ⟨fun _ => e, .inl e⟩
  | .t2 a b, d, l, l2, h, i => by
    cases d with
    | tup ds =>
      match ds, h with
      | [x, y], h =>
        rw [Mini.setT, Option.bind_eq_some_iff] at h
        obtain ⟨l1, h1, h2⟩ := h
        obtain ⟨p1, p2⟩ := setT_get h1 i
        obtain ⟨q1, q2⟩ := setT_get h2 i
        refine ⟨fun z => ?_, ?_⟩
        · rw [q1 fun w => z (by simp [slotsT, w]), p1 fun w => z (by simp [slotsT, w])]
        · rcases q2 with q2 | q2
          · rw [q2]; exact p2
          · exact .inr q2
      | [], h => simp [Mini.setT] at h
      | [_], h => simp [Mini.setT] at h
      | _ :: _ :: _ :: _, h => simp [Mini.setT] at h
    | _ => simp [Mini.setT] at h
  | .t3 a b c, d, l, l2, h, i => by
    cases d with
    | tup ds =>
      match ds, h with
      | [x, y, z], h =>
        rw [Mini.setT, Option.bind_eq_some_iff] at h
        obtain ⟨l1, h1, h⟩ := h
        rw [Option.bind_eq_some_iff] at h
        obtain ⟨l3, h2, h3⟩ := h
        obtain ⟨p1, p2⟩ := setT_get h1 i
        obtain ⟨q1, q2⟩ := setT_get h2 i
        obtain ⟨r1, r2⟩ := setT_get h3 i
        refine ⟨fun z => ?_, ?_⟩
        · rw [r1 fun w => z (by simp [slotsT, w]), q1 fun w => z (by simp [slotsT, w]), p1 fun w => z (by simp [slotsT, w])]
        · rcases r2 with r2 | r2
          · rw [r2]
            rcases q2 with q2 | q2
            · rw [q2]; exact p2
            · exact .inr q2
          · exact .inr r2
      | [], h => simp [Mini.setT] at h
      | [_], h => simp [Mini.setT] at h
      | [_, _], h => simp [Mini.setT] at h
      | _ :: _ :: _ :: _ :: _, h => simp [Mini.setT] at h
    | _ => simp [Mini.setT] at h

section
variable {T : Top} {n : Nat} {prog : Nat → Option Mini.Def}
theorem Good.blk {C : Ctx} {X : Cx} (g : Good T n prog C X) (scope : Scope) (s : Shared) (H : Hp) (c : Addr) (cl : List (Str × Addr)) (fp : List Addr) : Good T n prog (blkCtx C scope) (X.blk s H scope (compEnvC scope cl c X.env) fp) where
  N := g.N
  sc := by
    show relS scope X.env.scope = relS scope C.sc
    rw [g.sc]
  fn := rfl
  calm := g.calm
  nd := g.nd
  xe := rfl
  room := g.room
  rt := g.rt
theorem foldSet {e : Expr} (h : notSet e = true) (env : Env) (x : Value) : foldedSetIterable e env x = pure x := by
  cases e <;> first | rfl | cases h
/-- the block's turn -/
def lcStep (Cl : Mini.Call) (elt : Mini.E) (t : Mini.Tg) (own : List Nat) (f : Mini.Pt) (x : Da) (l : Mini.L) : Option (Option Da × Mini.L) :=
  (Mini.setT t x l).bind fun l1 => (Mini.evF Cl f l1).bind fun p => if p.1 then (Mini.evE Cl elt p.2).map fun q => (some q.1, Mini.wipeC q.2 own) else some (none, Mini.wipeC p.2 own)
theorem ownN_snd (C : Ctx) (own : List Nat) : (ownN C own).map (·.2) = own := by
  unfold ownN
  rw [List.map_map]
  induction own with
  | nil => rfl
  | cons a r ih => rw [List.map_cons, ih]; rfl
theorem noOw_set {t : Mini.Tg} {d : Da} {l l2 : Mini.L} {vs : List Nat} (h : Mini.setT t d l = some l2) (hn : Mini.noOw l vs = true) : Mini.noOw l2 vs = true := of_noOw fun i hi m xs e => by
  rcases (setT_get h i).2 with q | ⟨d', q⟩
  · rw [q] at e; exact noOw_of hn hi m xs e
  · rw [q] at e; cases e
theorem noOw_go {K : Frag} {Y : Ent} {G H G1 H1 : Hp} {σ : L2.St} {l l1 : Mini.L} {vs : List Nat} (g : Go1 K Y G H σ l G1 H1 l1) (hn : Mini.noOw l vs = true) : Mini.noOw l1 vs = true := of_noOw fun i hi m xs e => by
  obtain ⟨a, us, h1, _⟩ := g.st.ow i m xs e
  obtain ⟨_, m', ys, q⟩ := g.ow i a ⟨h1, m, xs, e⟩
  exact noOw_of hn hi m' ys q
theorem noOw_wipe (l : Mini.L) (vs : List Nat) : Mini.noOw (Mini.wipeC l vs) vs = true := of_noOw fun i hi m xs e => by
  cases wipeC_in hi _ e
/-- the block's state: D is the new list -/
def LcInv (K : Frag) (Y : Ent) (G1 H1 : Hp) (σw : L2.St) (lw : Mini.L) (D : Addr) (own : List Nat) (step : Da → Mini.L → Option (Option Da × Mini.L)) (ds out : List Da) (lf : Mini.L) (i : Nat) (Hc : Hp) : Prop :=
  ∃ (Gc : Hp) (lc : Mini.L) (av : List V) (ad rest : List Da), Go1 K Y G1 H1 σw lw Gc Hc lc ∧ Mini.noOw lc own = true ∧ Hc D = some (.lst av) ∧ Gc D = none ∧ IsDs K Gc av ad ∧ ad.length ≤ i ∧ Mini.mapL step (ds.drop i) lc = some (rest, lf) ∧ ad ++ rest = out
def ttOf (X : Cx) (scope : Scope) : List Expr → TT
  | [] => tYes
  | y :: _ => fun σ H Q => ∀ (s : Shared) (H0 : Hp) (c : Addr) (cl : List (Str × Addr)) (fp : List Addr), wT (X.blk s H0 scope (compEnvC scope cl c X.env) fp) y σ H Q
def teOf (X : Cx) (scope : Scope) (el : Expr) : TE := fun σ H Q => ∀ (s : Shared) (H0 : Hp) (c : Addr) (cl : List (Str × Addr)) (fp : List Addr), wE (X.blk s H0 scope (compEnvC scope cl c X.env) fp) el σ H Q
def LcPre (X : Cx) (C : Ctx) (t : Mini.Tg) (own : List Nat) (el tg iter : Expr) (ifs : List Expr) (scope : Scope) (σ : L2.St) (H : Hp) (Q : VK) : Prop :=
  ∃ wi : TI, PI X tg iter wi ∧ BlkOk X.N X.env.scope scope (ownN C own) ∧ (∀ (s : Shared) (H : Hp) (c : Addr) (cl : List (Str × Addr)) (fp : List Addr), PTs (X.blk s H scope (compEnvC scope cl c X.env) fp) ifs (ttOf X scope ifs)) ∧
    (∀ (s : Shared) (H : Hp) (c : Addr) (cl : List (Str × Addr)) (fp : List Addr), PE (X.blk s H scope (compEnvC scope cl c X.env) fp) el (teOf X scope el)) ∧
    (∀ (s : Shared) (H : Hp) (c : Addr) (cl : List (Str × Addr)) (fp : List Addr), PG (X.blk s H scope (compEnvC scope cl c X.env) fp) tg (gOf X.K t)) ∧
    tLc wi (gOf X.K t) (ttOf X scope ifs) (teOf X scope el) ((ownN C own).map (·.2)) σ H Q
theorem lc_pre {elt : Mini.E} {t : Mini.Tg} {own : List Nat} {it : Mini.I} {f : Mini.Pt} (he : SE T n prog elt) (hi : SI T n prog it) (hf : match f with | .no => True | .so c => ST T n prog c)
    {C : Ctx} {el tg iter : Expr} {ifs : List Expr} {scope : Scope} {pos : Pos} (hc : chkO T C (.lc elt t own it f) (.ListComp el [⟨tg, iter, ifs, 0⟩] scope pos) = true) {X : Cx} (g : Good T n prog C X) {Y : Ent} {G H : Hp} {σ : L2.St} {l : Mini.L} {xs : List Da} {l' : Mini.L} (s : St1 X.K Y G H σ l)
    (ev : Mini.evO (Mini.callF prog n) (.lc elt t own it f) l = some (xs, l')) {Q : VK} (q : ∀ a us G' H', OC X.K Y G H σ l G' H' l' a us xs → Q (.ref a) H') : LcPre X C t own el tg iter ifs scope σ H Q := by
    unfold chkO at hc
    simp only [Bool.and_eq_true] at hc
    obtain ⟨⟨⟨⟨⟨⟨c1, c2⟩, c3⟩, c4⟩, c5⟩, c6⟩, c7⟩ := hc
    simp only [Mini.evO, Option.bind_eq_some_iff] at ev
    obtain ⟨⟨ds, l1⟩, e1, e2⟩ := ev
    split at e2
    · rename_i hcond
      rw [Bool.and_eq_true, decide_eq_true_eq] at hcond
      obtain ⟨hno, hlen⟩ := hcond
      rw [Option.map_eq_some_iff] at e2
      obtain ⟨⟨out, lf⟩, e3, e4⟩ := e2
      cases e4
      have e3 : Mini.mapL (lcStep (Mini.callF prog n) elt t own f) ds (Mini.wipeC l1 own) = some (out, lf) := e3
      obtain ⟨wi, hpi, hw⟩ := hi C tg iter c2 X g Y G H σ l ds l1 s e1
      -- the readings in the block, whatever it is
      have hN : X.N.Nodup := by rw [g.N]; exact g.nd
      have hblk : BlkOk X.N X.env.scope scope (ownN C own) := by rw [g.N, g.sc]; exact blkOk_by c1
      have ht : ∀ (s : Shared) (H : Hp) (c : Addr) (cl : List (Str × Addr)) (fp : List Addr), PTs (X.blk s H scope (compEnvC scope cl c X.env) fp) ifs (ttOf X scope ifs) := by
        intro s H c cl fp
        match ifs, c7 with
        | [], _ => exact pts_nil
        | [y], _ => exact pts_one ⟨fun pins s' σ' H' Q' I hq => hq s H c cl fp pins s' I⟩
      have hel : ∀ (s : Shared) (H : Hp) (c : Addr) (cl : List (Str × Addr)) (fp : List Addr), PE (X.blk s H scope (compEnvC scope cl c X.env) fp) el (teOf X scope el) := fun s H c cl fp => ⟨fun pins s' σ' H' Q' I hq => hq s H c cl fp pins s' I⟩
      have hgo : ∀ (s : Shared) (H : Hp) (c : Addr) (cl : List (Str × Addr)) (fp : List Addr), PG (X.blk s H scope (compEnvC scope cl c X.env) fp) tg (gOf X.K t) := fun s H c cl fp => pg_of (g.blk scope s H c cl fp) c4
      refine ⟨wi, hpi, hblk, ht, hel, hgo, ?_⟩
      rw [ownN_snd]
      refine hw _ fun J G1 H1 g1 w D hD => ?_
      have hG1D : G1 D = none := g1.st.sub.free hD
      have hH0 : Y.H0 D = none := by
        cases z : Y.H0 D with
        | none => rfl
        | some o => exact absurd hD (g1.st.dom D (by rw [z]; simp))
      have sw := g1.st.wipe hno
      refine lc_it w (LcInv X.K Y G1 H1 (wipe σ own) (Mini.wipeC l1 own) D own (lcStep (Mini.callF prog n) elt t own f) ds out lf) ?_ ?_ ?_ ?_
      · exact ⟨G1, _, [], [], out, Go1.gr sw (Gr.raw sw.sub hD), noOw_wipe _ _, upd_same, hG1D, .nil, Nat.zero_le _, by simpa using e3, rfl⟩
      · rintro i Hc _ ⟨Gc, lc, av, ad, rest, k1, _⟩
        exact k1.g.trans k1.st.sub
      · rintro i x Hc H' hi ⟨Gc, lc, av, ad, rest, k1, k2, k3, k4, k5, k6, k7, k8⟩ y
        obtain ⟨d, G2, y1, y2, y3⟩ := y Gc k1.g k1.st.sub
        have hdrop : ds.drop i = d :: ds.drop (i + 1) := by
          have hi' := (List.getElem?_eq_some_iff.mp y1)
          rw [← List.getElem_cons_drop_succ_eq_drop hi'.1, hi'.2] 
        rw [hdrop, Mini.mapL, Option.bind_eq_some_iff] at k7
        obtain ⟨⟨od, ln⟩, s1, s2⟩ := k7
        rw [Option.map_eq_some_iff] at s2
        obtain ⟨⟨rest', lf'⟩, s2, s3⟩ := s2
        cases s3
        unfold lcStep at s1
        rw [Option.bind_eq_some_iff] at s1
        obtain ⟨ls, t1, t2⟩ := s1
        have k1' := k1.then y2
        have notD : ∀ {σ3 : L2.St} {l3 : Mini.L}, (∀ i a, OwnAt σ3 l3 i a ↔ OwnAt (wipe σ own) lc i a) → ∀ i, ¬ OwnAt σ3 l3 i D := fun hiff i z => (sw.own_some (k1.ow i D ((hiff i D).mp z))).1 hD
        refine set_ok k1'.st t1 y3 _ fun σ2 st2 w2 => ?_
        have hsub : ∀ i ∈ slotsT t, i ∈ own := fun i hi => by
          have := List.all_eq_true.mp c5 i hi
          simpa using this
        have hw2 : wipe σ2 own = wipe σ own := by rw [w2 own hsub, wipe_idem]
        refine ⟨hw2, ?_⟩
        have hns := noOw_set t1 k2
        have iff1 : ∀ i a, OwnAt σ2 ls i a ↔ OwnAt (wipe σ own) lc i a := fun i a => by
          by_cases z : i ∈ own
          · constructor
            · rintro ⟨_, m, zs, e⟩; exact absurd e (noOw_of hns z m zs)
            · rintro ⟨_, m, zs, e⟩; exact absurd e (noOw_of k2 z m zs)
          · have e1 : σ2[i]? = (wipe σ own)[i]? := by rw [← wipe_out (σ := σ2) z, hw2]
            have e2 := (setT_get t1 i).1 fun q => z (hsub i q)
            unfold OwnAt
            rw [e1, e2]
        have hDat : H' D = some (.lst av) := y2.h _ _ k3
        have hGD : G2 D = none := y2.no D (by rw [k3]; simp) k4
        have hadl : ad.length < Mini.most := by
          have := (List.getElem?_eq_some_iff.mp y1).1
          exact Nat.lt_of_lt_of_le (Nat.lt_of_le_of_lt k6 this) hlen
        -- the turn's end
        have fin : ∀ {G3 H3 : Hp} {le : Mini.L}, Go1 X.K Y G2 H' σ2 ls G3 H3 le → H3 D = some (.lst av) ∧ G3 D = none ∧ Mini.noOw le own = true ∧ Go1 X.K Y G1 H1 (wipe σ own) (Mini.wipeC l1 own) G3 H3 (Mini.wipeC le own) ∧ IsDs X.K G3 av ad := fun {G3 H3 le} go => by
          obtain ⟨r1, r2⟩ := go.fr D _ hDat hGD (notD iff1)
          have hnl := noOw_go go hns
          exact ⟨r1, r2, hnl, k1'.trans (Go1.turn iff1 go hw2 hnl), k5.mono (y2.g.trans go.g)⟩
        have elem : ∀ {G2' H2' : Hp} {lt : Mini.L} {d1 : Da} {le : Mini.L}, Go1 X.K Y G2 H' σ2 ls G2' H2' lt → Mini.evE (Mini.callF prog n) elt lt = some (d1, le) → Mini.mapL (lcStep (Mini.callF prog n) elt t own f) (ds.drop (i + 1)) (Mini.wipeC le own) = some (rest', lf') → ad ++ (d1 :: rest') = out →
            teOf X scope el σ2 H2' fun y H4 => ∃ acc, H4 D = some (.lst acc) ∧ acc.length < sizeLine ∧ LcInv X.K Y G1 H1 (wipe σ own) (Mini.wipeC l1 own) D own (lcStep (Mini.callF prog n) elt t own f) ds out lf' (i + 1) (upd H4 D (.lst (acc ++ [y]))) := by
          intro G2' H2' lt d1 le go0 ev1 hrest hout s0 H0 c cl fp
          refine he (blkCtx C scope) el c6 _ (g.blk scope s0 H0 c cl fp) Y G2' H2' σ2 lt d1 le go0.st ev1 _ fun z G4 H4 go1 dz => ?_
          have go := go0.trans go1
          obtain ⟨r1, r2, r3, r4, r5⟩ := fin go
          refine ⟨av, r1, by rw [r5.length]; exact lt_line hadl, G4, Mini.wipeC le own, av ++ [z], ad ++ [d1], rest', ?_, noOw_wipe _ _, upd_same, r2, r5.append (.cons dz .nil), by rw [List.length_append]; exact Nat.succ_le_succ k6, hrest, by rw [List.append_assoc]; exact hout⟩
          exact r4.raw hD r2 hH0 fun j zz => (sw.own_some (r4.ow j D zz)).1 hD
        -- the tests
        rw [Option.bind_eq_some_iff] at t2
        obtain ⟨⟨b, lt⟩, tf, t3⟩ := t2
        have turn : ∀ {G3 H3 : Hp}, Go1 X.K Y G2 H' σ2 ls G3 H3 lt → (if b = true then teOf X scope el σ2 H3 fun y H4 => ∃ acc, H4 D = some (.lst acc) ∧ acc.length < sizeLine ∧ LcInv X.K Y G1 H1 (wipe σ own) (Mini.wipeC l1 own) D own (lcStep (Mini.callF prog n) elt t own f) ds out lf' (i + 1) (upd H4 D (.lst (acc ++ [y])))
            else LcInv X.K Y G1 H1 (wipe σ own) (Mini.wipeC l1 own) D own (lcStep (Mini.callF prog n) elt t own f) ds out lf' (i + 1) H3) := by
          intro G3 H3 go0
          cases b with
          | true =>
            simp only [if_true, Option.map_eq_some_iff] at t3
            obtain ⟨⟨d1, le⟩, ev1, t4⟩ := t3
            cases t4
            rw [if_pos rfl]
            exact elem go0 ev1 s2 k8
          | false =>
            have t4 : (none, Mini.wipeC lt own) = (od, ln) := by simpa using t3
            cases t4
            rw [if_neg Bool.false_ne_true]
            obtain ⟨r1, r2, r3, r4, r5⟩ := fin go0
            exact ⟨G3, Mini.wipeC lt own, av, ad, rest', r4, noOw_wipe _ _, r1, r2, r5, Nat.le_succ_of_le k6, s2, k8⟩
        match ifs, f, hf, c7, tf with
        | [], .no, _, _, tf =>
          rw [Mini.evF] at tf
          cases tf
          exact turn (Go1.refl st2)
        | [yx], .so cc, hf, c7, tf =>
          simp only [Mini.evF, Option.bind_eq_some_iff, Option.map_eq_some_iff] at tf
          obtain ⟨⟨dc, lt'⟩, ev0, b', tb, t5⟩ := tf
          cases t5
          intro s0 H0 c cl fp
          have c7 : chkE T (blkCtx C scope) cc yx = true := c7
          exact hf (blkCtx C scope) yx c7 _ (g.blk scope s0 H0 c cl fp) Y G2 H' σ2 ls dc _ _ st2 ev0 tb _ fun G3 H3 go0 => turn go0
        | [], .so _, _, c7, _ => simp [chkP] at c7
        | [_], .no, _, c7, _ => simp [chkP] at c7
        | _ :: _ :: _, _, _, c7, _ => simp at c7
      · rintro Hc ⟨Gc, lc, av, ad, rest, k1, k2, k3, k4, k5, k6, k7, k8⟩
        rw [List.drop_of_length_le (Nat.le_refl _), Mini.mapL] at k7
        cases k7
        rw [List.append_nil] at k8
        subst k8
        have gb := Go1.back g1.st hno k1
        refine q D av Gc Hc ⟨g1.trans gb, k3, k4, k5, hH0, fun i z => ?_, fun z => ?_⟩
        · exact (g1.st.own_some (gb.ow i D z)).1 hD
        · exact absurd hD (g1.dm D z)
    · cases e2
theorem chk_set {t : Mini.Tg} {own : List Nat} {elt : Mini.E} {it : Mini.I} {f : Mini.Pt} {C : Ctx} {el tg iter : Expr} {ifs : List Expr} {scope : Scope} {pos : Pos} (hc : chkO T C (.lc elt t own it f) (.ListComp el [⟨tg, iter, ifs, 0⟩] scope pos) = true) : notSet iter = true := by
  unfold chkO at hc
  simp only [Bool.and_eq_true] at hc
  exact hc.1.1.1.1.2
theorem so_lc {elt : Mini.E} {t : Mini.Tg} {own : List Nat} {it : Mini.I} {f : Mini.Pt} (he : SE T n prog elt) (hi : SI T n prog it) (hf : match f with | .no => True | .so c => ST T n prog c) : SO T n prog (.lc elt t own it f) := by
  intro C x hc X g Y G H σ l xs l' s ev Q q
  have hN : X.N.Nodup := by rw [g.N]; exact g.nd
  have hc' := hc
  unfold chkO at hc'
  split at hc'
  · rename_i el tg iter ifs scope pos
    obtain ⟨wi, hpi, hblk, ht, hel, hgo, h⟩ := lc_pre he hi hf hc g s ev q
    exact pe_w (pe_lc (pos := pos) g.calm hN hpi hblk hgo ht hel (foldSet (chk_set hc) X.env)) h
  · cases hc'
/-! ### a fresh list is handed to a def, and lost -/
theorem lone_go {K : Frag} {Y : Ent} {G H G1 H1 G' H' : Hp} {σ : L2.St} {l l1 : Mini.L} {a : Addr} {us : List V} {xs : List Da} {cells' : List Mini.Cell} (oc : OC K Y G H σ l G1 H1 l1 a us xs) (o : CallOut K G1 H1 [.ref a] [.ow false xs] G' H' cells') : Go1 K Y G H σ l G' H' l1 := by
  have s := oc.go.st
  have no : ∀ b, b ≠ a → ∀ i, ¬ LentAt [V.ref a] [Mini.Cell.ow false xs] i b := fun b hb i ⟨h1, _⟩ => by
    cases i with
    | zero => simp at h1; exact hb h1.symm
    | succ i => simp at h1
  have keep : ∀ b u, b ≠ a → H1 b = some u → G1 b = none → H' b = some u ∧ G' b = none := fun b u hb h1 h2 => o.fr b u h1 h2 (no b hb)
  refine ⟨oc.go.g.trans o.g, ⟨o.sub, s.g0.trans o.g, s.len, fun i d e => let ⟨v, v1, v2⟩ := s.fz i d e; ⟨v, v1, v2.mono o.g⟩, fun i m ys e => ?_, s.dist, fun b u e1 e2 e3 => ?_, fun b hb => o.dm b (s.dom b hb), s.lent⟩, fun b u h1 h2 h3 => ?_, oc.go.ow, fun b hb => o.dm b (oc.go.dm b hb)⟩
  · obtain ⟨b, ws, w1, w2, w3, w4, w5⟩ := s.ow i m ys e
    have hb : b ≠ a := fun z => oc.nw i ⟨z ▸ w1, m, ys, e⟩
    obtain ⟨k1, k2⟩ := keep b _ hb w2 w3
    exact ⟨b, ws, w1, k1, k2, w4.mono o.g, w5⟩
  · obtain ⟨q1, q2⟩ := s.fr0 b u e1 e2 e3
    exact keep b u (fun z => by rw [z, oc.h0] at e1; cases e1) q1 q2
  · obtain ⟨q1, q2⟩ := oc.go.fr b u h1 h2 h3
    exact keep b u (fun z => by
      subst z
      obtain ⟨i, hi⟩ := oc.src (by rw [h1]; simp)
      exact h3 i hi) q1 q2
theorem se_calO {f : Nat} {o : Mini.O} (ho : SO T n prog o) : SE T n prog (.calO f o) := by
  intro C x hc X g Y G H σ l d l' s ev Q q
  unfold chkE at hc
  split at hc
  · rename_i id p u pos
    simp only [Bool.and_eq_true, decide_eq_true_eq] at hc
    obtain ⟨⟨⟨h1, h2⟩, h3⟩, h4⟩ := hc
    simp only [Mini.evE, Option.bind_eq_some_iff, Option.map_eq_some_iff] at ev
    obtain ⟨⟨xs, l1⟩, e1, ⟨r, cells'⟩, c2, c3⟩ := ev
    obtain ⟨fa, fd, ps, m1, m2, m3, F, hlen⟩ := g.rt.fn f id h1
    obtain ⟨g1, g2, g3⟩ := g.gl h2
    have hr : Room n X.A := g.room
    refine pe_w (pe_call F hr g1 m1 m2 m3 .nil pass0 (pa_cons (pw X u) pa_nil (starE h3)) g2 (starE h3) rfl) ?_
    refine ho C u h4 X g Y G H σ l xs l1 s e1 _ fun a us G1 H1 oc => ?_
    have ao : ArgsOk X.K G1 H1 [V.ref a] [Mini.Cell.ow false xs] := by
      refine ⟨rfl, fun i d h => ?_, fun i m ys h => ?_, fun i j b hi hj => ?_⟩
      · cases i with
        | zero => simp at h
        | succ i => simp at h
      · cases i with
        | zero =>
          simp at h
          obtain ⟨rfl, rfl⟩ := h
          exact ⟨a, us, rfl, oc.at_, oc.no, oc.ds⟩
        | succ i => simp at h
      · obtain ⟨hi, _⟩ := hi
        obtain ⟨hj, _⟩ := hj
        cases i with
        | zero =>
          cases j with
          | zero => rfl
          | succ j => simp at hj
        | succ i => simp at hi
    refine ⟨by have := hlen _ _ c2; simpa using this, G1, _, r, cells', oc.go.st.sub, ao, c2, fun v G' H' o ro => ?_⟩
    have go2 := lone_go oc o
    cases r with
    | fz d' => cases c3; exact q v G' H' go2 ro
    | ow zs =>
      cases c3
      obtain ⟨a2, us2, rfl, r1, r2, r3, r4⟩ := ro
      have hH0 : Y.H0 a2 = none := by
        cases z : Y.H0 a2 with
        | none => rfl
        | some o => exact absurd r4 (oc.go.st.dom a2 (by rw [z]; simp))
      have hn : ∀ i, ¬ OwnAt σ l1 i a2 := fun i z => (oc.go.st.own_some z).1 r4
      have oc2 : OC X.K Y G H σ l G' H' l1 a2 us2 zs := ⟨go2, r1, r2, r3, hH0, hn, fun z => absurd r4 (oc.go.dm a2 z)⟩
      obtain ⟨g3, d3⟩ := oc2.freeze
      exact q _ _ _ g3 d3
  · cases hc
end
end MS

set_option Elab.async false
set_option linter.all false
set_option maxRecDepth 100000
set_option maxHeartbeats 4000000
/-! SoundK: tests; all expressions together. -/
namespace MS
open PySem PySem.Spec PyProof.Rows L2

section
variable {T : Top} {n : Nat} {prog : Nat → Option Mini.Def}
theorem plain_true {x : Expr} (h : plainH x = true) (env : Env) (whole : Sem Value) : isTrue x env whole = (do let v ← whole; standAt x.pos; holding [v] (truthy v)) := by
  cases x with
  | UnaryOp op _ _ => cases op <;> first | rfl | cases h
  | BoolOp _ _ _ => cases h
  | IfExp _ _ _ _ => cases h
  | Compare _ _ _ _ => cases h
  | _ => rfl
theorem st_plain {a : Mini.E} (ha : SE T n prog a) (hp : ∀ (C : Ctx) (x : Expr), chkE T C a x = true → plainH x = true) : ST T n prog a := by
  intro C x hc X g Y G H σ l d b l' s ev tb Q q
  refine pt_w (pt_truth (pw X x) (plain_true (hp C x hc) X.env)) (ha C x hc X g Y G H σ l d l' s ev _ fun v G' H' g' d' => ?_)
  exact ⟨b, truth_of tb (d'.mono g'.st.sub), q G' H' g'⟩
theorem st_not {a : Mini.E} (ha : ST T n prog a) : ST T n prog (.not a) := by
  intro C x hc X g Y G H σ l d b l' s ev tb Q q
  unfold chkE at hc
  split at hc
  · rename_i u p
    simp only [Mini.evE, Option.bind_eq_some_iff, Option.map_eq_some_iff] at ev
    obtain ⟨⟨da, l1⟩, e1, c, e3, e4⟩ := ev
    cases e4
    cases tb
    exact pt_w (pt_not (pwT X u)) (ha C u hc X g Y G H σ l da c l1 s e1 e3 _ fun G1 H1 g1 => q G1 H1 g1)
  · cases hc
theorem truth_bool {d : Da} {c : Bool} (h : Mini.bool? d = some c) : Mini.truth d = some c := by
  cases d <;> simp only [Mini.bool?, Option.some.injEq, reduceCtorEq] at h
  rw [h]
  rfl
theorem pwW {X : Cx} {op : BoolOp} {vs : List Expr} {p : Pos} {t : TT} (h : PT X (.BoolOp op vs p) t) : PW X (.BoolOp op vs p) t := ⟨fun wh pins s σ H Q I k => h.run pins s σ H Q I k⟩
theorem st_and {a b : Mini.E} (ha : ST T n prog a) (hb : ST T n prog b) : ST T n prog (.and a b) := by
  intro C x hc X g Y G H σ l d k l' s ev tb Q q
  simp only [Mini.evE, Option.bind_eq_some_iff] at ev
  obtain ⟨⟨da, l1⟩, e1, c, e2, e3⟩ := ev
  have main : ∀ (u w : Expr), chkE T C a u = true → chkE T C b w = true → tAnd (wT X u) (wT X w) σ H Q := by
    intro u w h1 h2
    refine ha C u h1 X g Y G H σ l da c l1 s e1 (truth_bool e2) _ fun G1 H1 g1 => ?_
    cases c with
    | true =>
      exact iteT (hb C w h2 X g Y G1 H1 σ l1 d k l' g1.st (by simpa using e3) tb _ fun G2 H2 g2 => q G2 H2 (g1.trans g2))
    | false =>
      have e4 : (Mini.Da.bl false, l1) = (d, l') := by simpa using e3
      cases e4
      cases tb
      exact iteF (q G1 H1 g1)
  unfold chkE at hc
  split at hc
  · rename_i u v p
    rw [Bool.and_eq_true] at hc
    exact pt_w (pw_and (pwT X u) (pw_and1 (pwT X v))).pt (main u v hc.1 hc.2)
  · rename_i u v w r p
    rw [Bool.and_eq_true] at hc
    exact pt_w (pw_and (pwT X u) (pwW (pwT X _))).pt (main u _ hc.1 hc.2)
  · cases hc
theorem st_or {a b : Mini.E} (ha : ST T n prog a) (hb : ST T n prog b) : ST T n prog (.or a b) := by
  intro C x hc X g Y G H σ l d k l' s ev tb Q q
  simp only [Mini.evE, Option.bind_eq_some_iff] at ev
  obtain ⟨⟨da, l1⟩, e1, c, e2, e3⟩ := ev
  have main : ∀ (u w : Expr), chkE T C a u = true → chkE T C b w = true → tOr (wT X u) (wT X w) σ H Q := by
    intro u w h1 h2
    refine ha C u h1 X g Y G H σ l da c l1 s e1 (truth_bool e2) _ fun G1 H1 g1 => ?_
    cases c with
    | false =>
      exact iteF (hb C w h2 X g Y G1 H1 σ l1 d k l' g1.st (by simpa using e3) tb _ fun G2 H2 g2 => q G2 H2 (g1.trans g2))
    | true =>
      have e4 : (Mini.Da.bl true, l1) = (d, l') := by simpa using e3
      cases e4
      cases tb
      exact iteT (q G1 H1 g1)
  unfold chkE at hc
  split at hc
  · rename_i u v p
    rw [Bool.and_eq_true] at hc
    exact pt_w (pw_or (pwT X u) (pw_or1 (pwT X v))).pt (main u v hc.1 hc.2)
  · rename_i u v w r p
    rw [Bool.and_eq_true] at hc
    exact pt_w (pw_or (pwT X u) (pwW (pwT X _))).pt (main u _ hc.1 hc.2)
  · cases hc
theorem pt_ifExp {X : Cx} {t a b : Expr} {pos : Pos} {tt ta tb : TT} (ht : PT X t tt) (ha : PT X a ta) (hb : PT X b tb) : PT X (.IfExp t a b pos) (fun σ H Q => tt σ H fun c H1 => if c = true then ta σ H1 Q else tb σ H1 Q) := by
  refine ⟨fun pins s σ H Q I h => ?_⟩
  refine isTrue_IfExp (thn (ht.run pins s σ H _ I h) fun c s1 ⟨H1, I1, q1⟩ => ?_)
  cases c with
  | true => exact ha.run pins s1 σ H1 Q I1 q1
  | false => exact hb.run pins s1 σ H1 Q I1 q1
theorem st_ife {t a b : Mini.E} (ht : ST T n prog t) (ha : ST T n prog a) (hb : ST T n prog b) : ST T n prog (.ife t a b) := by
  intro C x hc X g Y G H σ l d k l' s ev tb Q q
  unfold chkE at hc
  split at hc
  · rename_i c u v p
    simp only [Bool.and_eq_true] at hc
    obtain ⟨⟨h1, h2⟩, h3⟩ := hc
    simp only [Mini.evE, Option.bind_eq_some_iff] at ev
    obtain ⟨⟨dt, l1⟩, e1, k', e2, e3⟩ := ev
    refine pt_w (pt_ifExp (pwT X c) (pwT X u) (pwT X v)) (ht C c h1 X g Y G H σ l dt k' l1 s e1 e2 _ fun G1 H1 g1 => ?_)
    cases k' with
    | true => exact iteT (ha C u h2 X g Y G1 H1 σ l1 d k l' g1.st (by simpa using e3) tb _ fun G2 H2 g2 => q G2 H2 (g1.trans g2))
    | false => exact iteF (hb C v h3 X g Y G1 H1 σ l1 d k l' g1.st (by simpa using e3) tb _ fun G2 H2 g2 => q G2 H2 (g1.trans g2))
  · cases hc

variable (T n prog)
mutual
theorem sE : ∀ a : Mini.E, SE T n prog a ∧ ST T n prog a
  | .var i => ⟨se_var i, st_plain (se_var i) (by intro C x hc; unfold chkE at hc; split at hc <;> first | rfl | cases hc)⟩
  | .cst x d => ⟨se_cst x d, st_plain (se_cst x d) (by intro C x hc; unfold chkE at hc; split at hc <;> first | rfl | cases hc)⟩
  | .lit d => ⟨se_lit d, st_plain (se_lit d) (by intro C x hc; unfold chkE at hc; split at hc <;> first | rfl | cases hc)⟩
  | .bin op a b => have h := se_bin (op := op) (sE a).1 (sE b).1; ⟨h, st_plain h (by intro C x hc; unfold chkE at hc; split at hc <;> first | rfl | cases hc)⟩
  | .neg a => have h := se_neg (sE a).1; ⟨h, st_plain h (by intro C x hc; unfold chkE at hc; split at hc <;> first | rfl | cases hc)⟩
  | .not a => ⟨se_not (sE a).1, st_not (sE a).2⟩
  | .and a b => ⟨se_and (sE a).1 (sE b).1, st_and (sE a).2 (sE b).2⟩
  | .or a b => ⟨se_or (sE a).1 (sE b).1, st_or (sE a).2 (sE b).2⟩
  | .ife t a b => ⟨se_ife (sE t).2 (sE a).1 (sE b).1, st_ife (sE t).2 (sE a).2 (sE b).2⟩
  | .cmp op a b => ⟨se_cmp (sE a).1 (sE b).1, st_cmp (sE a).1 (sE b).1⟩
  | .chn o p a b c => se_chn (sE a).1 (sE b).1 (sE c).1
  | .tup es => have h := se_tup (sAs es); ⟨h, st_plain h (by intro C x hc; unfold chkE at hc; split at hc <;> first | rfl | cases hc)⟩
  | .ix a i => have h := se_ix (sE a).1 (sE i).1; ⟨h, st_plain h (by intro C x hc; unfold chkE at hc; split at hc <;> first | rfl | cases hc)⟩
  | .sl a lo hi => have h := se_sl (sE a).1 (sP lo).1 (sP hi).1; ⟨h, st_plain h (by intro C x hc; unfold chkE at hc; split at hc <;> first | rfl | cases hc)⟩
  | .call f es => have h := se_call (f := f) (sAs es); ⟨h, st_plain h (by intro C x hc; unfold chkE at hc; split at hc <;> first | rfl | cases hc)⟩
  | .bi b es => have h := se_bi (b := b) (sAs es); ⟨h, st_plain h (by intro C x hc; unfold chkE at hc; split at hc <;> first | rfl | cases hc)⟩
  | .isi a ts => have h := se_isi (ts := ts) (sE a).1; ⟨h, st_plain h (by intro C x hc; unfold chkE at hc; split at hc <;> first | rfl | cases hc)⟩
  | .fr o => have h := se_fr (sO o); ⟨h, st_plain h (by intro C x hc; unfold chkE at hc; rw [Bool.and_eq_true] at hc; exact hc.1)⟩
  | .oix x i => have h := se_oix (i := x) (sE i).1; ⟨h, st_plain h (by intro C x hc; unfold chkE at hc; split at hc <;> first | rfl | cases hc)⟩
  | .olen x => ⟨se_olen, st_plain se_olen (by intro C x hc; unfold chkE at hc; split at hc <;> first | rfl | cases hc)⟩
  | .calO f o => have h := se_calO (f := f) (sO o); ⟨h, st_plain h (by intro C x hc; unfold chkE at hc; split at hc <;> first | rfl | cases hc)⟩
  | .mind a => have h := se_mind (sE a).1; ⟨h, st_plain h (by intro C x hc; unfold chkE at hc; split at hc <;> first | rfl | cases hc)⟩
  | .otup x => ⟨se_otup, st_plain se_otup (by intro C x hc; unfold chkE at hc; split at hc <;> first | rfl | cases hc)⟩
theorem sAs : ∀ a : Mini.As, SAs T n prog a
  | .nil => sas_nil
  | .e a r => sas_e (sE a).1 (sAs r)
  | .st a r => sas_st (sE a).1 (sAs r)
  | .ln x r => sas_ln (sAs r)
theorem sP : ∀ a : Mini.Pt, SP' T n prog a ∧ (match a with | .no => True | .so c => ST T n prog c)
  | .no => ⟨sp_no, trivial⟩
  | .so a => ⟨sp_so (sE a).1, (sE a).2⟩
theorem sO : ∀ a : Mini.O, SO T n prog a
  | .dis es => so_dis (sAs es)
  | .lc elt t own it f => so_lc (sE elt).1 (sI it) (sP f).2
  | .lis a => so_lis (sE a).1
  | .cat a b => so_cat (sO a) (sO b)
  | .rep a b => so_rep (sO a) (sE b).1
  | .sl a lo hi => so_sl (sE a).1 (sP lo).1 (sP hi).1
  | .osl x lo hi => so_osl (sP lo).1 (sP hi).1
  | .call f es => so_call (sAs es)
  | .mv x => so_mv
  | .orr a b => so_orr (sO a) (sO b)
  | .sst a => so_sst (sE a).1
  | .srt a => so_srt (sE a).1
theorem sI : ∀ a : Mini.I, SI T n prog a
  | .it a => si_it (sE a).1
  | .r1 a => si_r1 (sE a).1
  | .r2 a b => si_r2 (sE a).1 (sE b).1
  | .en a => si_en (sE a).1
  | .zp a b => si_zp (sE a).1 (sE b).1
end
end
end MS

set_option Elab.async false
set_option linter.all false
set_option maxRecDepth 100000
set_option maxHeartbeats 4000000
/-! SoundL: statements. -/
namespace MS
open PySem PySem.Spec PyProof.Rows L2

/-! ### slots stored -/
section
variable {K : Frag} {Y : Ent} {G H : Hp} {σ : L2.St} {l l2 : Mini.L}
theorem St1.own_store (s : St1 K Y G H σ l) {i : Nat} {xs : List Da} {a : Addr} {us : List V} (h : Mini.putC i (.ow true xs) l = some l2) (h1 : H a = some (.lst us)) (h2 : G a = none) (h3 : IsDs K G us xs) (h4 : Y.H0 a = none) (h5 : ∀ j, ¬ OwnAt σ l j a) : St1 K Y G H (σ.set i (some (V.ref a))) l2 := by
  obtain ⟨rfl, nl⟩ := putC_some h
  have sl : ∀ j, j ≠ i → (l.set i (Mini.Cell.ow true xs))[j]? = l[j]? ∧ (σ.set i (some (V.ref a)))[j]? = σ[j]? := fun j hj => ⟨List.getElem?_set_ne (Ne.symm hj), List.getElem?_set_ne (Ne.symm hj)⟩
  have at1 : ∀ c, (l.set i (Mini.Cell.ow true xs))[i]? = some c → c = Mini.Cell.ow true xs ∧ (σ.set i (some (V.ref a)))[i]? = some (some (V.ref a)) := fun c e => by
    have hi : i < l.length := by
      have := (List.getElem?_eq_some_iff.mp e).1
      rwa [List.length_set] at this
    rw [List.getElem?_set_self hi] at e
    cases e
    exact ⟨rfl, List.getElem?_set_self (by rw [s.len]; exact hi)⟩
  have own : ∀ j b, OwnAt (σ.set i (some (V.ref a))) (l.set i (Mini.Cell.ow true xs)) j b → (j = i ∧ b = a) ∨ (j ≠ i ∧ OwnAt σ l j b) := fun j b ⟨e1, m, ys, e2⟩ => by
    by_cases z : j = i
    · subst z
      obtain ⟨_, q⟩ := at1 _ e2
      rw [q] at e1
      cases e1
      exact .inl ⟨rfl, rfl⟩
    · rw [(sl j z).1] at e2
      rw [(sl j z).2] at e1
      exact .inr ⟨z, e1, m, ys, e2⟩
  refine ⟨s.sub, s.g0, by rw [List.length_set, List.length_set]; exact s.len, fun j d e => ?_, fun j m ys e => ?_, fun j k b p q => ?_, s.fr0, s.dom, fun k b z => ?_⟩
  · by_cases z : j = i
    · subst z; cases (at1 _ e).1
    · rw [(sl j z).1] at e
      rw [(sl j z).2]
      exact s.fz j d e
  · by_cases z : j = i
    · subst z
      obtain ⟨q, w⟩ := at1 _ e
      cases q
      exact ⟨a, us, w, h1, h2, h3, fun _ => h4, fun z => by cases z⟩
    · rw [(sl j z).1] at e
      rw [(sl j z).2]
      exact s.ow j m ys e
  · rcases own j b p with ⟨p1, p2⟩ | ⟨p1, p2⟩
    · rcases own k b q with ⟨q1, q2⟩ | ⟨q1, q2⟩
      · rw [p1, q1]
      · subst p2; exact absurd q2 (h5 k)
    · rcases own k b q with ⟨q1, q2⟩ | ⟨q1, q2⟩
      · subst q2; exact absurd p2 (h5 j)
      · exact s.dist j k b p2 q2
  · obtain ⟨w1, ys, w2⟩ := s.lent k b z
    have z : k ≠ i := fun e => nl ys (e ▸ w2)
    rw [(sl k z).1, (sl k z).2]
    exact ⟨w1, ys, w2⟩
/-- an owned list is frozen where it is -/
theorem St1.frz (s : St1 K Y G H σ l) {i : Nat} {xs : List Da} (h : l[i]? = some (Mini.Cell.ow true xs)) : ∃ G', Same G G' ∧ St1 K Y G' H σ (l.set i (.fz (.lst xs))) := by
  obtain ⟨a, us, r1, r2, r3, r4, r5, _⟩ := s.ow i true _ h
  have hi : i < l.length := (List.getElem?_eq_some_iff.mp h).1
  have sm : Same G (upd G a (.lst us)) := same_new r3
  have oth : ∀ j, j ≠ i → (l.set i (Mini.Cell.fz (.lst xs)))[j]? = l[j]? := fun j hj => List.getElem?_set_ne (Ne.symm hj)
  have self : (l.set i (Mini.Cell.fz (.lst xs)))[i]? = some (.fz (.lst xs)) := List.getElem?_set_self hi
  have own : ∀ j b, OwnAt σ (l.set i (Mini.Cell.fz (.lst xs))) j b → j ≠ i ∧ OwnAt σ l j b := fun j b ⟨h1, m, zs, h2⟩ => by
    have hj : j ≠ i := fun e => by subst e; rw [self] at h2; cases h2
    rw [oth j hj] at h2
    exact ⟨hj, h1, m, zs, h2⟩
  refine ⟨upd G a (.lst us), sm, fun b o e => ?_, s.g0.trans sm, by rw [List.length_set]; exact s.len, fun j d hj => ?_, fun j m zs hj => ?_, fun j k b p q => s.dist j k b (own j b p).2 (own k b q).2, fun b o e1 e2 e3 => ?_, s.dom, fun k b z => ?_⟩
  · by_cases z : b = a
    · subst z; rw [upd_same] at e; cases e; exact r2
    · rw [upd_ne z] at e; exact s.sub _ _ e
  · by_cases z : j = i
    · subst z
      rw [self] at hj
      cases hj
      exact ⟨_, r1, .lst (SqL.of upd_same) (r4.mono sm)⟩
    · rw [oth j z] at hj
      obtain ⟨v, v1, v2⟩ := s.fz j d hj
      exact ⟨v, v1, v2.mono sm⟩
  · by_cases z : j = i
    · subst z; rw [self] at hj; cases hj
    · rw [oth j z] at hj
      obtain ⟨b, ws, w1, w2, w3, w4, w5⟩ := s.ow j m zs hj
      have nb : b ≠ a := fun e => z (s.dist j i a ⟨e ▸ w1, m, zs, hj⟩ ⟨r1, true, _, h⟩)
      exact ⟨b, ws, w1, w2, by rw [upd_ne nb]; exact w3, w4.mono sm, w5⟩
  · obtain ⟨q1, q2⟩ := s.fr0 b o e1 e2 e3
    have nb : b ≠ a := fun e => by rw [e, r5 rfl] at e1; cases e1
    exact ⟨q1, by rw [upd_ne nb]; exact q2⟩
  · obtain ⟨w1, zs, w2⟩ := s.lent k b z
    have z : k ≠ i := fun e => by subst e; rw [h] at w2; cases w2
    exact ⟨w1, zs, by rw [oth k z]; exact w2⟩
end

/-! ### statements -/
def EndOk (K : Frag) (Y : Ent) (G : Hp) (o : Mini.Out) (D : Ends) : Prop := match o with
  | .nx l' => ∀ σ' G' H', St1 K Y G' H' σ' l' → Same G G' → D.nx σ' H'
  | .rt r l' => ∀ v σ' G' H', St1 K Y G' H' σ' l' → Same G G' → RetOk K Y.H0 G' H' v r → D.rt v H'
theorem EndOk.mono {K : Frag} {Y : Ent} {G G1 : Hp} {o : Mini.Out} {D : Ends} (e : Same G G1) (h : EndOk K Y G o D) : EndOk K Y G1 o D := by
  cases o with
  | nx l' => exact fun σ' G' H' s q => h σ' G' H' s (e.trans q)
  | rt r l' => exact fun v σ' G' H' s q k => h v σ' G' H' s (e.trans q) k
section
variable (T : Top) (n : Nat) (prog : Nat → Option Mini.Def)
def SSt (a : Mini.S) : Prop := ∀ (C : Ctx) (x : Stmt), chkS T C a x = true → ∀ X : Cx, Good T n prog C X → ∀ (Y : Ent) (G H : Hp) (σ : L2.St) (l : Mini.L) (o : Mini.Out), St1 X.K Y G H σ l → Mini.exS (Mini.callF prog n) a l = some o → ∀ D : Ends, EndOk X.K Y G o D → wS X x D σ H
def SSs (a : Mini.Ss) : Prop := ∀ (C : Ctx) (x : List Stmt), chkSs T C a x = true → ∀ X : Cx, Good T n prog C X → ∀ (Y : Ent) (G H : Hp) (σ : L2.St) (l : Mini.L) (o : Mini.Out), St1 X.K Y G H σ l → Mini.exSs (Mini.callF prog n) a l = some o → ∀ D : Ends, EndOk X.K Y G o D → wSs X x D σ H
end
section
variable {T : Top} {n : Nat} {prog : Nat → Option Mini.Def}
theorem Good.hN {C : Ctx} {X : Cx} (g : Good T n prog C X) : X.N.Nodup := by rw [g.N]; exact g.nd
theorem swaps_no {e : Expr} (h : isLC e = false) (t : Option Expr) (k : Nat) (env : Env) : swapsWith e t k env = pure false := by
  cases e <;> first | rfl | cases h
theorem swaps_call {e : Expr} (h : isCallE e = true) (t : Option Expr) (k : Nat) (env : Env) : swapsWith e t k env = pure false := by
  cases e <;> first | rfl | cases h
theorem filterMap_lt {α β : Type} {f : α → Option β} : ∀ {l : List α}, (∃ x, x ∈ l ∧ f x = none) → (l.filterMap f).length < l.length
  | [], h => by obtain ⟨x, h, _⟩ := h; cases h
  | y :: r, h => by
    obtain ⟨x, hx, hf⟩ := h
    have hle := List.length_filterMap_le f r
    cases q : f y with
    | none => rw [List.filterMap_cons_none q, List.length_cons]; omega
    | some z =>
      rw [List.filterMap_cons_some q, List.length_cons, List.length_cons]
      rcases List.mem_cons.mp hx with rfl | hx
      · rw [hf] at q; cases q
      · have := filterMap_lt (f := f) (l := r) ⟨x, hx, hf⟩
        omega
theorem stores_cell {ts vs : List Expr} {k k2 : Nat} {p p2 : Pos} {env : Env} (h : ∃ x, x ∈ ts ∧ ∃ id q, x = .Name id q ∧ env.kindOf id = some .cell) : swappedStores [.Tuple ts k p] (.Tuple vs k2 p2) env = pure none := by
  obtain ⟨x, hx, id, q, rfl, hk⟩ := h
  have hl : ∀ n : Nat, (ts.filterMap fun y => match y with
    | .Name id pos => if env.kindOf id == some .local && pos.line == n then some id else none
    | _ => none).length ≠ ts.length := fun n => Nat.ne_of_lt (filterMap_lt ⟨_, hx, by simp [hk]⟩)
  unfold swappedStores
  simp only
  split
  · rfl
  · split
    · rfl
    · split
      · rfl
      · rename_i hneg
        exfalso
        apply hneg
        rw [Bool.or_eq_true]
        exact .inl (bne_iff_ne.mpr (hl _))
theorem stores_none {C : Ctx} {t : Mini.Tg} {tg e : Expr} (hc : chkT C t tg = true) (h : (isTupE tg && isTupE e && !(cellT C tg)) = false) (env : Env) (hk : ∀ id, C.sc.names.lookup id = some .cell → env.kindOf id = some .cell) : swappedStores [tg] e env = pure none := by
  have ht : ∀ ts p, tg ≠ .List ts p := fun ts p q => by
    subst q
    cases t <;> simp [chkT] at hc
  cases tg with
  | List ts p => exact absurd rfl (ht ts p)
  | Tuple ts a b =>
    cases e with
    | Tuple vs k2 p2 =>
      have hc2 : cellT C (.Tuple ts a b) = true := by simpa [isTupE] using h
      obtain ⟨x, hx, hn⟩ := List.any_eq_true.mp hc2
      refine stores_cell ⟨x, hx, ?_⟩
      unfold cellN at hn
      split at hn
      · exact ⟨_, _, rfl, hk _ (by simpa using hn)⟩
      · cases hn
    | _ => rfl
  | _ => cases e <;> rfl
theorem ss_asg {t : Mini.Tg} {a : Mini.E} : SSt T n prog (.asg t a) := by
  intro C x hc X g Y G H σ l o s ev D q
  unfold chkS at hc
  split at hc
  · rename_i tg e p
    simp only [Bool.and_eq_true, Bool.not_eq_true'] at hc
    obtain ⟨⟨⟨h1, h2⟩, h3⟩, h4⟩ := hc
    simp only [Mini.exS, Option.bind_eq_some_iff, Option.map_eq_some_iff] at ev
    obtain ⟨⟨d, l1⟩, e1, l2, e2, e3⟩ := ev
    subst e3
    have he := chkT_each h1 X.env []
    refine ps_w (ps_asg (pw X e) (pg_of g h1) (swaps_no h2 _ _ _) (stores_none h1 h3 _ fun id h => by show X.env.scope.names.lookup id = _; rw [g.sc]; exact h) he.1) ((sE T n prog a).1 C e h4 X g Y G H σ l d l1 s e1 _ fun v G1 H1 g1 d1 => ?_)
    exact set_ok g1.st e2 d1 _ fun σ2 s2 _ => q σ2 G1 H1 s2 g1.g
  · cases hc
theorem ss_exp {a : Mini.E} : SSt T n prog (.exp a) := by
  intro C x hc X g Y G H σ l o s ev D q
  unfold chkS at hc
  split at hc
  · rename_i e p
    rw [Bool.and_eq_true] at hc
    simp only [Mini.exS, Option.map_eq_some_iff] at ev
    obtain ⟨⟨d, l1⟩, e1, e3⟩ := ev
    subst e3
    exact ps_w (ps_expr (pw X e) (swaps_call hc.1 _ _ _)) ((sE T n prog a).1 C e hc.2 X g Y G H σ l d l1 s e1 _ fun v G1 H1 g1 d1 => q σ G1 H1 g1.st g1.g)
  · cases hc
theorem ss_ret {a : Mini.E} : SSt T n prog (.ret a) := by
  intro C x hc X g Y G H σ l o s ev D q
  unfold chkS at hc
  split at hc
  · rename_i e p
    simp only [Mini.exS, Option.map_eq_some_iff] at ev
    obtain ⟨⟨d, l1⟩, e1, e3⟩ := ev
    subst e3
    exact ps_w (ps_ret (pw X e)) ((sE T n prog a).1 C e hc X g Y G H σ l d l1 s e1 _ fun v G1 H1 g1 d1 => q v σ G1 H1 g1.st g1.g d1)
  · cases hc
theorem ss_retO {a : Mini.O} : SSt T n prog (.retO a) := by
  intro C x hc X g Y G H σ l o s ev D q
  unfold chkS at hc
  split at hc
  · rename_i e p
    simp only [Mini.exS, Option.map_eq_some_iff] at ev
    obtain ⟨⟨d, l1⟩, e1, e3⟩ := ev
    subst e3
    exact ps_w (ps_ret (pw X e)) (sO T n prog a C e hc X g Y G H σ l d l1 s e1 _ fun a us G1 H1 oc => q _ σ G1 H1 oc.go.st oc.go.g ⟨a, us, rfl, oc.at_, oc.no, oc.ds, oc.h0⟩)
  · cases hc
theorem ss_own {i : Nat} {a : Mini.O} : SSt T n prog (.own i a) := by
  intro C x hc X g Y G H σ l o s ev D q
  unfold chkS at hc
  split at hc
  · rename_i id p e k
    simp only [Bool.and_eq_true, Bool.or_eq_true, Bool.not_eq_true'] at hc
    obtain ⟨⟨h1, h2⟩, h3⟩ := hc
    simp only [Mini.exS, Option.bind_eq_some_iff, Option.map_eq_some_iff] at ev
    obtain ⟨⟨xs, l1⟩, e1, l2, e2, e3⟩ := ev
    subst e3
    obtain ⟨s1, s2, s3⟩ := g.store h1
    have fin : ∀ a us G' H', OC X.K Y G H σ l G' H' l1 a us xs → gName i (.ref a) σ H' D.nx := fun a us G' H' oc => q _ G' H' (oc.go.st.own_store e2 oc.at_ oc.no oc.ds oc.h0 oc.nw) oc.go.g
    rcases h2 with h2 | h2
    · unfold swapB at h2
      split at h2
      · rename_i el tg iter ifs scope kp
        simp only [Bool.and_eq_true, Bool.not_eq_true'] at h2
        obtain ⟨⟨w1, w2⟩, w3⟩ := h2
        have hloc : X.env.scope.names.lookup id = some .local := by
          rw [g.sc]
          split at w1
          · assumption
          · cases w1
        cases a with
        | lc elt t own it f =>
          obtain ⟨wi, hpi, hblk, ht, hel, hgo, hh⟩ := lc_pre (sE T n prog elt).1 (sI T n prog it) (sP T n prog f).2 h3 g s e1 (Q := fun v H' => gName i v σ H' D.nx) fun a us G' H' oc => fin a us G' H' oc
          intro pins sh I
          exact (ps_setLc g.calm g.hN s1 hloc (sw_true I.ok.kind hloc w2 w3) hpi hblk hgo ht hel (foldSet (chk_set h3) X.env)).run pins sh σ H D I hh
        | dis _ => simp [chkO] at h3
        | lis _ => simp [chkO] at h3
        | cat _ _ => simp [chkO] at h3
        | rep _ _ => simp [chkO] at h3
        | sl _ _ _ => simp [chkO] at h3
        | osl _ _ _ => simp [chkO] at h3
        | call _ _ => simp [chkO] at h3
        | mv _ => simp [chkO] at h3
        | orr _ _ => simp [chkO] at h3
        | sst _ => simp [chkO] at h3
        | srt _ => simp [chkO] at h3
      · cases h2
    · exact ps_w (ps_set g.hN s1 s2 (pw X e) (swaps_no h2 _ _ _) s3) (sO T n prog a C e h3 X g Y G H σ l xs l1 s e1 _ fun a us G' H' oc => fin a us G' H' oc)
  · cases hc
theorem ss_frz {i : Nat} : SSt T n prog (.frz i) := by
  intro C x hc
  unfold chkS at hc
  cases hc
theorem ss_never : SSt T n prog .never := by
  intro C x hc X g Y G H σ l o s ev
  rw [Mini.exS] at ev
  cases ev
end
end MS

set_option Elab.async false
set_option linter.all false
set_option maxRecDepth 100000
set_option maxHeartbeats 4000000
/-! SoundM: statements, loops, blocks. -/
namespace MS
open PySem PySem.Spec PyProof.Rows L2

section
variable {T : Top} {n : Nat} {prog : Nat → Option Mini.Def}
theorem ss_app {i : Nat} {a : Mini.E} : SSt T n prog (.app i a) := by
  intro C x hc X g Y G H σ l o s ev D q
  unfold chkS at hc
  split at hc
  · rename_i id p m ap u cp k
    simp only [Bool.and_eq_true, beq_iff_eq] at hc
    obtain ⟨⟨⟨⟨h1, h2⟩, h3⟩, h4⟩, h5⟩ := hc
    subst h1
    simp only [Mini.exS, Option.bind_eq_some_iff] at ev
    obtain ⟨xs0, e0, ⟨d, l1⟩, e1, xs, e2, e3⟩ := ev
    split at e3
    · rename_i hl
      cases e3
      have hfew : ((backTo cp (starEach [u] X.env)).all (fun x => !x.1) && (backToKw cp (keywordEach [] X.env)).all (fun x => x.1.isSome)
          && decide (([u] : List Expr).length + ([] : List Keyword).length + (if ([] : List Keyword).isEmpty then 0 else 1) < 30)) = true := by
        rw [starE h4]
        rfl
      obtain ⟨a0, us0, r1, r2, r3, r4⟩ := own_read g s e0
      refine ps_w (ps_expr (pe_bm PySem.F.plainAttrs_list PySem.F.slot_list_append PySem.F.type_list_append mt_append (g.var h3 p) (pwA X [u]) rfl hfew (by simpa using h2) (starE h4)) rfl) ?_
      refine ⟨_, r1, .inl ⟨rfl, _, SqL.of r2⟩, ?_⟩
      refine (sAs T n prog (.e a .nil)) C [u] (by simp [chkAs, h4, h5]) X g Y G H σ l [.v d] l1 s (by simp [Mini.evAs, e1]) _ fun vs G1 H1 g1 av => ?_
      cases av with
      | v dv rr =>
        cases rr
        obtain ⟨a1, us, t1, t2, t3, t4⟩ := own_read g g1.st e2
        rw [r1] at t1
        cases t1
        obtain ⟨m1, w1⟩ := getO_some e2
        refine ⟨_, us, _, rfl, rfl, t2, by rw [t4.length]; exact lt_line hl, ?_⟩
        have g2 := g1.st.write ⟨r1, m1, xs, w1⟩ (t4.append (.cons dv .nil))
        exact q σ _ _ g2.st (g1.g.trans g2.g)
    · cases e3
  · cases hc
theorem ss_set {i : Nat} {k a : Mini.E} : SSt T n prog (.set i k a) := by
  intro C x hc X g Y G H σ l o s ev D q
  unfold chkS at hc
  split at hc
  · rename_i id p u p2 e pos
    simp only [Bool.and_eq_true, Bool.not_eq_true'] at hc
    obtain ⟨⟨⟨⟨h1, h2⟩, h3⟩, h4⟩, h5⟩ := hc
    simp only [Mini.exS, Option.bind_eq_some_iff, Option.map_eq_some_iff] at ev
    obtain ⟨⟨d, l1⟩, e1, xs0, e0, ⟨dk, l2⟩, e2, xs, e3, kk, e4, j, e5, e6⟩ := ev
    subst e6
    have hasg : ∀ v, assign (.Subscript (.Name id p) u p2) X.env v = (do
      let ov ← holding [v] (eval (.Name id p) X.env)
      let iv ← holding [v, ov] (eval u X.env)
      standAt p2
      holding [v, ov, iv] (setItem ov iv v)
      release [v, ov, iv] []) := by
        intro v
        cases u <;> first | rfl | cases h2
    refine ps_w (ps_asg (pw X e) (pg_sub (g.var h1 p) (pw X u) set_list hasg) (by show swapsWith e (some (.Subscript (.Name id p) u p2)) pos.line X.env = pure false; exact swaps_no h3 _ _ _) (by cases e <;> rfl) rfl) ?_
    refine (sE T n prog a).1 C e h5 X g Y G H σ l d l1 s e1 _ fun v G1 H1 g1 d1 => ?_
    obtain ⟨m1, w1⟩ := getO_some e3
    have go : ∀ v' G2 H2, Go1 X.K Y G1 H1 σ l1 G2 H2 l2 → IsD X.K G2 v' dk → ∃ a1, σ[i]? = some (some (V.ref a1)) ∧ rSetL (V.ref a1) v' v H2 fun H3 => D.nx σ H3 := by
      intro v' G2 H2 g2 d2
      obtain ⟨a1, us, t1, t2, t3, t4⟩ := own_read g g2.st e3
      refine ⟨a1, t1, a1, us, kk, j, rfl, ?_, t2, ?_, ?_⟩
      · cases d2 <;> simp only [Mini.int?, Option.some.injEq, reduceCtorEq] at e4
        subst e4; rfl
      · rw [t4.length]; exact e5
      · have g3 := g2.st.write ⟨t1, m1, xs, w1⟩ (IsDs.set (d1.mono g2.g) j t4)
        exact q σ _ _ g3.st ((g1.g.trans g2.g).trans g3.g)
    -- the slot holds one address all along
    obtain ⟨a0, s0⟩ := slot_of g1.st e0
    refine ⟨_, s0, ?_⟩
    refine (sE T n prog k).1 C u h4 X g Y G1 H1 σ l1 dk l2 g1.st e2 _ fun v' G2 H2 g2 d2 => ?_
    obtain ⟨a1, t1, t2⟩ := go v' G2 H2 g2 d2
    rw [s0] at t1
    cases t1
    exact t2
  · cases hc
theorem chk_pair {C : Ctx} {a b : Mini.E} {y z : Expr} (hp : notStar y = true ∧ notStar z = true) (h1 : chkE T C a y = true) (h2 : chkE T C b z = true) : chkAs T C (.e a (.e b .nil)) [y, z] = true := by
  simp [chkAs, hp.1, hp.2, h1, h2]
theorem parB_of {C : Ctx} {X : Cx} (g : Good T n prog C X) {i l : Nat} {x : Expr} (h : parB C i l x = true) : ∃ id p, x = .Name id p ∧ X.N[i]? = some id ∧ X.env.scope.names.lookup id = some .local ∧ (p.line == l) = true ∧ X.env.kindOf id = some .local := by
  unfold parB at h
  split at h
  · rename_i id p
    simp only [Bool.and_eq_true, decide_eq_true_eq] at h
    obtain ⟨⟨h1, h2⟩, h3⟩ := h
    have hl : X.env.scope.names.lookup id = some .local := by
      rw [g.sc]
      split at h2
      · assumption
      · cases h2
    exact ⟨id, p, rfl, by rw [g.N]; exact h1, hl, h3, hl⟩
  · cases h
theorem nodup_ne {N : List Str} (h : N.Nodup) {i j : Nat} {x y : Str} (hi : N[i]? = some x) (hj : N[j]? = some y) (hij : i ≠ j) : x ≠ y := fun e => by
  subst e
  obtain ⟨a1, a2⟩ := List.getElem?_eq_some_iff.mp hi
  obtain ⟨b1, b2⟩ := List.getElem?_eq_some_iff.mp hj
  have hp := List.pairwise_iff_getElem.mp h
  rcases Nat.lt_or_gt_of_ne hij with z | z
  · exact hp i j a1 b1 z (a2.trans b2.symm)
  · exact hp j i b1 a1 z (b2.trans a2.symm)
theorem star_any : ∀ {vs : List Expr}, vs.all notStar = true → (vs.any fun | .Starred .. => true | _ => false) = false
  | [], _ => rfl
  | v :: vs, h => by
    rw [List.all_cons, Bool.and_eq_true] at h
    rw [List.any_cons, star_any h.2]
    cases v <;> first | rfl | exact absurd h.1 (by simp [notStar])
theorem swapped2 {x1 x2 : Str} {p1 p2 pt pt2 : Pos} {kt k2 : Nat} {vs : List Expr} {env : Env} (hl : vs.length = 2) (w1 : vs.all notStar = true) (w2 : vs.all (foldedForSure 8) = false) (w3 : vs.all (constantsAlone 8) = false) (hk : env.blockKind = .function)
    (f1 : env.kindOf x1 = some .local) (f2 : env.kindOf x2 = some .local) (l2 : (p2.line == p1.line) = true) (e21 : (x2 == x1) = false) : swappedStores [.Tuple [.Name x1 p1, .Name x2 p2] kt pt] (.Tuple vs k2 pt2) env = pure (some [x1, x2]) := by
  have hs := star_any w1
  have l1 : (p1.line == p1.line) = true := by simp
  unfold swappedStores
  simp only [hs, hk, w2, w3, List.filterMap_cons, List.filterMap_nil, List.head?_cons, Option.map_some, Option.getD_some, Expr.pos, f1, f2, l1, l2, hl]
  simp [List.eraseDups_cons, e21]
  intro x hx hst
  have hn := List.all_eq_true.mp w1 x hx
  cases x with
  | Starred _ _ => exact absurd hn Bool.false_ne_true
  | _ => exact absurd hst Bool.false_ne_true
theorem swapped3 {x1 x2 x3 : Str} {p1 p2 p3 pt pt2 : Pos} {kt k2 : Nat} {vs : List Expr} {env : Env} (hl : vs.length = 3) (w1 : vs.all notStar = true) (w2 : vs.all (foldedForSure 8) = false) (w3 : vs.all (constantsAlone 8) = false) (hk : env.blockKind = .function)
    (f1 : env.kindOf x1 = some .local) (f2 : env.kindOf x2 = some .local) (f3 : env.kindOf x3 = some .local) (l2 : (p2.line == p1.line) = true) (l3 : (p3.line == p1.line) = true) (e21 : (x2 == x1) = false) (e31 : (x3 == x1) = false) (e32 : (x3 == x2) = false) :
    swappedStores [.Tuple [.Name x1 p1, .Name x2 p2, .Name x3 p3] kt pt] (.Tuple vs k2 pt2) env = pure (some [x1, x2, x3]) := by
  have hs := star_any w1
  have l1 : (p1.line == p1.line) = true := by simp
  unfold swappedStores
  simp only [hs, hk, w2, w3, List.filterMap_cons, List.filterMap_nil, List.head?_cons, Option.map_some, Option.getD_some, Expr.pos, f1, f2, f3, l1, l2, l3, hl]
  simp [List.eraseDups_cons, e21, e31, e32]
  intro x hx hst
  have hn := List.all_eq_true.mp w1 x hx
  cases x with
  | Starred _ _ => exact absurd hn Bool.false_ne_true
  | _ => exact absurd hst Bool.false_ne_true
theorem ss_par2 {i j : Nat} {a b : Mini.E} : SSt T n prog (.par2 i j a b) := by
  intro C x hc X g Y G H σ l o s ev D q
  unfold chkS at hc
  split at hc
  · rename_i u v kt pt y z k2 pt2 pos
    simp only [Bool.and_eq_true, decide_eq_true_eq] at hc
    obtain ⟨⟨⟨⟨⟨h1, h2⟩, h3⟩, h4⟩, h5⟩, h6⟩ := hc
    obtain ⟨x1, p1, rfl, n1, k1, l1, f1⟩ := parB_of g h1
    obtain ⟨x2, p2, rfl, n2, k2', l2, f2⟩ := parB_of g h2
    have hne : x1 ≠ x2 := nodup_ne g.hN n1 n2 h3
    unfold parsB at h4
    simp only [Bool.and_eq_true, Bool.not_eq_true'] at h4
    obtain ⟨⟨w1, w2⟩, w3⟩ := h4
    have w1' := w1
    simp only [List.all_cons, List.all_nil, Bool.and_true, Bool.and_eq_true] at w1'
    simp only [Mini.exS, Option.bind_eq_some_iff, Option.map_eq_some_iff] at ev
    obtain ⟨⟨d1, la⟩, e1, ⟨d2, lb⟩, e2, lc, e3, ld, e4, e5⟩ := ev
    subst e5
    intro pins sh I
    have hk : X.env.blockKind = .function := by unfold Env.blockKind; rw [I.ok.kind]; rfl
    have e21 : (x2 == x1) = false := by simpa using fun e => hne e.symm
    have hw := swapped2 (kt := kt) (pt := pt) (k2 := k2) (pt2 := pt2) (env := X.env) (p1 := p1) (p2 := p2) rfl w1 w2 w3 hk f1 f2 l2 e21
    refine (ps_par g.calm g.hN n1 n2 h3 k1 k2' (pwA X [y, z]) hw rfl).run pins sh σ H D I ?_
    refine sAs T n prog (.e a (.e b .nil)) C [y, z] (chk_pair w1' h5 h6) X g Y G H σ l [.v d1, .v d2] lb s (by simp [Mini.evAs, e1, e2]) _ fun vs G1 H1 g1 av => ?_
    cases av with
    | v dv rr =>
      cases rr with
      | v dw rr =>
        cases rr
        exact ⟨_, _, rfl, q _ G1 H1 ((g1.st.store e3 dv).store e4 dw) g1.g⟩
  · cases hc
theorem ss_par3 {i j m : Nat} {a b c : Mini.E} : SSt T n prog (.par3 i j m a b c) := by
  intro C x hc X g Y G H σ l o s ev D q
  unfold chkS at hc
  split at hc
  · rename_i u v w kt pt y z r k2 pt2 pos
    simp only [Bool.and_eq_true, decide_eq_true_eq] at hc
    obtain ⟨⟨⟨⟨⟨⟨⟨⟨⟨h1, h2⟩, h3⟩, hij⟩, him⟩, hjm⟩, h4⟩, h5⟩, h6⟩, h7⟩ := hc
    obtain ⟨x1, p1, rfl, n1, k1, l1, f1⟩ := parB_of g h1
    obtain ⟨x2, p2, rfl, n2, k2', l2, f2⟩ := parB_of g h2
    obtain ⟨x3, p3, rfl, n3, k3', l3, f3⟩ := parB_of g h3
    unfold parsB at h4
    simp only [Bool.and_eq_true, Bool.not_eq_true'] at h4
    obtain ⟨⟨w1, w2⟩, w3⟩ := h4
    have w1' := w1
    simp only [List.all_cons, List.all_nil, Bool.and_true, Bool.and_eq_true] at w1'
    simp only [Mini.exS, Option.bind_eq_some_iff, Option.map_eq_some_iff] at ev
    obtain ⟨⟨d1, la⟩, e1, ⟨d2, lb⟩, e2, ⟨d3, lb3⟩, e2', lc, e3, ld, e4, le, e5, e6⟩ := ev
    subst e6
    intro pins sh I
    have hk : X.env.blockKind = .function := by unfold Env.blockKind; rw [I.ok.kind]; rfl
    have ne : ∀ {a b : Str}, a ≠ b → (b == a) = false := fun h => by simpa using fun e => h e.symm
    have hw := swapped3 (kt := kt) (pt := pt) (k2 := k2) (pt2 := pt2) (env := X.env) (p1 := p1) (p2 := p2) (p3 := p3) rfl w1 w2 w3 hk f1 f2 f3 l2 l3 (ne (nodup_ne g.hN n1 n2 hij)) (ne (nodup_ne g.hN n1 n3 him)) (ne (nodup_ne g.hN n2 n3 hjm))
    refine (ps_par3 g.calm g.hN n1 n2 n3 hij him hjm k1 k2' k3' (pwA X [y, z, r]) hw rfl).run pins sh σ H D I ?_
    refine sAs T n prog (.e a (.e b (.e c .nil))) C [y, z, r] (by simp [chkAs, w1'.1, w1'.2.1, w1'.2.2, h5, h6, h7]) X g Y G H σ l [.v d1, .v d2, .v d3] lb3 s (by simp [Mini.evAs, e1, e2, e2']) _ fun vs G1 H1 g1 av => ?_
    cases av with
    | v dv rr =>
      cases rr with
      | v dw rr =>
        cases rr with
        | v du rr =>
          cases rr
          exact ⟨_, _, _, rfl, q _ G1 H1 (((g1.st.store e3 dv).store e4 dw).store e5 du) g1.g⟩
  · cases hc
/-! ### tests, loops, blocks -/
theorem evT_ok {t : Mini.E} {C : Ctx} {x : Expr} (hc : chkE T C t x = true) {X : Cx} (g : Good T n prog C X) {Y : Ent} {G H : Hp} {σ : L2.St} {l : Mini.L} {b : Bool} {l' : Mini.L} (s : St1 X.K Y G H σ l) (ev : Mini.evT (Mini.callF prog n) t l = some (b, l'))
    {Q : Bool → Hp → Prop} (q : ∀ G' H', Go1 X.K Y G H σ l G' H' l' → Q b H') : wT X x σ H Q := by
  simp only [Mini.evT, Option.bind_eq_some_iff, Option.map_eq_some_iff] at ev
  obtain ⟨⟨d, l1⟩, e1, b', e2, e3⟩ := ev
  cases e3
  exact (sE T n prog t).2 C x hc X g Y G H σ l d _ _ s e1 e2 Q q
theorem ss_ife {t : Mini.E} {a b : Mini.Ss} (ha : SSs T n prog a) (hb : SSs T n prog b) : SSt T n prog (.ife t a b) := by
  intro C x hc X g Y G H σ l o s ev D q
  unfold chkS at hc
  split at hc
  · rename_i c u v p
    simp only [Bool.and_eq_true] at hc
    obtain ⟨⟨h1, h2⟩, h3⟩ := hc
    rw [Mini.exS, Option.bind_eq_some_iff] at ev
    obtain ⟨⟨k, l1⟩, e1, e2⟩ := ev
    refine ps_w (ps_if (pwT X c) (pwSs X u) (pwSs X v)) (evT_ok h1 g s e1 fun G1 H1 g1 => ?_)
    cases k with
    | true => exact iteT (ha C u h2 X g Y G1 H1 σ l1 o g1.st (by simpa using e2) D (q.mono g1.g))
    | false => exact iteF (hb C v h3 X g Y G1 H1 σ l1 o g1.st (by simpa using e2) D (q.mono g1.g))
  · cases hc
theorem ss_whl {t : Mini.E} {b : Mini.Ss} (hb : SSs T n prog b) : SSt T n prog (.whl t b) := by
  intro C x hc X g Y G H σ l o s ev D q
  unfold chkS at hc
  split at hc
  · rename_i c u p
    rw [Bool.and_eq_true] at hc
    rw [Mini.exS] at ev
    have hp : PassesOwn (model X.prog X.w) X.A X.env X.xe := by rw [g.xe]; exact PassesOwn.never
    refine ps_w (ps_while hp (pwT X c) (pwSs X u)) ?_
    refine ⟨fun m σ H => ∃ G1 l1, St1 X.K Y G1 H σ l1 ∧ Same G G1 ∧ Mini.whileS (Mini.evT (Mini.callF prog n) t) (Mini.exSs (Mini.callF prog n) b) m l1 = some o, ⟨_, G, l, s, Same.refl G, ev⟩, ?_⟩
    rintro m σ1 H1 ⟨G1, l1, s1, sm, ev1⟩
    cases m with
    | zero => rw [Mini.whileS] at ev1; cases ev1
    | succ m =>
      rw [Mini.whileS, Option.bind_eq_some_iff] at ev1
      obtain ⟨⟨k, l2⟩, e1, e2⟩ := ev1
      refine evT_ok hc.1 g s1 e1 fun G2 H2 g2 => ?_
      cases k with
      | true =>
        rw [if_pos rfl]
        simp only [if_true, Option.bind_eq_some_iff] at e2
        obtain ⟨o1, e3, e4⟩ := e2
        refine ⟨fun σ3 H3 => ∃ G3 l3, St1 X.K Y G3 H3 σ3 l3 ∧ Same G G3 ∧ Mini.whileS (Mini.evT (Mini.callF prog n) t) (Mini.exSs (Mini.callF prog n) b) m l3 = some o, fun σ3 H3 h => ⟨m, Nat.lt_succ_self m, h⟩, ?_⟩
        refine hb C u hc.2 X g Y G2 H2 σ1 l2 o1 g2.st e3 _ ?_
        cases o1 with
        | nx l3 => exact fun σ3 G3 H3 s3 q3 => ⟨G3, l3, s3, (sm.trans g2.g).trans q3, e4⟩
        | rt r l3 =>
          cases e4
          exact fun v σ3 G3 H3 s3 q3 k => q v σ3 G3 H3 s3 ((sm.trans g2.g).trans q3) k
      | false =>
        rw [if_neg Bool.false_ne_true]
        have e2 : Mini.Out.nx l2 = o := by simpa using e2
        subst e2
        exact q σ1 G2 H2 g2.st (sm.trans g2.g)
  · cases hc
theorem ss_for {tg : Mini.Tg} {it : Mini.I} {b : Mini.Ss} (hb : SSs T n prog b) : SSt T n prog (.for_ tg it b) := by
  intro C x hc X g Y G H σ l o s ev D q
  unfold chkS at hc
  split at hc
  · rename_i t iter u p
    simp only [Bool.and_eq_true] at hc
    obtain ⟨⟨⟨h1, h2⟩, h3⟩, h4⟩ := hc
    rw [Mini.exS, Option.bind_eq_some_iff] at ev
    obtain ⟨⟨ds, l1⟩, e1, e2⟩ := ev
    have hp : PassesOwn (model X.prog X.w) X.A X.env X.xe := by rw [g.xe]; exact PassesOwn.never
    obtain ⟨wi, hpi, hw⟩ := sI T n prog it C t iter h2 X g Y G H σ l ds l1 s e1
    refine ps_w (ps_for hp g.calm hpi (pg_of g h1) (pwSs X u) (foldSet h3 X.env)) (hw _ fun J G1 H1 g1 w => ?_)
    refine for_it w (fun i σ' H' => ∃ Gc lc, St1 X.K Y Gc H' σ' lc ∧ Same G1 Gc ∧ Mini.forS (Mini.forG (Mini.exSs (Mini.callF prog n) b) tg) (ds.drop i) lc = some o) ⟨G1, l1, g1.st, Same.refl _, by simpa using e2⟩ ?_ ?_ ?_
    · rintro i σ' H' hi ⟨Gc, lc, s1, s2, s3⟩
      exact s2.trans s1.sub
    · rintro i x σ' Hc H' hi ⟨Gc, lc, s1, s2, s3⟩ y
      obtain ⟨d, G2, y1, y2, y3⟩ := y Gc s2 s1.sub
      have hdrop : ds.drop i = d :: ds.drop (i + 1) := by
        have hi' := (List.getElem?_eq_some_iff.mp y1)
        rw [← List.getElem_cons_drop_succ_eq_drop hi'.1, hi'.2]
      rw [hdrop, Mini.forS, Option.bind_eq_some_iff] at s3
      obtain ⟨o1, t1, t2⟩ := s3
      unfold Mini.forG at t1
      rw [Option.bind_eq_some_iff] at t1
      obtain ⟨ls, t3, t4⟩ := t1
      refine set_ok (s1.gr y2) t3 y3 _ fun σ2 st2 _ => ?_
      refine hb C u h4 X g Y G2 H' σ2 ls o1 st2 t4 _ ?_
      cases o1 with
      | nx l3 => exact fun σ3 G3 H3 s3 q3 => ⟨G3, l3, s3, (s2.trans y2.g).trans q3, t2⟩
      | rt r l3 =>
        cases t2
        exact fun v σ3 G3 H3 s3 q3 k => q v σ3 G3 H3 s3 (((g1.g.trans s2).trans y2.g).trans q3) k
    · rintro σ' H' ⟨Gc, lc, s1, s2, s3⟩
      rw [List.drop_of_length_le (Nat.le_refl _), Mini.forS] at s3
      cases s3
      exact q σ' Gc H' s1 (g1.g.trans s2)
  · cases hc
theorem sss_nil : SSs T n prog .nil := by
  intro C x hc X g Y G H σ l o s ev D q
  unfold chkSs at hc
  rw [Mini.exSs] at ev
  cases ev
  cases x with
  | nil => exact pss_w pss_nil (q σ G H s (Same.refl G))
  | cons _ _ => cases hc
theorem sss_cons {a : Mini.S} {r : Mini.Ss} (ha : SSt T n prog a) (hr : SSs T n prog r) : SSs T n prog (.cons a r) := by
  intro C x hc X g Y G H σ l o s ev D q
  rw [Mini.exSs, Option.bind_eq_some_iff] at ev
  obtain ⟨o1, e1, e2⟩ := ev
  have main : ∀ y ys, x = y :: ys → chkS T C a y = true → chkSs T C r ys = true → wSs X x D σ H := by
    rintro y ys rfl h1 h2
    refine pss_w (pss_cons (pwS X y) (pwSs X ys)) (ha C y h1 X g Y G H σ l o1 s e1 _ ?_)
    cases o1 with
    | nx l1 => exact fun σ1 G1 H1 s1 q1 => hr C ys h2 X g Y G1 H1 σ1 l1 o s1 e2 D (q.mono q1)
    | rt v l1 =>
      cases e2
      exact q
  cases a with
  | frz i =>
    unfold chkSs at hc
    rw [Mini.exS] at e1
    split at e1
    · rename_i hm
      rw [Option.map_eq_some_iff] at e1
      obtain ⟨xs, w1, w2⟩ := e1
      subst w2
      obtain ⟨m, w3⟩ := getO_some w1
      have em : m = true := by
        have hm' : Mini.isMine (l.getD i .un) = true := hm
        rw [List.getD_eq_getElem?_getD, w3] at hm'
        cases m with
        | true => rfl
        | false => cases hm'
      subst em
      obtain ⟨G1, g1, s1⟩ := s.frz w3
      exact hr C x hc X g Y G1 H σ _ o s1 e2 D (q.mono g1)
    · cases e1
  | _ =>
    unfold chkSs at hc
    cases x with
    | nil => cases hc
    | cons y ys =>
      simp only [Bool.and_eq_true] at hc
      exact main y ys rfl hc.1 hc.2
variable (T n prog)
mutual
theorem sS : ∀ a : Mini.S, SSt T n prog a
  | .asg _ _ => ss_asg
  | .par2 _ _ _ _ => ss_par2
  | .par3 _ _ _ _ _ _ => ss_par3
  | .own _ _ => ss_own
  | .app _ _ => ss_app
  | .set _ _ _ => ss_set
  | .exp _ => ss_exp
  | .ret _ => ss_ret
  | .retO _ => ss_retO
  | .ife _ a b => ss_ife (sSs a) (sSs b)
  | .whl _ b => ss_whl (sSs b)
  | .for_ _ _ b => ss_for (sSs b)
  | .never => ss_never
  | .frz _ => ss_frz
theorem sSs : ∀ a : Mini.Ss, SSs T n prog a
  | .nil => sss_nil
  | .cons a r => sss_cons (sS a) (sSs r)
end
end
end MS

set_option Elab.async false
set_option linter.all false
set_option maxRecDepth 100000
set_option maxHeartbeats 4000000
/-! SoundN: defs, levels, the law's head. -/
namespace MS
open PySem PySem.Spec PyProof.Rows L2

structure DefE where
  x : Str
  st : Stmt
  N : List Str
  ps : List Str
  d : Mini.Def
def scOk (N P : List Str) (sc : Scope) : Bool := (match sc.kind with | .function => true | _ => false) && !sc.isCoroutine && !sc.isGenerator && decide N.Nodup && decide (N.take P.length = P) && (P.all fun x => match sc.names.lookup x with | some .local => true | some .cell => true | _ => false) && sc.names.all fun y => match y.2 with | .free => false | _ => true
theorem scOk_of {N P : List Str} {sc : Scope} (h : scOk N P sc = true) : FnScope N P sc := by
  unfold scOk at h
  simp only [Bool.and_eq_true, Bool.not_eq_true', decide_eq_true_eq] at h
  obtain ⟨⟨⟨⟨⟨⟨h1, h2⟩, h3⟩, h4⟩, h5⟩, h6⟩, h7⟩ := h
  refine ⟨?_, h2, h3, h4, h5, fun x hx => ?_, fun y hy e => ?_⟩
  · split at h1
    · assumption
    · cases h1
  · have := List.all_eq_true.mp h6 x hx
    split at this
    · exact .inl (by assumption)
    · exact .inr (by assumption)
    · cases this
  · have := List.all_eq_true.mp h7 y hy
    rw [e] at this
    cases this
def dChk (T : Top) (e : DefE) : Bool := scOk e.N e.ps (defScope e.st) && chkSs T ⟨e.N, defScope e.st, fun _ => true⟩ e.d.body (defBody e.st) && decide (e.d.np = e.ps.length) && decide (e.d.np + e.d.nl = e.N.length)
def progOf (ds : List DefE) : Nat → Option Mini.Def := fun f => (ds[f]?).map (·.d)
def topOf (ds : List DefE) (cs : List (Str × Da)) : Top := ⟨ds.map (·.x), cs⟩

/-! ### a call's cells -/
theorem lentC_get {cells : List Mini.Cell} {n i : Nat} {c : Mini.Cell} (h : (cells.map Mini.lentC ++ List.replicate n Mini.Cell.un)[i]? = some c) : (∃ c0, cells[i]? = some c0 ∧ c = Mini.lentC c0) ∨ c = .un := by
  by_cases hi : i < cells.length
  · rw [List.getElem?_append_left (by simpa using hi), List.getElem?_map] at h
    cases q : cells[i]? with
    | none => rw [q] at h; cases h
    | some c0 => rw [q] at h; cases h; exact .inl ⟨c0, rfl, rfl⟩
  · rw [List.getElem?_append_right (by simpa using hi)] at h
    have := (List.getElem?_eq_some_iff.mp h)
    obtain ⟨h1, h2⟩ := this
    rw [List.getElem_replicate] at h2
    exact .inr h2.symm
theorem lentC_at {cells : List Mini.Cell} {n i : Nat} {c0 : Mini.Cell} (h : cells[i]? = some c0) : (cells.map Mini.lentC ++ List.replicate n Mini.Cell.un)[i]? = some (Mini.lentC c0) := by
  have hi := (List.getElem?_eq_some_iff.mp h).1
  rw [List.getElem?_append_left (by simpa using hi), List.getElem?_map, h]
  rfl
theorem start_at {N : List Str} {vs : List V} {i : Nat} {v : V} (h : vs[i]? = some v) : (start N vs)[i]? = some (some v) := by
  have hi := (List.getElem?_eq_some_iff.mp h).1
  unfold L2.start
  rw [List.getElem?_append_left (by simpa using hi), List.getElem?_map, h]
  rfl
theorem start_len {N : List Str} {vs : List V} (h : vs.length ≤ N.length) : (start N vs).length = N.length := by
  unfold L2.start
  rw [List.length_append, List.length_map, List.length_replicate]
  omega
theorem outs_get : ∀ {cells : List Mini.Cell} {l : Mini.L} {i : Nat} {m m' : Bool} {xs ys : List Da}, cells[i]? = some (.ow m xs) → l[i]? = some (.ow m' ys) → (Mini.outs cells l)[i]? = some (.ow m ys)
  | c :: r, d :: l, 0, m, m', xs, ys, h1, h2 => by
    simp at h1 h2
    subst h1; subst h2
    simp [Mini.outs]
  | c :: r, d :: l, i + 1, m, m', xs, ys, h1, h2 => by
    have a : r[i]? = some (.ow m xs) := by simpa using h1
    have b : l[i]? = some (.ow m' ys) := by simpa using h2
    have q := outs_get a b
    have : ∃ e, Mini.outs (c :: r) (d :: l) = e :: Mini.outs r l := by
      cases c with
      | ow m xs =>
        cases d with
        | ow m2 zs => exact ⟨_, rfl⟩
        | un => exact ⟨_, rfl⟩
        | fz _ => exact ⟨_, rfl⟩
      | un => exact ⟨_, by cases d <;> rfl⟩
      | fz _ => exact ⟨_, by cases d <;> rfl⟩
    obtain ⟨e, he⟩ := this
    rw [he]
    simpa using q
  | [], _, _, _, _, _, _, h1, _ => by simp at h1
  | _ :: _, [], _, _, _, _, _, _, h2 => by simp at h2
def entOf (G H : Hp) (vs : List V) (cells : List Mini.Cell) : Ent := ⟨H, G, fun k a => LentAt vs cells k a⟩
theorem st_start {K : Frag} {G H : Hp} {vs : List V} {cells : List Mini.Cell} {N : List Str} {nl : Nat} (sm : Same G H) (ao : ArgsOk K G H vs cells) (hl : cells.length + nl = N.length) : St1 K (entOf G H vs cells) G H (start N vs) (cells.map Mini.lentC ++ List.replicate nl .un) := by
  have hvl : vs.length ≤ N.length := by rw [ao.len]; omega
  have own : ∀ i a, OwnAt (start N vs) (cells.map Mini.lentC ++ List.replicate nl .un) i a → LentAt vs cells i a := fun i a ⟨h1, m, xs, h2⟩ => by
    rcases lentC_get h2 with ⟨c0, q1, q2⟩ | q
    · cases c0 with
      | ow m0 ys =>
        obtain ⟨b, us, w1, _⟩ := ao.ow i m0 ys q1
        have := start_at (N := N) w1
        rw [h1] at this
        cases this
        exact ⟨w1, m0, ys, q1⟩
      | un => cases q2
      | fz _ => cases q2
    · cases q
  refine ⟨sm, Same.refl G, ?_, fun i d h => ?_, fun i m xs h => ?_, fun i j a p q => ao.dist i j a (own i a p) (own j a q), fun a o h1 h2 _ => ⟨h1, h2⟩, fun _ h => h, fun k a h => ?_⟩
  · rw [start_len hvl, List.length_append, List.length_map, List.length_replicate]
    exact hl.symm
  · rcases lentC_get h with ⟨c0, q1, q2⟩ | q
    · cases c0 with
      | fz d0 =>
        cases q2
        obtain ⟨v, v1, v2⟩ := ao.fz i d q1
        exact ⟨v, start_at v1, v2⟩
      | un => cases q2
      | ow _ _ => cases q2
    · cases q
  · rcases lentC_get h with ⟨c0, q1, q2⟩ | q
    · cases c0 with
      | ow m0 ys =>
        cases q2
        obtain ⟨b, us, w1, w2, w3, w4⟩ := ao.ow i m0 xs q1
        exact ⟨b, us, start_at w1, w2, w3, w4, ⟨fun z => Bool.noConfusion z, fun _ => ⟨w1, m0, xs, q1⟩⟩⟩
      | un => cases q2
      | fz _ => cases q2
    · cases q
  · obtain ⟨h1, m, xs, h2⟩ := id h
    exact ⟨start_at h1, xs, lentC_at h2⟩
theorem call_out {K : Frag} {G H G' H' : Hp} {vs : List V} {cells : List Mini.Cell} {σ' : L2.St} {l' : Mini.L} (ao : ArgsOk K G H vs cells) (s : St1 K (entOf G H vs cells) G' H' σ' l') (g : Same G G') : CallOut K G H vs cells G' H' (Mini.outs cells l') := by
  refine ⟨g, s.sub, s.dom, fun a o h1 h2 h3 => s.fr0 a o h1 h2 h3, fun i m xs h => ?_⟩
  obtain ⟨a, us, w1, _⟩ := ao.ow i m xs h
  obtain ⟨q1, ys, q2⟩ := s.lent i a ⟨w1, m, xs, h⟩
  obtain ⟨b, us', r1, r2, r3, r4, _⟩ := s.ow i false ys q2
  rw [q1] at r1
  cases r1
  exact ⟨ys, a, us', outs_get h q2, w1, r2, r3, r4⟩

/-! ### levels -/
structure FunAt (K : Frag) (mg : Str → Option Value) (e : DefE) : Prop where
  ex : ∃ (a : Addr) (fd : FuncData), mg e.x = some (.ref a) ∧ L2.Fun K e.x e.x e.st a fd ∧ Binds K fd e.ps []
structure Facts (K : Frag) (mg : Str → Option Value) (ds : List DefE) (cs : List (Str × Da)) : Prop where
  fn : ∀ e ∈ ds, FunAt K mg e
  bl : ∀ x : Str, x ∈ bltNames → mg x = none
  cs : ∀ (x : Str) (d : Da), (x, d) ∈ cs → ∃ (u : Value) (v : V), mg x = some u ∧ RelV v u ∧ ∀ G, IsD K G v d
theorem callF_len {prog : Nat → Option Mini.Def} {n f : Nat} {cells : List Mini.Cell} {r : Mini.Ret × List Mini.Cell} (h : Mini.callF prog n f cells = some r) : ∃ d, prog f = some d ∧ cells.length = d.np := by
  cases n with
  | zero => cases h
  | succ n =>
    rw [Mini.callF, Option.bind_eq_some_iff] at h
    obtain ⟨d, h1, h2⟩ := h
    unfold Mini.runDef at h2
    split at h2
    · rename_i q
      exact ⟨d, h1, q⟩
    · cases h2
theorem level {P : Program} {w : World} {K : Frag} {mg : Str → Option Value} {base : Heap} {ds : List DefE} {cs : List (Str × Da)} (F : Facts K mg ds cs) (hc : ∀ e ∈ ds, dChk (topOf ds cs) e = true) :
    ∀ (n f : Nat) (e : DefE) (a : Addr) (fd : FuncData), ds[f]? = some e → mg e.x = some (.ref a) → L2.Fun K e.x e.x e.st a fd → Binds K fd e.ps [] → FnOk P w K mg base CX0 n a fd e.ps (spF (Mini.callF (progOf ds) n) f e.ps.length K)
  | 0, f, e, a, fd, _, _, _, _ => ⟨fun vs H Q E h => h.1, fun A outer s H args us vs Q E _ _ _ _ h => by
      obtain ⟨_, G, cells, r, cells', _, _, h3, _⟩ := h
      cases h3⟩
  | n + 1, f, e, a, fd, he, hm, hf, hb => by
    have hmem : e ∈ ds := List.mem_of_getElem? he
    have hk := hc e hmem
    unfold dChk at hk
    simp only [Bool.and_eq_true, decide_eq_true_eq] at hk
    obtain ⟨⟨⟨k1, k2⟩, k3⟩, k4⟩ := hk
    have S := scOk_of k1
    refine hf.ok S (fun vs H Q E h => h.1) fun cdv A outer s H vs Q E hr h => ⟨wSs _ (defBody e.st), pwSs _ _, ?_⟩
    obtain ⟨hvl, G, cells, r, cells', sm, ao, hcall, hQ⟩ := h
    rw [Mini.callF, Option.bind_eq_some_iff] at hcall
    obtain ⟨d, d1, d2⟩ := hcall
    have hd : d = e.d := by
      unfold progOf at d1
      rw [he] at d1
      cases d1; rfl
    subst hd
    unfold Mini.runDef at d2
    split at d2
    · rename_i hnp
      rw [Option.map_eq_some_iff] at d2
      obtain ⟨o, ev, d3⟩ := d2
      refine sSs (topOf ds cs) n (progOf ds) e.d.body ⟨e.N, defScope e.st, fun _ => true⟩ (defBody e.st) k2 (cxOf CX0 P w K mg base e.N e.x (defScope e.st) a cdv A outer s H E).nox ⟨rfl, rfl, rfl, rfl, S.nd, rfl, hr, ⟨fun f' x hx => ?_, F.bl, F.cs⟩⟩ (entOf G H vs cells) G H (start e.N vs) _ o (st_start sm ao (by rw [hnp]; exact k4)) ev _ ?_
      · have hx' : (ds.map (·.x))[f']? = some x := hx
        rw [List.getElem?_map] at hx'
        cases q : ds[f']? with
        | none => rw [q] at hx'; cases hx'
        | some e' =>
          rw [q] at hx'
          cases hx'
          have hmem' : e' ∈ ds := List.mem_of_getElem? q
          obtain ⟨a', fd', m1, m2, m3⟩ := (F.fn e' hmem').ex
          refine ⟨a', fd', e'.ps, m1, m2.kp, m3, level F hc n f' e' a' fd' q m1 m2 m3, fun cells r hcr => ?_⟩
          obtain ⟨d, d1, d2⟩ := callF_len hcr
          unfold progOf at d1
          rw [q] at d1
          cases d1
          have hk := hc e' hmem'
          unfold dChk at hk
          simp only [Bool.and_eq_true, decide_eq_true_eq] at hk
          rw [d2]
          exact hk.1.2
      · cases o with
        | nx l' =>
          cases d3
          exact fun σ' G' H' s' g' => hQ .non G' H' (call_out ao s' g') .non
        | rt r' l' =>
          cases d3
          exact fun v σ' G' H' s' g' k => hQ v G' H' (call_out ao s' g') k
    · cases d2
end MS

set_option Elab.async false
set_option linter.all false
set_option maxRecDepth 100000
set_option maxHeartbeats 4000000
/-! SoundO: what the top has written; the law's own head. -/
namespace MS
open PySem PySem.Spec PyProof.Rows L2

/-- a def as the top left it -/
def FunK (K : Frag) (x : Str) (st : Stmt) : Prop := ∃ (f : Addr) (oc : Value) (od an : Option Addr) (kV doc pm cdv ct : Value) (osl : Array (Option Value)),
  PySem.W.nsIn K mainGlobals x = some (some (.ref f)) ∧ K.lookup f = some ⟨oc, od, .func (PySem.W.fnOf x x (defArgs st) (defBody st) (defScope st) .none kV doc pm an cdv ct), osl⟩ ∧ PySem.W.codeIn K cdv x = true ∧ PySem.W.keepIn K (.ref f) = true
theorem funk {K : Frag} {x : Str} {st : Stmt} {f : Addr} {oc : Value} {od an : Option Addr} {kV doc pm cdv ct : Value} {osl : Array (Option Value)} (a : PySem.W.nsIn K mainGlobals x = some (some (.ref f)))
    (l : K.lookup f = some ⟨oc, od, .func (PySem.W.fnOf x x (defArgs st) (defBody st) (defScope st) .none kV doc pm an cdv ct), osl⟩) (c : PySem.W.codeIn K cdv x = true) (k : PySem.W.keepIn K (.ref f) = true) : FunK K x st := ⟨f, oc, od, an, kV, doc, pm, cdv, ct, osl, a, l, c, k⟩
def BindOk (e : DefE) : Prop := ∀ (kV doc pm : Value) (an : Option Addr) (cdv ct : Value) (us : List Value), us.length = e.ps.length → bindArgs (PySem.W.fnOf e.x e.x (defArgs e.st) (defBody e.st) (defScope e.st) .none kV doc pm an cdv ct) ⟨us, []⟩ = pure (e.ps.zip us)
theorem FunK.at_ {K : Frag} {h : Heap} {mg : Str → Option Value} (X : K.In h) (G : h.Ns mainGlobals mg) {e : DefE} (F : FunK K e.x e.st) (b : BindOk e) : FunAt K mg e := by
  obtain ⟨f, oc, od, an, kV, doc, pm, cdv, ct, osl, a, l, c, k⟩ := F
  exact ⟨f, _, PySem.W.mg_of X G a, fun_mk l c k, (fun_mk l c k).binds b⟩
theorem cs_int {K : Frag} {h : Heap} {mg : Str → Option Value} (X : K.In h) (G : h.Ns mainGlobals mg) {x : Str} {i : Int} {t : _} (e : PySem.W.nsIn K mainGlobals x = some (some (.int i t))) : ∃ (u : Value) (v : V), mg x = some u ∧ RelV v u ∧ ∀ G', IsD K G' v (.int i) :=
  ⟨_, .int i, PySem.W.mg_of X G e, ⟨_, rfl⟩, fun _ => .int i⟩
theorem zk {K : Frag} {x : Str} (e : PySem.W.nsIn K mainGlobals x = some none) : PySem.W.nsIn K mainGlobals x = some none := e
def AllP {α : Type} (P : α → Prop) : List α → Prop
  | [] => True
  | a :: r => P a ∧ AllP P r
theorem AllP.of {α : Type} {P : α → Prop} : ∀ {l : List α}, AllP P l → ∀ a ∈ l, P a
  | _ :: _, ⟨h, _⟩, _, .head _ => h
  | _ :: _, ⟨_, t⟩, _, .tail _ m => AllP.of t _ m
def spLaw (K : Frag) : Sp := fun vs H Q _ => ∃ (a : Addr) (ns : List Int), vs = [.ref a] ∧ SqL K H a (ns.map V.int) ∧ ns.length ≤ 63 ∧ ∀ H', Q (.bl true) H'
theorem ints_ds {K : Frag} {G : Hp} : ∀ ns : List Int, IsDs K G (ns.map V.int) (ns.map Mini.Da.int)
  | [] => .nil
  | i :: r => .cons (.int i) (ints_ds r)
/-- the law's def, by what the mini law hands back -/
theorem law_at {P : Program} {w : World} {K : Frag} {mg : Str → Option Value} {h : Heap} {fa : Addr} {ds : List DefE} {cs : List (Str × Da)} {n f0 : Nat} {e0 : DefE} {x : Str} (X : K.In h) (G : h.Ns mainGlobals mg) (hm : mg e0.x = some (.ref fa))
    (F : AllP (fun e => FunK K e.x e.st) ds) (B : AllP BindOk ds) (Z : AllP (fun x => PySem.W.nsIn K mainGlobals x = some none) bltNames) (Cs : AllP (fun c : Str × Da => ∃ (u : Value) (v : V), mg c.1 = some u ∧ RelV v u ∧ ∀ G', IsD K G' v c.2) cs)
    (hc : ds.all (dChk (topOf ds cs)) = true) (he : ds[f0]? = some e0) (hps : e0.ps = [x]) (hlaw : ∀ ns : List Int, ns.length ≤ 63 → ∃ c, Mini.callF (progOf ds) n f0 [.fz (.lst (ns.map .int))] = some (.fz (.bl true), c)) :
    ∃ fd : FuncData, (∀ (s : Shared) (u : Value), BindsTo s fd ⟨[u], []⟩ [(x, u)]) ∧ ∀ base : Heap, K.In base → base.Ns mainGlobals mg → FnOk P w K mg base CX0 n fa fd [x] (spLaw K) := by
  have hF : ∀ e ∈ ds, FunAt K mg e := fun e he => (AllP.of F e he).at_ X G (AllP.of B e he)
  have FF : Facts K mg ds cs := ⟨hF, fun x hx => PySem.W.mg_none_of X G (AllP.of Z x hx), fun x d hx => AllP.of Cs (x, d) hx⟩
  have hmem : e0 ∈ ds := List.mem_of_getElem? he
  obtain ⟨f, oc, od, an, kV, doc, pm, cdv, ct, osl, a, l, c, k⟩ := AllP.of F e0 hmem
  have hm' := PySem.W.mg_of X G a
  rw [hm] at hm'
  cases hm'
  have B0 := AllP.of B e0 hmem
  have hb : Binds K _ e0.ps [] := (fun_mk l c k).binds B0
  refine ⟨PySem.W.fnOf e0.x e0.x (defArgs e0.st) (defBody e0.st) (defScope e0.st) .none kV doc pm an cdv ct, fun s u => ?_, fun base _ _ => ?_⟩
  · exact .of_eq (by
      have := B0 kV doc pm an cdv ct [u] (by rw [hps]; rfl)
      rw [hps] at this
      exact this)
  · have L := level (P := P) (w := w) (base := base) FF (fun e he => List.all_eq_true.mp hc e he) n f0 e0 fa _ he hm (fun_mk l c k) hb
    rw [hps] at L
    refine L.imp fun vs H Q E hs => ?_
    obtain ⟨a, ns, rfl, hS, hl, q⟩ := hs
    obtain ⟨c, hcall⟩ := hlaw ns hl
    refine ⟨rfl, H, _, _, _, Same.refl H, ⟨rfl, fun i d h => ?_, fun i m ys h => ?_, fun i j b hi hj => ?_⟩, hcall, fun v G' H' o r => ?_⟩
    · cases i with
      | zero =>
        simp at h
        subst h
        exact ⟨_, rfl, .lst hS (ints_ds ns)⟩
      | succ i => simp at h
    · cases i with
      | zero => simp at h
      | succ i => simp at h
    · obtain ⟨hi, m, ys, hi2⟩ := hi
      cases i with
      | zero => simp at hi2
      | succ i => simp at hi2
    · cases r
      exact q H'
end MS

set_option Elab.async false
set_option linter.all false
set_option maxRecDepth 100000
namespace K97
open PySem PySem.Spec PyProof.Rows L2 MS
def top (i : Nat) : Stmt := PySem.Challenge.pw_growback_k97_whole_readings_beside_runs.main.body.getD i (.Pass ⟨0, 0, 0, 0⟩)
def e_law_cells : DefE := ⟨"_law_cells", top 37, ["_law_script", "_law_peak_so", "_law_cells_here", "_law_k", "_law_great_so", "_law_at_so"], ["_law_script", "_law_peak_so"], d_law_cells⟩
def e_sizes_read : DefE := ⟨"sizes_read", top 21, ["reading", "rows", "place", "later"], ["reading"], d_sizes_read⟩
def e_is_number : DefE := ⟨"is_number", top 1, ["thing"], ["thing"], d_is_number⟩
def e_next_size : DefE := ⟨"next_size", top 12, ["rule", "size", "top", "bottom", "more"], ["rule", "size"], d_next_size⟩
def e_is_start : DefE := ⟨"is_start", top 13, ["rule", "thing"], ["rule", "thing"], d_is_start⟩
def e_check_start : DefE := ⟨"check_start", top 14, ["rule", "start"], ["rule", "start"], d_check_start⟩
def e_blocks_along : DefE := ⟨"blocks_along", top 17, ["rule", "start", "many", "found", "number", "place", "size", "later"], ["rule", "start", "many"], d_blocks_along⟩
def e_backs_read : DefE := ⟨"backs_read", top 24, ["rule", "start", "number", "place", "size"], ["rule", "start", "number"], d_backs_read⟩
def e_tupled : DefE := ⟨"tupled", top 2, ["thing", "part"], ["thing"], d_tupled⟩
def e_blocks_of : DefE := ⟨"blocks_of", top 29, ["rule", "start", "many", "found", "number", "place", "size", "later"], ["rule", "start", "many"], d_blocks_of⟩
def e_places : DefE := ⟨"places", top 30, ["rule", "start", "many", "place", "size"], ["rule", "start", "many"], d_places⟩
def e_backs : DefE := ⟨"backs", top 33, ["rule", "start", "many", "number", "place"], ["rule", "start", "many"], d_backs⟩
def e_starts_read : DefE := ⟨"starts_read", top 25, ["rule", "backs", "most", "own", "some", "start"], ["rule", "backs", "most"], d_starts_read⟩
def e_first_back : DefE := ⟨"first_back", top 31, ["rule", "start", "top", "bottom", "more", "spare", "size", "place", "found", "later"], ["rule", "start"], d_first_back⟩
def e_lap : DefE := ⟨"lap", top 32, ["rule", "start", "told"], ["rule", "start"], d_lap⟩
def e_sizes : DefE := ⟨"sizes", top 15, ["rule", "start", "many", "found", "number"], ["rule", "start", "many"], d_sizes⟩
def e_comes_back : DefE := ⟨"comes_back", top 7, ["rule", "top", "bottom", "more"], ["rule"], d_comes_back⟩
def e_steady_lap : DefE := ⟨"steady_lap", top 8, ["rule", "top", "bottom", "more", "found", "high", "low"], ["rule"], d_steady_lap⟩
def e_is_barred : DefE := ⟨"is_barred", top 26, ["rule", "backs", "lap", "more", "here", "back"], ["rule", "backs"], d_is_barred⟩
def e_law_steady_right : DefE := ⟨"_law_steady_right", top 43, ["_law_kin_here", "_law_when", "_law_most_so"], ["_law_kin_here", "_law_when"], d_law_steady_right⟩
def e_is_read_by : DefE := ⟨"is_read_by", top 20, ["rule", "reading", "own", "place", "size"], ["rule", "reading"], d_is_read_by⟩
def e_fraction : DefE := ⟨"fraction", top 4, ["top", "bottom", "common", "rest"], ["top", "bottom"], d_fraction⟩
def e_rules_fitting : DefE := ⟨"rules_fitting", top 22, ["reading", "most", "extra", "found", "top", "bottom", "more", "own"], ["reading", "most", "extra"], d_rules_fitting⟩
def e_growths_to_part : DefE := ⟨"growths_to_part", top 27, ["one", "other", "start", "near", "far", "place", "back"], ["one", "other", "start"], d_growths_to_part⟩
def e_set_of : DefE := ⟨"set_of", top 3, ["things"], ["things"], d_set_of⟩
def e_next_read : DefE := ⟨"next_read", top 23, ["reading", "most", "extra", "rules", "rule"], ["reading", "most", "extra"], d_next_read⟩
def e_law_fit_right : DefE := ⟨"_law_fit_right", top 44, ["_law_kin_here", "_law_line_so", "_law_spot", "_law_fit", "_law_own", "_law_part_so", "_law_near", "_law_far"], ["_law_kin_here", "_law_line_so", "_law_spot"], d_law_fit_right⟩
def e_law_case_right : DefE := ⟨"_law_case_right", top 42, ["_law_kin_here", "_law_first_here", "_law_far", "_law_line_so", "_law_much", "_law_told", "_law_odd", "_law_signs_so", "_law_home", "_law_some", "_law_when", "_law_k", "_law_own"], ["_law_kin_here", "_law_first_here", "_law_far"], d_law_case_right⟩
def e_law_by_hand_right : DefE := ⟨"_law_by_hand_right", top 45, ["_law_kin_here"], [], d_law_by_hand_right⟩
def e_law_box : DefE := ⟨"_law_box", top 35, ["_law_script", "_law_k", "_law_great_so"], ["_law_script", "_law_k"], d_law_box⟩
def e_law_take : DefE := ⟨"_law_take", top 36, ["_law_tin", "_law_top_so", "_law_digit_so", "_law_once", "_law_far", "_law_twice"], ["_law_tin", "_law_top_so"], d_law_take⟩
def e_law_kin : DefE := ⟨"_law_kin", top 38, ["_law_tin", "_law_peak_so", "_law_more", "_law_low_so", "_law_high_so", "_law_plus_so"], ["_law_tin", "_law_peak_so", "_law_more"], d_law_kin⟩
def e_law_next : DefE := ⟨"_law_next", top 39, ["_law_kin_here", "_law_much"], ["_law_kin_here", "_law_much"], d_law_next⟩
def e_law_least : DefE := ⟨"_law_least", top 40, ["_law_kin_here", "_law_much"], ["_law_kin_here"], d_law_least⟩
def e_law_first : DefE := ⟨"_law_first", top 41, ["_law_tin", "_law_kin_here", "_law_far"], ["_law_tin", "_law_kin_here", "_law_far"], d_law_first⟩
def e_law_right : DefE := ⟨"_law_right", top 46, ["_law_tin", "_law_turn", "_law_kin_here"], ["_law_tin"], d_law_right⟩
def e_law : DefE := ⟨"law", top 47, ["_law_script", "_law_cells_here", "_law_k", "_law_urn"], ["_law_script"], d_law⟩
def es : List DefE := [e_law_cells, e_sizes_read, e_is_number, e_next_size, e_is_start, e_check_start, e_blocks_along, e_backs_read, e_tupled, e_blocks_of, e_places, e_backs, e_starts_read, e_first_back, e_lap, e_sizes, e_comes_back, e_steady_lap, e_is_barred, e_law_steady_right, e_is_read_by, e_fraction, e_rules_fitting, e_growths_to_part, e_set_of, e_next_read, e_law_fit_right, e_law_case_right, e_law_by_hand_right, e_law_box, e_law_take, e_law_kin, e_law_next, e_law_least, e_law_first, e_law_right, e_law]
def cs : List (Str × Da) := [("LEAST_LAP", .int 2), ("MOST", .int 60)]
def bads : List Nat := (List.range es.length).filter fun i => match es[i]? with | some e => !dChk (topOf es cs) e | none => true
set_option maxHeartbeats 0 in
theorem chk : es.all (dChk (topOf es cs)) = true := by kernel_rfl
theorem b_law_cells : BindOk e_law_cells := fun _ _ _ _ _ _ us hl => match us, hl with | [_, _], _ => rfl
theorem b_sizes_read : BindOk e_sizes_read := fun _ _ _ _ _ _ us hl => match us, hl with | [_], _ => rfl
theorem b_is_number : BindOk e_is_number := fun _ _ _ _ _ _ us hl => match us, hl with | [_], _ => rfl
theorem b_next_size : BindOk e_next_size := fun _ _ _ _ _ _ us hl => match us, hl with | [_, _], _ => rfl
theorem b_is_start : BindOk e_is_start := fun _ _ _ _ _ _ us hl => match us, hl with | [_, _], _ => rfl
theorem b_check_start : BindOk e_check_start := fun _ _ _ _ _ _ us hl => match us, hl with | [_, _], _ => rfl
theorem b_blocks_along : BindOk e_blocks_along := fun _ _ _ _ _ _ us hl => match us, hl with | [_, _, _], _ => rfl
theorem b_backs_read : BindOk e_backs_read := fun _ _ _ _ _ _ us hl => match us, hl with | [_, _, _], _ => rfl
theorem b_tupled : BindOk e_tupled := fun _ _ _ _ _ _ us hl => match us, hl with | [_], _ => rfl
theorem b_blocks_of : BindOk e_blocks_of := fun _ _ _ _ _ _ us hl => match us, hl with | [_, _, _], _ => rfl
theorem b_places : BindOk e_places := fun _ _ _ _ _ _ us hl => match us, hl with | [_, _, _], _ => rfl
theorem b_backs : BindOk e_backs := fun _ _ _ _ _ _ us hl => match us, hl with | [_, _, _], _ => rfl
theorem b_starts_read : BindOk e_starts_read := fun _ _ _ _ _ _ us hl => match us, hl with | [_, _, _], _ => rfl
theorem b_first_back : BindOk e_first_back := fun _ _ _ _ _ _ us hl => match us, hl with | [_, _], _ => rfl
theorem b_lap : BindOk e_lap := fun _ _ _ _ _ _ us hl => match us, hl with | [_, _], _ => rfl
theorem b_sizes : BindOk e_sizes := fun _ _ _ _ _ _ us hl => match us, hl with | [_, _, _], _ => rfl
theorem b_comes_back : BindOk e_comes_back := fun _ _ _ _ _ _ us hl => match us, hl with | [_], _ => rfl
theorem b_steady_lap : BindOk e_steady_lap := fun _ _ _ _ _ _ us hl => match us, hl with | [_], _ => rfl
theorem b_is_barred : BindOk e_is_barred := fun _ _ _ _ _ _ us hl => match us, hl with | [_, _], _ => rfl
theorem b_law_steady_right : BindOk e_law_steady_right := fun _ _ _ _ _ _ us hl => match us, hl with | [_, _], _ => rfl
theorem b_is_read_by : BindOk e_is_read_by := fun _ _ _ _ _ _ us hl => match us, hl with | [_, _], _ => rfl
theorem b_fraction : BindOk e_fraction := fun _ _ _ _ _ _ us hl => match us, hl with | [_, _], _ => rfl
theorem b_rules_fitting : BindOk e_rules_fitting := fun _ _ _ _ _ _ us hl => match us, hl with | [_, _, _], _ => rfl
theorem b_growths_to_part : BindOk e_growths_to_part := fun _ _ _ _ _ _ us hl => match us, hl with | [_, _, _], _ => rfl
theorem b_set_of : BindOk e_set_of := fun _ _ _ _ _ _ us hl => match us, hl with | [_], _ => rfl
theorem b_next_read : BindOk e_next_read := fun _ _ _ _ _ _ us hl => match us, hl with | [_, _, _], _ => rfl
theorem b_law_fit_right : BindOk e_law_fit_right := fun _ _ _ _ _ _ us hl => match us, hl with | [_, _, _], _ => rfl
theorem b_law_case_right : BindOk e_law_case_right := fun _ _ _ _ _ _ us hl => match us, hl with | [_, _, _], _ => rfl
theorem b_law_by_hand_right : BindOk e_law_by_hand_right := fun _ _ _ _ _ _ us hl => match us, hl with | [], _ => rfl
theorem b_law_box : BindOk e_law_box := fun _ _ _ _ _ _ us hl => match us, hl with | [_, _], _ => rfl
theorem b_law_take : BindOk e_law_take := fun _ _ _ _ _ _ us hl => match us, hl with | [_, _], _ => rfl
theorem b_law_kin : BindOk e_law_kin := fun _ _ _ _ _ _ us hl => match us, hl with | [_, _, _], _ => rfl
theorem b_law_next : BindOk e_law_next := fun _ _ _ _ _ _ us hl => match us, hl with | [_, _], _ => rfl
theorem b_law_least : BindOk e_law_least := fun _ _ _ _ _ _ us hl => match us, hl with | [_], _ => rfl
theorem b_law_first : BindOk e_law_first := fun _ _ _ _ _ _ us hl => match us, hl with | [_, _, _], _ => rfl
theorem b_law_right : BindOk e_law_right := fun _ _ _ _ _ _ us hl => match us, hl with | [_], _ => rfl
theorem b_law : BindOk e_law := fun _ _ _ _ _ _ us hl => match us, hl with | [_], _ => rfl
theorem bindsOk : MS.AllP BindOk es := ⟨b_law_cells, b_sizes_read, b_is_number, b_next_size, b_is_start, b_check_start, b_blocks_along, b_backs_read, b_tupled, b_blocks_of, b_places, b_backs, b_starts_read, b_first_back, b_lap, b_sizes, b_comes_back, b_steady_lap, b_is_barred, b_law_steady_right, b_is_read_by, b_fraction, b_rules_fitting, b_growths_to_part, b_set_of, b_next_read, b_law_fit_right, b_law_case_right, b_law_by_hand_right, b_law_box, b_law_take, b_law_kin, b_law_next, b_law_least, b_law_first, b_law_right, b_law, trivial⟩
theorem prog_eq : progOf es = prog := by
  funext f
  unfold progOf prog
  rw [← List.getElem?_map]
  rfl
theorem law_plain2 (ns : List Int) (h : ns.length ≤ 63) : ∃ c, Mini.callF (progOf es) lvl 36 [.fz (.lst (ns.map .int))] = some (.fz (.bl true), c) := by
  rw [prog_eq]
  exact law_plain ns h
end K97
open PySem PySem.W PyProof.Rows
set_option maxHeartbeats 0 in
theorem PySem.Challenge.cw_growback_k97_whole_readings_beside_runs_holds : PySem.Challenge.rw_growback_k97_whole_readings_beside_runs.Holds := by
  w_on; o_law; k_head; (case hw => w_witness2)
  k_fill
  refine L2.walk_of (l := PySem.Challenge.rw_growback_k97_whole_readings_beside_runs) (n := 63) (k := K97.lvl) (x := "_law_script") (CX := fun _ => L2.CX0) (sp := fun w => MS.spLaw _) rfl (by decide) rfl ⟨rfl, by decide, by decide⟩ (fun w h Y => PySem.W.kIn_of Y) ?F (fun _ _ a ns hl _ hS => ⟨a, ns, rfl, hS, hl, fun _ => rfl⟩) (fun _ _ _ _ _ h => h)
  case F =>
    intro w mg fa h KX G hmg
    refine' MS.law_at (ds := K97.es) (cs := K97.cs) (f0 := 36) (e0 := K97.e_law) KX G hmg ⟨?f0, ?f1, ?f2, ?f3, ?f4, ?f5, ?f6, ?f7, ?f8, ?f9, ?f10, ?f11, ?f12, ?f13, ?f14, ?f15, ?f16, ?f17, ?f18, ?f19, ?f20, ?f21, ?f22, ?f23, ?f24, ?f25, ?f26, ?f27, ?f28, ?f29, ?f30, ?f31, ?f32, ?f33, ?f34, ?f35, ?f36, trivial⟩ K97.bindsOk ⟨?z0, ?z1, ?z2, ?z3, ?z4, ?z5, ?z6, ?z7, ?z8, ?z9, ?z10, ?z11, ?z12, ?z13, ?z14, ?z15, ?z16, ?z17, ?z18, trivial⟩ ⟨MS.cs_int KX G ?c0, MS.cs_int KX G ?c1, trivial⟩ K97.chk rfl rfl K97.law_plain2
    (case f0 => (refine' MS.funk ?a ?l ?c ?k; (case a => k_is); (case l => k_is); (case c => k_is); (case k => k_is)))
    (case f1 => (refine' MS.funk ?a ?l ?c ?k; (case a => k_is); (case l => k_is); (case c => k_is); (case k => k_is)))
    (case f2 => (refine' MS.funk ?a ?l ?c ?k; (case a => k_is); (case l => k_is); (case c => k_is); (case k => k_is)))
    (case f3 => (refine' MS.funk ?a ?l ?c ?k; (case a => k_is); (case l => k_is); (case c => k_is); (case k => k_is)))
    (case f4 => (refine' MS.funk ?a ?l ?c ?k; (case a => k_is); (case l => k_is); (case c => k_is); (case k => k_is)))
    (case f5 => (refine' MS.funk ?a ?l ?c ?k; (case a => k_is); (case l => k_is); (case c => k_is); (case k => k_is)))
    (case f6 => (refine' MS.funk ?a ?l ?c ?k; (case a => k_is); (case l => k_is); (case c => k_is); (case k => k_is)))
    (case f7 => (refine' MS.funk ?a ?l ?c ?k; (case a => k_is); (case l => k_is); (case c => k_is); (case k => k_is)))
    (case f8 => (refine' MS.funk ?a ?l ?c ?k; (case a => k_is); (case l => k_is); (case c => k_is); (case k => k_is)))
    (case f9 => (refine' MS.funk ?a ?l ?c ?k; (case a => k_is); (case l => k_is); (case c => k_is); (case k => k_is)))
    (case f10 => (refine' MS.funk ?a ?l ?c ?k; (case a => k_is); (case l => k_is); (case c => k_is); (case k => k_is)))
    (case f11 => (refine' MS.funk ?a ?l ?c ?k; (case a => k_is); (case l => k_is); (case c => k_is); (case k => k_is)))
    (case f12 => (refine' MS.funk ?a ?l ?c ?k; (case a => k_is); (case l => k_is); (case c => k_is); (case k => k_is)))
    (case f13 => (refine' MS.funk ?a ?l ?c ?k; (case a => k_is); (case l => k_is); (case c => k_is); (case k => k_is)))
    (case f14 => (refine' MS.funk ?a ?l ?c ?k; (case a => k_is); (case l => k_is); (case c => k_is); (case k => k_is)))
    (case f15 => (refine' MS.funk ?a ?l ?c ?k; (case a => k_is); (case l => k_is); (case c => k_is); (case k => k_is)))
    (case f16 => (refine' MS.funk ?a ?l ?c ?k; (case a => k_is); (case l => k_is); (case c => k_is); (case k => k_is)))
    (case f17 => (refine' MS.funk ?a ?l ?c ?k; (case a => k_is); (case l => k_is); (case c => k_is); (case k => k_is)))
    (case f18 => (refine' MS.funk ?a ?l ?c ?k; (case a => k_is); (case l => k_is); (case c => k_is); (case k => k_is)))
    (case f19 => (refine' MS.funk ?a ?l ?c ?k; (case a => k_is); (case l => k_is); (case c => k_is); (case k => k_is)))
    (case f20 => (refine' MS.funk ?a ?l ?c ?k; (case a => k_is); (case l => k_is); (case c => k_is); (case k => k_is)))
    (case f21 => (refine' MS.funk ?a ?l ?c ?k; (case a => k_is); (case l => k_is); (case c => k_is); (case k => k_is)))
    (case f22 => (refine' MS.funk ?a ?l ?c ?k; (case a => k_is); (case l => k_is); (case c => k_is); (case k => k_is)))
    (case f23 => (refine' MS.funk ?a ?l ?c ?k; (case a => k_is); (case l => k_is); (case c => k_is); (case k => k_is)))
    (case f24 => (refine' MS.funk ?a ?l ?c ?k; (case a => k_is); (case l => k_is); (case c => k_is); (case k => k_is)))
    (case f25 => (refine' MS.funk ?a ?l ?c ?k; (case a => k_is); (case l => k_is); (case c => k_is); (case k => k_is)))
    (case f26 => (refine' MS.funk ?a ?l ?c ?k; (case a => k_is); (case l => k_is); (case c => k_is); (case k => k_is)))
    (case f27 => (refine' MS.funk ?a ?l ?c ?k; (case a => k_is); (case l => k_is); (case c => k_is); (case k => k_is)))
    (case f28 => (refine' MS.funk ?a ?l ?c ?k; (case a => k_is); (case l => k_is); (case c => k_is); (case k => k_is)))
    (case f29 => (refine' MS.funk ?a ?l ?c ?k; (case a => k_is); (case l => k_is); (case c => k_is); (case k => k_is)))
    (case f30 => (refine' MS.funk ?a ?l ?c ?k; (case a => k_is); (case l => k_is); (case c => k_is); (case k => k_is)))
    (case f31 => (refine' MS.funk ?a ?l ?c ?k; (case a => k_is); (case l => k_is); (case c => k_is); (case k => k_is)))
    (case f32 => (refine' MS.funk ?a ?l ?c ?k; (case a => k_is); (case l => k_is); (case c => k_is); (case k => k_is)))
    (case f33 => (refine' MS.funk ?a ?l ?c ?k; (case a => k_is); (case l => k_is); (case c => k_is); (case k => k_is)))
    (case f34 => (refine' MS.funk ?a ?l ?c ?k; (case a => k_is); (case l => k_is); (case c => k_is); (case k => k_is)))
    (case f35 => (refine' MS.funk ?a ?l ?c ?k; (case a => k_is); (case l => k_is); (case c => k_is); (case k => k_is)))
    (case f36 => (refine' MS.funk ?a ?l ?c ?k; (case a => k_is); (case l => k_is); (case c => k_is); (case k => k_is)))
    (case z0 => (refine' MS.zk ?a; (case a => k_is)))
    (case z1 => (refine' MS.zk ?a; (case a => k_is)))
    (case z2 => (refine' MS.zk ?a; (case a => k_is)))
    (case z3 => (refine' MS.zk ?a; (case a => k_is)))
    (case z4 => (refine' MS.zk ?a; (case a => k_is)))
    (case z5 => (refine' MS.zk ?a; (case a => k_is)))
    (case z6 => (refine' MS.zk ?a; (case a => k_is)))
    (case z7 => (refine' MS.zk ?a; (case a => k_is)))
    (case z8 => (refine' MS.zk ?a; (case a => k_is)))
    (case z9 => (refine' MS.zk ?a; (case a => k_is)))
    (case z10 => (refine' MS.zk ?a; (case a => k_is)))
    (case z11 => (refine' MS.zk ?a; (case a => k_is)))
    (case z12 => (refine' MS.zk ?a; (case a => k_is)))
    (case z13 => (refine' MS.zk ?a; (case a => k_is)))
    (case z14 => (refine' MS.zk ?a; (case a => k_is)))
    (case z15 => (refine' MS.zk ?a; (case a => k_is)))
    (case z16 => (refine' MS.zk ?a; (case a => k_is)))
    (case z17 => (refine' MS.zk ?a; (case a => k_is)))
    (case z18 => (refine' MS.zk ?a; (case a => k_is)))
    (case c0 => k_is)
    (case c1 => k_is)

