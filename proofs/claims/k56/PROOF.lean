import PyProof.Rows.All
import Wide.All
import OpenK.AllK
import Wide.FinOn
import PySem.Challenge.RW_enoughvoices_k56_whole_seats_by_steps
import HandS.ForMost
import HandS.Wide
import HandS.WideBits
import HandS.IsInst
import HandS.TupAny
import HandS.Zip
import HandS.SortInts
import HandS.Conv
import HandS.Lambda
import HandS.Deep
import KE.SortKeyHeap
import KE.SortData
import HandS.Nested
import KE.GoesEnum
import KE.GoesMore
import KE.KDictZip
import HandS.RevTup
import HandS.TupLe
import HandS.Style
import KE.GoesZip
import HandS.SetFor
import HandS.Strs
import HandS.Dict
import HandS.Words
import HandS.Ends
import HandS.EndBits
import KE.IntBitsLaws
import PyProof.Rows.StrIntSpec
import PyProof.ReprLen
set_option Elab.async false
section
set_option autoImplicit false
/-! Plain data, a small typed tongue over it, and what it computes. -/
namespace DL
open PySem

/-- plain data -/
inductive D where
  | non | bl (b : Bool) | int (i : Int) | str (s : Str) | tup (xs : List D) | lst (xs : List D) | dct (kvs : List (L2.Key × D)) | scr (xs : List D)
  deriving Inhabited
/-- what a name may hold: plain data, or the n-th open list of the store -/
inductive E where
  | d (x : D) | r (n : Nat)
  deriving Inhabited
abbrev Env := List (Option E)
abbrev Store := List (Option (List D))
abbrev Rs (α : Type) := Option (α × Store)

mutual
def D.py : D → PyData
  | .non => .none
  | .bl b => .bool b
  | .int i => .int i
  | .str s => .str s
  | .tup xs => .tuple (D.pys xs)
  | .lst xs => .list (D.pys xs)
  | .dct _ => .none
  | .scr _ => .none
def D.pys : List D → List PyData
  | [] => []
  | x :: xs => D.py x :: D.pys xs
end
mutual
/-- no dict in it -/
def D.flat : D → Bool
  | .tup xs => D.flats xs
  | .lst xs => D.flats xs
  | .dct _ => false
  | .scr _ => false
  | _ => true
def D.flats : List D → Bool
  | [] => true
  | x :: xs => D.flat x && D.flats xs
end

def intsOf : List D → Option (List Int)
  | [] => some []
  | .int i :: r => (intsOf r).map (i :: ·)
  | _ => none
def boolsOf : List D → Option (List Bool)
  | [] => some []
  | .bl i :: r => (boolsOf r).map (i :: ·)
  | _ => none
def strsOf : List D → Option (List Str)
  | [] => some []
  | .str i :: r => (strsOf r).map (i :: ·)
  | _ => none

/-! ### operators by values -/
inductive O2 where
  | add | sub | mul | fdiv | mod | pow | shl | shr | band | catT | catL | catS | repL | eq | ne | lt | le | gt | ge | isIn | notIn | isInD | notInD
  deriving DecidableEq
def mulOk (i j : Int) : Bool := decide ((Builtin.Int.intBits i : Int) + (Builtin.Int.intBits j : Int) ≤ 134217728)
def divOk (j : Int) : Bool := decide (0 < j) && decide (j.natAbs.log2 < 9000)
def powOk (i j : Int) : Bool := decide (0 ≤ j) && decide ((Builtin.Int.intBits i : Int) * j ≤ 134217728)
def shlOk (i j : Int) : Bool := decide (0 ≤ j) && decide (j ≤ 1000000) && decide (i.natAbs < 2 ^ 64)
def fits (n : Nat) : Bool := decide (n ≤ 10000000)
/-- may be compared -/
def eqOk (x : D) : Bool := x.flat && SeqAt.shaped x.py
def eqD (x y : D) : Bool := PyData.eqv x.py y.py
def isLeaf : D → Bool
  | .non => true
  | .bl _ => true
  | .int _ => true
  | .str _ => true
  | _ => false
def eqLeaf : D → D → Bool
  | .non, .non => true
  | .bl a, .bl b => a == b
  | .int a, .int b => decide (a = b)
  | .str a, .str b => decide (a = b)
  | .bl a, .int b => decide (b = if a then 1 else 0)
  | .int b, .bl a => decide (b = if a then 1 else 0)
  | _, _ => false
def memOk (x : D) (xs : List D) : Bool := isLeaf x && xs.all isLeaf
def memD (x : D) (xs : List D) : Bool := xs.any fun y => eqLeaf y x
def i2 (f : Int → Int → Option D) : D → D → Option D
  | .int i, .int j => f i j
  | _, _ => none
def t2 : D → D → Option D
  | .tup xs, .tup ys => if fits (xs.length + ys.length) = true then some (.tup (xs ++ ys)) else none
  | _, _ => none
def l2 : D → D → Option D
  | .lst xs, .lst ys => if fits (xs.length + ys.length) = true then some (.lst (xs ++ ys)) else none
  | _, _ => none
def s2 : D → D → Option D
  | .str x, .str y => if fits (x.length + y.length) = true then some (.str (x ++ y)) else none
  | _, _ => none
def r2 : D → D → Option D
  | .lst xs, .int k => if (fits (xs.length * k.toNat) && decide (k.natAbs < 2 ^ 62)) = true then some (.lst (List.replicate k.toNat xs).flatten) else none
  | _, _ => none
def items : D → Option (List D)
  | .lst xs => some xs
  | .tup xs => some xs
  | _ => none
def inD (b : Bool) (x : D) : D → Option D
  | .lst ys => if (eqOk x && eqOk (.lst ys)) = true then some (.bl (b != (ys.any fun z => eqD z x))) else none
  | _ => none
def o2 (o : O2) (x y : D) : Option D := match o with
  | .add => i2 (fun i j => some (.int (i + j))) x y
  | .sub => i2 (fun i j => some (.int (i - j))) x y
  | .mul => i2 (fun i j => if mulOk i j = true then some (.int (i * j)) else none) x y
  | .fdiv => i2 (fun i j => if divOk j = true then some (.int (i / j)) else none) x y
  | .mod => i2 (fun i j => if decide (0 < j) = true then some (.int (i % j)) else none) x y
  | .pow => i2 (fun i j => if powOk i j = true then some (.int (i ^ j.toNat)) else none) x y
  | .shl => i2 (fun i j => if shlOk i j = true then some (.int (i * 2 ^ j.toNat)) else none) x y
  | .shr => i2 (fun i j => if decide (0 ≤ j) = true then some (.int (i / 2 ^ j.toNat)) else none) x y
  | .band => i2 (fun i j => some (.int (Builtin.bitAnd i j))) x y
  | .catT => t2 x y
  | .catL => l2 x y
  | .catS => s2 x y
  | .repL => r2 x y
  | .eq => if (eqOk x && eqOk y) = true then some (.bl (eqD x y)) else none
  | .ne => if (eqOk x && eqOk y) = true then some (.bl (!eqD x y)) else none
  | .lt => i2 (fun i j => some (.bl (decide (i < j)))) x y
  | .le => i2 (fun i j => some (.bl (decide (i ≤ j)))) x y
  | .gt => i2 (fun i j => some (.bl (decide (j < i)))) x y
  | .ge => i2 (fun i j => some (.bl (decide (j ≤ i)))) x y
  | .isIn => (items y).bind fun ys => if memOk x ys = true then some (.bl (memD x ys)) else none
  | .notIn => (items y).bind fun ys => if memOk x ys = true then some (.bl (!memD x ys)) else none
  | .isInD => inD false x y
  | .notInD => inD true x y

/-! ### built-ins of one argument -/
inductive O1 where
  | neg | len | sum | all | any | abs | int | str | repr | tupleL | tupleT | listL | listT | sortedI | minL | maxL | lenSetI | sortedSetI | sumT | sortedP
  deriving DecidableEq
def leastOf (xs : List Int) : Option Int := xs.min?
def mostOf (xs : List Int) : Option Int := xs.max?
/-- may be shown -/
def showOk (x : D) : Bool := x.flat && x.py.showable && decide (x.py.depth ≤ 60) && fits x.py.shown.length
def sortI (xs : List Int) : List Int := xs.mergeSort
def asI : D → Option Int
  | .int i => some i
  | _ => none
def asL : D → Option (List D)
  | .lst xs => some xs
  | _ => none
def asT : D → Option (List D)
  | .tup xs => some xs
  | _ => none
def lenD : D → Option Int
  | .lst xs => some xs.length
  | .tup xs => some xs.length
  | .scr xs => some xs.length
  | .str s => if fits s.length = true then some s.length else none
  | _ => none
def intD : D → Option Int
  | .int i => some i
  | .bl b => some (if b then 1 else 0)
  | _ => none
def prOf : D → Option (Int × Int)
  | .tup [.int i, .int j] => some (i, j)
  | _ => none
def prsOf : List D → Option (List (Int × Int))
  | [] => some []
  | x :: r => (prOf x).bind fun p => (prsOf r).map (p :: ·)
def prDt (p : Int × Int) : D := .tup [.int p.1, .int p.2]
def leP (p q : Int × Int) : Bool := decide (p.1 < q.1 ∨ (p.1 = q.1 ∧ p.2 ≤ q.2))
def sortPr (ps : List (Int × Int)) : List (Int × Int) := ps.mergeSort leP
def o1 (o : O1) (x : D) : Option D := match o with
  | .neg => (asI x).bind fun i => some (.int (-i))
  | .len => (lenD x).bind fun i => some (.int i)
  | .sum => (asL x).bind fun xs => (intsOf xs).bind fun ns => some (.int ns.sum)
  | .sumT => (asT x).bind fun xs => (intsOf xs).bind fun ns => some (.int ns.sum)
  | .all => (asL x).bind fun xs => (boolsOf xs).bind fun bs => some (.bl (bs.all id))
  | .any => (asL x).bind fun xs => (boolsOf xs).bind fun bs => some (.bl (bs.any id))
  | .abs => (asI x).bind fun i => some (.int (if i < 0 then -i else i))
  | .int => (intD x).bind fun i => some (.int i)
  | .str => (asI x).bind fun i => if decide (i.natAbs.log2 < 1920) = true then some (.str (toString i)) else none
  | .repr => if showOk x = true then some (.str x.py.shown) else none
  | .tupleL => (asL x).bind fun xs => some (.tup xs)
  | .tupleT => (asT x).bind fun xs => some (.tup xs)
  | .listL => (asL x).bind fun xs => some (.lst xs)
  | .listT => (asT x).bind fun xs => some (.lst xs)
  | .sortedI => (asL x).bind fun xs => (intsOf xs).bind fun ns => some (.lst ((sortI ns).map .int))
  | .minL => (asL x).bind fun xs => (intsOf xs).bind fun ns => (leastOf ns).bind fun m => some (.int m)
  | .maxL => (asL x).bind fun xs => (intsOf xs).bind fun ns => (mostOf ns).bind fun m => some (.int m)
  | .sortedP => (asL x).bind fun xs => (prsOf xs).bind fun ps => if decide (ps.length < 1000000) = true then some (.lst ((sortPr ps).map prDt)) else none
  | _ => none

/-! ### the tongue -/
inductive Ty where
  | int | bool | str | tuple | list | dict
  deriving DecidableEq
def isa : Ty → D → Bool
  | .int, .int _ => true
  | .int, .bl _ => true
  | .bool, .bl _ => true
  | .str, .str _ => true
  | .tuple, .tup _ => true
  | .list, .lst _ => true
  | .list, .scr _ => true
  | .dict, .dct _ => true
  | _, _ => false
/-- what is walked -/
inductive IK where
  | lst | tup | rng1 | rng2 | enumL | zipLL | enumT | zipTT | zipTL | enZ
  deriving DecidableEq
inductive Tg where
  | nm (i : Nat)
  | tp (ts : List Tg)
inductive Tm where
  | var (i : Nat)
  | cst (x : D)
  | glob (x : Str) (v : D)
  | o2 (o : O2) (a b : Tm)
  | chain (o p : O2) (a b c : Tm)
  | and (a b : Tm)
  | or (a b : Tm)
  | not (a : Tm)
  | ite (c a b : Tm)
  | o1 (o : O1) (a : Tm)
  | max2 (a b : Tm)
  | min2 (a b : Tm)
  | isa (t : Ty) (a : Tm)
  | isN (a : Tm)
  | notN (a : Tm)
  | isB (b : Bool) (a : Tm)
  | notB (b : Bool) (a : Tm)
  | call (f : Nat) (as : List Tm)
  | callK (f : Nat) (as : List Tm)
  | tup (as : List Tm)
  | lst (as : List Tm)
  | idxL (a b : Tm)
  | idxT (a b : Tm)
  | slL (a : Tm) (lo hi : Option Tm)
  | slT (a : Tm) (lo hi : Option Tm)
  | lc (elt : Tm) (tg : Tg) (k : IK) (its : List Tm) (ifs : List Tm) (own : List Nat)
  | app (a b : Tm)
  | ext (a b : Tm)
  | popAt (a b : Tm)
  | new (a : Tm)
  | lstRg1 (a : Tm)
  | lstRg2 (a b : Tm)
  | tupZip (a b : Tm)
  | sortSetT (a : Tm)
  | dictL (a : Tm)
  | idxD (a b : Tm)
  /-- sorted(range(a), key=lambda at: (0 - v[at][1], at)) -/
  | srt (a : Tm) (v : Nat)
  | revT (a : Tm)
  | lenT (a : Tm)
  | lenL (a : Tm)
  | dnew
  | dsp (ks : List Str) (as : List Tm)
  /-- never come to -/
  | dead
inductive Stm where
  | asg (t : Tg) (e : Tm)
  | par (i j : Nat) (a b : Tm)
  | par3 (i j l : Nat) (a b c : Tm)
  | setI (o i e : Tm)
  /-- x = [[..] .. for ..], x[0][0] = v: two statements of the text -/
  | grid (i : Nat) (a : Tm) (v : D)
  | expr (e : Tm)
  | ife (c : Tm) (a b : List Stm)
  | for_ (t : Tg) (k : IK) (its : List Tm) (body : List Stm)
  | while_ (c : Tm) (body : List Stm)
  | ret (e : Tm)
  | pass
  | raise
  /-- no statement of the text: the open list that a name holds is closed -/
  | frz (i : Nat)

/-! ### what it computes -/
def deref (S : Store) : E → Option D
  | .d x => some x
  | .r n => match S[n]? with
    | some (some xs) => some (.lst xs)
    | _ => none
def asD : E → Option D
  | .d x => some x
  | .r _ => none
def asDs : List E → Option (List D)
  | [] => some []
  | .d x :: r => (asDs r).map (x :: ·)
  | _ => none
/-- a place of so many, as Python counts -/
def place (n : Nat) (i : Int) : Option Nat := if 0 ≤ i then (if i < n then some i.toNat else none) else if -(n : Int) ≤ i then some (i + n).toNat else none
def atD (xs : List D) (i : Int) : Option D := (place xs.length i).bind fun j => xs[j]?
def cutD (xs : List D) (lo hi : Option Int) : List D := (xs.drop (HT.sIx xs.length 0 lo)).take (HT.sIx xs.length xs.length hi - HT.sIx xs.length 0 lo)
def wipe (ρ : Env) : List Nat → Env
  | [] => ρ
  | v :: vs => (wipe ρ vs).set v none
def small62 (i : Int) : Bool := decide (-(2 ^ 62) ≤ i) && decide (i < 2 ^ 62)
def enumD (i : Nat) : List D → List D
  | [] => []
  | x :: r => .tup [.int i, x] :: enumD (i + 1) r
def zipD : List D → List D → List D
  | x :: r, y :: s => .tup [x, y] :: zipD r s
  | _, _ => []
/-- the ints of a range -/
def rangeD (a b : Int) : List D := (List.range (b - a).toNat).map fun (i : Nat) => .int (a + (i : Int))
def rgOk (a b : Int) : Bool := small62 a && small62 b && fits (b - a).toNat
/-- a number put among numbers that rise -/
def insS (n : Int) : List Int → List Int
  | [] => [n]
  | m :: r => if n < m then n :: m :: r else if n = m then m :: r else m :: insS n r
def sortSet : List Int → List Int
  | [] => []
  | n :: r => insS n (sortSet r)
def keyOf : D → Option L2.Key
  | .int i => some (.inl i)
  | .str x => some (.inr x)
  | _ => none
def pairOf : D → Option (L2.Key × D)
  | .tup [k, v] => (keyOf k).map fun k => (k, v)
  | _ => none
def pairsOf : List D → Option (List (L2.Key × D))
  | [] => some []
  | x :: r => (pairOf x).bind fun p => (pairsOf r).map (p :: ·)
def putD (kvs : List (L2.Key × D)) (k : L2.Key) (v : D) : List (L2.Key × D) :=
  if (kvs.any fun kv => decide (kv.1 = k)) = true then kvs.map (fun kv => if kv.1 = k then (kv.1, v) else kv) else kvs ++ [(k, v)]
def mergeD (kvs more : List (L2.Key × D)) : List (L2.Key × D) := more.foldl (fun acc kv => putD acc kv.1 kv.2) kvs
def valD (kvs : List (L2.Key × D)) (k : L2.Key) : Option D := (kvs.find? fun kv => decide (kv.1 = k)).map (·.2)
/-- what is walked, turn by turn -/
def walked (S : Store) : IK → List E → Option (List D)
  | .lst, [.d (.lst xs)] => some xs
  | .tup, [.d (.tup xs)] => some xs
  | .rng1, [.d (.int n)] => if small62 n = true then some ((List.range n.toNat).map fun (i : Nat) => .int (0 + (i : Int))) else none
  | .rng2, [.d (.int a), .d (.int b)] => if (small62 a && small62 b) = true then some ((List.range (b - a).toNat).map fun (i : Nat) => .int (a + (i : Int))) else none
  | .enumL, [.d (.lst xs)] => some (enumD 0 xs)
  | .zipLL, [.d (.lst xs), .d (.lst ys)] => some (zipD xs ys)
  | .enumT, [.d (.tup xs)] => some (enumD 0 xs)
  | .zipTT, [.d (.tup xs), .d (.tup ys)] => some (zipD xs ys)
  | .zipTL, [.d (.tup xs), .d (.lst ys)] => if decide (xs.length = ys.length) = true then some (zipD xs ys) else none
  | .enZ, [.d (.tup xs), .d (.tup ys)] => if decide (xs.length ≤ ys.length) = true then some (enumD 0 (zipD xs ys)) else none
  | _, _ => none
mutual
def bindT : Tg → D → Env → Option Env
  | .nm i, x, ρ => if i < ρ.length then some (ρ.set i (some (.d x))) else none
  | .tp ts, .tup xs, ρ => bindTs ts xs ρ
  | _, _, _ => none
def bindTs : List Tg → List D → Env → Option Env
  | [], [], ρ => some ρ
  | t :: ts, x :: xs, ρ => (bindT t x ρ).bind fun ρ1 => bindTs ts xs ρ1
  | _, _, _ => none
end

abbrev Ev := Tm → Env → Store → Rs E
abbrev Call := Nat → List E → Store → Rs E
def evs (g : Ev) : List Tm → Env → Store → Rs (List E)
  | [], _, S => some ([], S)
  | t :: ts, ρ, S => (g t ρ S).bind fun p => (evs g ts ρ p.2).bind fun q => some (p.1 :: q.1, q.2)
def evO (g : Ev) : Option Tm → Env → Store → Rs (Option Int)
  | none, _, S => some (none, S)
  | some t, ρ, S => (g t ρ S).bind fun p => (asD p.1).bind fun x => (asI x).bind fun i => some (some i, p.2)
/-- the tests of a comprehension -/
def evT (g : Ev) : List Tm → Env → Store → Rs Bool
  | [], _, S => some (true, S)
  | t :: ts, ρ, S => (g t ρ S).bind fun p => match p.1 with
    | .d (.bl b) => if b = true then evT g ts ρ p.2 else some (false, p.2)
    | _ => none
/-- a comprehension's turns; the names outside are as they were -/
def turns (g : Ev) (elt : Tm) (tg : Tg) (ifs : List Tm) (own : List Nat) (ρ : Env) : List D → List D → Store → Rs (List D)
  | [], acc, S => some (acc, S)
  | x :: xs, acc, S => (bindT tg x (wipe ρ own)).bind fun ρ1 => (evT g ifs ρ1 S).bind fun b =>
      if b.1 = true then (g elt ρ1 b.2).bind fun p => (asD p.1).bind fun y => if acc.length < 10000000 then turns g elt tg ifs own ρ xs (acc ++ [y]) p.2 else none
      else turns g elt tg ifs own ρ xs acc b.2
/-- the places below n, by what is given for each, the greatest first -/
def orderOf (n : Nat) (rests : Nat → Int) : List Nat := (List.range n).mergeSort fun p q => decide (0 - rests p < 0 - rests q ∨ (0 - rests p = 0 - rests q ∧ (p : Int) ≤ (q : Int)))
def restAt (xs : List D) (i : Nat) : Int := match xs[i]? with
  | some (.tup [_, .int r]) => r
  | _ => 0
def isRest : D → Bool
  | .tup [_, .int _] => true
  | _ => false
def isNonE : E → Bool
  | .d .non => true
  | _ => false
def isTrueD : E → Option Bool
  | .d (.bl b) => some b
  | _ => none
def ev (C : Call) : Nat → Ev
  | 0, _, _, _ => none
  | n + 1, t, ρ, S => match t with
    | .var i => match ρ[i]? with
      | some (some x) => some (x, S)
      | _ => none
    | .cst x => some (.d x, S)
    | .glob _ v => some (.d v, S)
    | .o2 o a b => (ev C n a ρ S).bind fun p => (ev C n b ρ p.2).bind fun q => (deref q.2 p.1).bind fun x => (deref q.2 q.1).bind fun y => (DL.o2 o x y).bind fun z => some (.d z, q.2)
    | .chain o o' a b c => (ev C n a ρ S).bind fun p => (ev C n b ρ p.2).bind fun q => (deref q.2 p.1).bind fun x => (deref q.2 q.1).bind fun y => (DL.o2 o x y).bind fun z => match z with
      | .bl true => (ev C n c ρ q.2).bind fun r => (deref r.2 q.1).bind fun y' => (deref r.2 r.1).bind fun w => (DL.o2 o' y' w).bind fun u => some (.d u, r.2)
      | .bl false => some (.d (.bl false), q.2)
      | _ => none
    | .and a b => (ev C n a ρ S).bind fun p => (isTrueD p.1).bind fun c => if c = true then ev C n b ρ p.2 else some (.d (.bl false), p.2)
    | .or a b => (ev C n a ρ S).bind fun p => (isTrueD p.1).bind fun c => if c = true then some (.d (.bl true), p.2) else ev C n b ρ p.2
    | .not a => (ev C n a ρ S).bind fun p => (isTrueD p.1).bind fun c => some (.d (.bl (!c)), p.2)
    | .ite c a b => (ev C n c ρ S).bind fun p => (isTrueD p.1).bind fun k => if k = true then ev C n a ρ p.2 else ev C n b ρ p.2
    | .o1 o a => (ev C n a ρ S).bind fun p => (deref p.2 p.1).bind fun x => (DL.o1 o x).bind fun z => some (.d z, p.2)
    | .max2 a b => (ev C n a ρ S).bind fun p => (ev C n b ρ p.2).bind fun q => (asD p.1).bind fun x => (asD q.1).bind fun y => (asI x).bind fun i => (asI y).bind fun j => some (.d (.int (if j > i then j else i)), q.2)
    | .min2 a b => (ev C n a ρ S).bind fun p => (ev C n b ρ p.2).bind fun q => (asD p.1).bind fun x => (asD q.1).bind fun y => (asI x).bind fun i => (asI y).bind fun j => some (.d (.int (if j < i then j else i)), q.2)
    | .isa k a => (ev C n a ρ S).bind fun p => (asD p.1).bind fun x => some (.d (.bl (DL.isa k x)), p.2)
    | .isN a => (ev C n a ρ S).bind fun p => some (.d (.bl (isNonE p.1)), p.2)
    | .notN a => (ev C n a ρ S).bind fun p => some (.d (.bl (!isNonE p.1)), p.2)
    | .isB b a => (ev C n a ρ S).bind fun p => (isTrueD p.1).bind fun c => some (.d (.bl (decide (c = b))), p.2)
    | .notB b a => (ev C n a ρ S).bind fun p => (isTrueD p.1).bind fun c => some (.d (.bl (!decide (c = b))), p.2)
    | .call f as => (evs (ev C n) as ρ S).bind fun p => C f p.1 p.2
    | .callK f as => (evs (ev C n) as ρ S).bind fun p => C f p.1 p.2
    | .tup as => (evs (ev C n) as ρ S).bind fun p => (asDs p.1).bind fun xs => if fits xs.length = true then some (.d (.tup xs), p.2) else none
    | .lst as => (evs (ev C n) as ρ S).bind fun p => (asDs p.1).bind fun xs => if fits xs.length = true then some (.d (.lst xs), p.2) else none
    | .idxL a b => (ev C n a ρ S).bind fun p => (ev C n b ρ p.2).bind fun q => (deref q.2 p.1).bind fun x => (asD q.1).bind fun y => (asI y).bind fun i => match x with
      | .lst xs => (atD xs i).bind fun z => some (.d z, q.2)
      | .scr xs => (atD xs i).bind fun z => some (.d z, q.2)
      | _ => none
    | .idxT a b => (ev C n a ρ S).bind fun p => (ev C n b ρ p.2).bind fun q => (asD p.1).bind fun x => (asD q.1).bind fun y => (asI y).bind fun i => match x with
      | .tup xs => (atD xs i).bind fun z => some (.d z, q.2)
      | _ => none
    | .slL a lo hi => (ev C n a ρ S).bind fun p => (evO (ev C n) lo ρ p.2).bind fun l => (evO (ev C n) hi ρ l.2).bind fun h => (deref h.2 p.1).bind fun x => match x with
      | .lst xs => some (.d (.lst (cutD xs l.1 h.1)), h.2)
      | .scr xs => some (.d (.lst (cutD xs l.1 h.1)), h.2)
      | _ => none
    | .slT a lo hi => (ev C n a ρ S).bind fun p => (evO (ev C n) lo ρ p.2).bind fun l => (evO (ev C n) hi ρ l.2).bind fun h => (asD p.1).bind fun x => match x with
      | .tup xs => some (.d (.tup (cutD xs l.1 h.1)), h.2)
      | _ => none
    | .lc elt tg k its ifs own => (evs (ev C n) its ρ S).bind fun p => (walked p.2 k p.1).bind fun xs => (turns (ev C n) elt tg ifs own ρ xs [] p.2).bind fun q => some (.d (.lst q.1), q.2)
    | .app a b => (ev C n a ρ S).bind fun p => (deref p.2 p.1).bind fun _ => (ev C n b ρ p.2).bind fun q => (asD q.1).bind fun y => match p.1 with
      | .r m => match q.2[m]? with
        | some (some xs) => if xs.length < 10000000 then some (.d .non, q.2.set m (some (xs ++ [y]))) else none
        | _ => none
      | _ => none
    | .ext a b => (ev C n a ρ S).bind fun p => (deref p.2 p.1).bind fun _ => (ev C n b ρ p.2).bind fun q => (asD q.1).bind fun y => match p.1, y with
      | .r m, .lst ys => match q.2[m]? with
        | some (some xs) => if fits (xs.length + ys.length) = true then some (.d .non, q.2.set m (some (xs ++ ys))) else none
        | _ => none
      | _, _ => none
    | .popAt a b => (ev C n a ρ S).bind fun p => (deref p.2 p.1).bind fun _ => (ev C n b ρ p.2).bind fun q => (asD q.1).bind fun y => (asI y).bind fun i => match p.1 with
      | .r m => match q.2[m]? with
        | some (some xs) => if 0 ≤ i ∧ i < (xs.length : Int) ∧ i < 10000000 then (xs[i.toNat]?).bind fun z => some (.d z, q.2.set m (some (xs.eraseIdx i.toNat))) else none
        | _ => none
      | _ => none
    | .new a => (ev C n a ρ S).bind fun p => match p.1 with
      | .d (.lst xs) => some (.r p.2.length, p.2 ++ [some xs])
      | _ => none

    | .lstRg1 a => (ev C n a ρ S).bind fun p => (asD p.1).bind fun x => (asI x).bind fun j => if rgOk 0 j = true then some (.d (.lst (rangeD 0 j)), p.2) else none
    | .lstRg2 a b => (ev C n a ρ S).bind fun p => (ev C n b ρ p.2).bind fun q => (asD p.1).bind fun x => (asD q.1).bind fun y => (asI x).bind fun i => (asI y).bind fun j => if rgOk i j = true then some (.d (.lst (rangeD i j)), q.2) else none
    | .tupZip a b => (ev C n a ρ S).bind fun p => (ev C n b ρ p.2).bind fun q => (asD p.1).bind fun x => (asD q.1).bind fun y => (asT x).bind fun xs => (asT y).bind fun ys => if decide (xs.length ≤ ys.length) = true then some (.d (.tup (zipD xs ys)), q.2) else none
    | .sortSetT a => (ev C n a ρ S).bind fun p => (asD p.1).bind fun x => (asT x).bind fun xs => (intsOf xs).bind fun ns => if decide (ns.length < 63) = true then some (.d (.lst ((sortSet ns).map .int)), p.2) else none
    | .dictL a => (ev C n a ρ S).bind fun p => (asD p.1).bind fun x => (asL x).bind fun xs => (pairsOf xs).bind fun kvs => some (.d (.dct (mergeD [] kvs)), p.2)
    | .idxD a b => (ev C n a ρ S).bind fun p => (ev C n b ρ p.2).bind fun q => (asD p.1).bind fun x => (asD q.1).bind fun y => (keyOf y).bind fun k => match x with
      | .dct kvs => (valD kvs k).bind fun z => some (.d z, q.2)
      | _ => none
    | .srt a v => (ev C n a ρ S).bind fun p => (asD p.1).bind fun x => (asI x).bind fun i => match ρ[v]? with
      | some (some (.d (.lst xs))) => if (decide (i = (xs.length : Int)) && decide (xs.length < 1000000) && xs.all isRest) = true then some (.d (.lst ((orderOf xs.length (restAt xs)).map fun (j : Nat) => .int (j : Int))), p.2) else none
      | _ => none
    | .revT a => (ev C n a ρ S).bind fun p => (asD p.1).bind fun x => (asT x).bind fun xs => some (.d (.tup xs.reverse), p.2)
    | .lenT a => (ev C n a ρ S).bind fun p => (asD p.1).bind fun x => (asT x).bind fun xs => (intsOf xs).bind fun ns => if decide (ns.length ≤ 1000) = true then some (.d (.int (sortSet ns).length), p.2) else none
    | .lenL a => (ev C n a ρ S).bind fun p => (asD p.1).bind fun x => (asL x).bind fun xs => (intsOf xs).bind fun ns => if decide (ns.length ≤ 1000) = true then some (.d (.int (sortSet ns).length), p.2) else none
    | .dnew => some (.d (.dct []), S)
    | .dsp ks as => (evs (ev C n) as ρ S).bind fun p => (asDs p.1).bind fun xs => if (decide (ks.length = xs.length) && decide (ks.length ≤ 15) && !ks.isEmpty) = true then some (.d (.dct (mergeD [] (List.zip (ks.map .inr) xs))), p.2) else none
    | .dead => none

/-- how a statement ends -/
inductive Out where
  | nx (ρ : Env) | ret (x : E)
abbrev Ex := Stm → Env → Store → Rs Out
def exs (g : Ex) : List Stm → Env → Store → Rs Out
  | [], ρ, S => some (.nx ρ, S)
  | s :: r, ρ, S => (g s ρ S).bind fun p => match p.1 with
    | .nx ρ1 => exs g r ρ1 p.2
    | .ret x => some (.ret x, p.2)
def forL (g : Ex) (tg : Tg) (body : List Stm) : List D → Env → Store → Rs Out
  | [], ρ, S => some (.nx ρ, S)
  | x :: xs, ρ, S => (bindT tg x ρ).bind fun ρ1 => (exs g body ρ1 S).bind fun p => match p.1 with
    | .nx ρ2 => forL g tg body xs ρ2 p.2
    | .ret y => some (.ret y, p.2)
def whileL (e : Ev) (g : Ex) (c : Tm) (body : List Stm) : Nat → Env → Store → Rs Out
  | 0, _, _ => none
  | m + 1, ρ, S => (e c ρ S).bind fun q => (isTrueD q.1).bind fun k => if k = true then (exs g body ρ q.2).bind fun p => match p.1 with
    | .nx ρ2 => whileL e g c body m ρ2 p.2
    | .ret y => some (.ret y, p.2) else some (.nx ρ, q.2)
def fuelE : Nat := 40
def fuelW : Nat := 10 ^ 60
def ex (C : Call) : Nat → Ex
  | 0, _, _, _ => none
  | n + 1, s, ρ, S => match s with
    | .asg t e => (ev C fuelE e ρ S).bind fun p => match t with
      | .nm i => if i < ρ.length then some (.nx (ρ.set i (some p.1)), p.2) else none
      | t => (asD p.1).bind fun x => (bindT t x ρ).bind fun ρ1 => some (.nx ρ1, p.2)
    | .par i j a b => (ev C fuelE a ρ S).bind fun p => (ev C fuelE b ρ p.2).bind fun q => if i < ρ.length ∧ j < ρ.length then some (.nx ((ρ.set i (some p.1)).set j (some q.1)), q.2) else none
    | .par3 i j l a b c => (ev C fuelE a ρ S).bind fun p => (ev C fuelE b ρ p.2).bind fun q => (ev C fuelE c ρ q.2).bind fun r => if i < ρ.length ∧ j < ρ.length ∧ l < ρ.length then some (.nx (((ρ.set i (some p.1)).set j (some q.1)).set l (some r.1)), r.2) else none
    | .setI o i e => (ev C fuelE e ρ S).bind fun p => (ev C fuelE o ρ p.2).bind fun q => (ev C fuelE i ρ q.2).bind fun r => (asD p.1).bind fun x => (asD r.1).bind fun y => (asI y).bind fun k => match q.1 with
      | .r m => match r.2[m]? with
        | some (some xs) => (place xs.length k).bind fun j => some (.nx ρ, r.2.set m (some (xs.set j x)))
        | _ => none
      | _ => none
    | .grid i a v => (ev C fuelE a ρ S).bind fun p => match p.1 with
      | .d (.lst (.lst (_ :: ys) :: r)) => if i < ρ.length then some (.nx (ρ.set i (some (.d (.lst (.lst (v :: ys) :: r))))), p.2) else none
      | _ => none
    | .expr e => (ev C fuelE e ρ S).bind fun p => some (.nx ρ, p.2)
    | .ife c a b => (ev C fuelE c ρ S).bind fun p => (isTrueD p.1).bind fun k => if k = true then exs (ex C n) a ρ p.2 else exs (ex C n) b ρ p.2
    | .for_ t k its body => (evs (ev C fuelE) its ρ S).bind fun p => (walked p.2 k p.1).bind fun xs => forL (ex C n) t body xs ρ p.2
    | .while_ c body => whileL (ev C fuelE) (ex C n) c body fuelW ρ S
    | .ret e => (ev C fuelE e ρ S).bind fun p => some (.ret p.1, p.2)
    | .pass => some (.nx ρ, S)
    | .raise => none
    | .frz i => match ρ[i]? with
      | some (some (.r m)) => match S[m]? with
        | some (some xs) => some (.nx (ρ.set i (some (.d (.lst xs)))), S.set m none)
        | _ => none
      | _ => none
structure Fn where
  name : Str
  ps : List Str
  N : List Str
  body : List Stm
def fuelS : Nat := 20
def finish (n : Nat) (S : Store) : E → Rs E
  | .d x => some (.d x, S.take n)
  | .r m => if m < n then some (.r m, S.take n) else match S[m]? with
    | some (some xs) => some (.r n, S.take n ++ [some xs])
    | _ => none
def callD (T : List Fn) : Nat → Call
  | 0, _, _, _ => none
  | k + 1, f, xs, S => match T[f]? with
    | some fn => if xs.length = fn.ps.length then (exs (ex (callD T k) fuelS) fn.body (xs.map some ++ List.replicate (fn.N.length - xs.length) none) S).bind fun p => match p.1 with
      | .ret x => finish S.length p.2 x
      | .nx _ => some (.d .non, p.2.take S.length) else none
    | none => none
end DL
end

section
set_option autoImplicit false
set_option linter.all false
/-! How plain data lies in the tracked heap. F: what is shut (never changes), G: what others hold, μ: where the open lists of the store lie. -/
namespace DL
open PySem PySem.Spec PyProof.Rows L2

mutual
inductive RepP (K : PySem.W.Frag) (H : Hp) : D → V → Prop
  | non : RepP K H .non .non
  | bl (b : Bool) : RepP K H (.bl b) (.bl b)
  | int (i : Int) : RepP K H (.int i) (.int i)
  | str (x : Str) : RepP K H (.str x) (.str x)
  | tup {a : Addr} {xs : List D} {vs : List V} : SqT K H a vs → RepL K H xs vs → RepP K H (.tup xs) (.ref a)
  | lst {a : Addr} {xs : List D} {vs : List V} : H a = some (.lst vs) → RepL K H xs vs → RepP K H (.lst xs) (.ref a)
  | scr {a : Addr} {xs : List D} {vs : List V} : SqL K H a vs → RepL K H xs vs → RepP K H (.scr xs) (.ref a)
  | dct {a : Addr} {ks : List (Key × D)} {vs : List (Key × V)} : H a = some (.dK vs) → RepK K H ks vs → RepP K H (.dct ks) (.ref a)
inductive RepL (K : PySem.W.Frag) (H : Hp) : List D → List V → Prop
  | nil : RepL K H [] []
  | cons {x : D} {xs : List D} {v : V} {vs : List V} : RepP K H x v → RepL K H xs vs → RepL K H (x :: xs) (v :: vs)
inductive RepK (K : PySem.W.Frag) (H : Hp) : List (Key × D) → List (Key × V) → Prop
  | nil : RepK K H [] []
  | cons {k : Key} {x : D} {xs : List (Key × D)} {v : V} {vs : List (Key × V)} : RepP K H x v → RepK K H xs vs → RepK K H ((k, x) :: xs) ((k, v) :: vs)
end
def Sub (F F' : Hp) : Prop := ∀ (a : Addr) (o : HO), F a = some o → F' a = some o
theorem Sub.refl (F : Hp) : Sub F F := fun _ _ h => h
theorem Sub.trans {F F1 F2 : Hp} (a : Sub F F1) (b : Sub F1 F2) : Sub F F2 := fun c o h => b c o (a c o h)
theorem Sub.sqL {K : PySem.W.Frag} {F F' : Hp} {a : Addr} {xs : List V} (e : Sub F F') (h : SqL K F a xs) : SqL K F' a xs := by
  rcases h with (h | ⟨o, h⟩) | h
  · exact .inl (.inl (e _ _ h))
  · exact .inl (.inr ⟨o, e _ _ h⟩)
  · exact .inr h
theorem Sub.sqT {K : PySem.W.Frag} {F F' : Hp} {a : Addr} {xs : List V} (e : Sub F F') (h : SqT K F a xs) : SqT K F' a xs := by
  rcases h with (h | ⟨o, h⟩) | h
  · exact .inl (.inl (e _ _ h))
  · exact .inl (.inr ⟨o, e _ _ h⟩)
  · exact .inr h
mutual
theorem RepP.mono {K : PySem.W.Frag} {F F' : Hp} (e : Sub F F') : ∀ {x : D} {v : V}, RepP K F x v → RepP K F' x v
  | _, _, .non => .non
  | _, _, .bl b => .bl b
  | _, _, .int b => .int b
  | _, _, .str b => .str b
  | _, _, .tup h r => .tup (e.sqT h) (RepL.mono e r)
  | _, _, .lst h r => .lst (e _ _ h) (RepL.mono e r)
  | _, _, .scr h r => .scr (e.sqL h) (RepL.mono e r)
  | _, _, .dct h r => .dct (e _ _ h) (RepK.mono e r)
theorem RepL.mono {K : PySem.W.Frag} {F F' : Hp} (e : Sub F F') : ∀ {xs : List D} {vs : List V}, RepL K F xs vs → RepL K F' xs vs
  | _, _, .nil => .nil
  | _, _, .cons h r => .cons (RepP.mono e h) (RepL.mono e r)
theorem RepK.mono {K : PySem.W.Frag} {F F' : Hp} (e : Sub F F') : ∀ {xs : List (Key × D)} {vs : List (Key × V)}, RepK K F xs vs → RepK K F' xs vs
  | _, _, .nil => .nil
  | _, _, .cons h r => .cons (RepP.mono e h) (RepK.mono e r)
end
section
variable {K : PySem.W.Frag} {H F : Hp}
theorem RepL.length : ∀ {xs : List D} {vs : List V}, RepL K H xs vs → xs.length = vs.length
  | _, _, .nil => rfl
  | _, _, .cons _ r => congrArg (· + 1) (RepL.length r)
theorem RepL.get : ∀ {xs : List D} {vs : List V} {i : Nat} {x : D}, RepL K H xs vs → xs[i]? = some x → ∃ v, vs[i]? = some v ∧ RepP K H x v
  | _, _, _, _, .nil, h => by simp at h
  | _, _, 0, _, .cons h r, e => by
    simp at e
    subst e
    exact ⟨_, rfl, h⟩
  | _, _, i + 1, _, .cons h r, e => by
    obtain ⟨v, h1, h2⟩ := RepL.get (i := i) r (by simpa using e)
    exact ⟨v, by simpa using h1, h2⟩
theorem RepL.got : ∀ {xs : List D} {vs : List V} {i : Nat} {v : V}, RepL K H xs vs → vs[i]? = some v → ∃ x, xs[i]? = some x ∧ RepP K H x v
  | _, _, _, _, .nil, h => by simp at h
  | _, _, 0, _, .cons h r, e => by
    simp at e
    subst e
    exact ⟨_, rfl, h⟩
  | _, _, i + 1, _, .cons h r, e => by
    obtain ⟨v, h1, h2⟩ := RepL.got (i := i) r (by simpa using e)
    exact ⟨v, by simpa using h1, h2⟩
theorem RepL.append : ∀ {xs ys : List D} {vs ws : List V}, RepL K H xs vs → RepL K H ys ws → RepL K H (xs ++ ys) (vs ++ ws)
  | _, _, _, _, .nil, s => s
  | _, _, _, _, .cons h r, s => .cons h (RepL.append r s)
theorem RepL.take : ∀ {xs : List D} {vs : List V} (n : Nat), RepL K H xs vs → RepL K H (xs.take n) (vs.take n)
  | _, _, 0, _ => by
    rw [List.take_zero, List.take_zero]
    exact .nil
  | _, _, n + 1, .nil => .nil
  | _, _, n + 1, .cons h r => .cons h (RepL.take n r)
theorem RepL.drop : ∀ {xs : List D} {vs : List V} (n : Nat), RepL K H xs vs → RepL K H (xs.drop n) (vs.drop n)
  | _, _, 0, h => h
  | _, _, n + 1, .nil => .nil
  | _, _, n + 1, .cons h r => RepL.drop n r
theorem RepL.set {x : D} {v : V} (q : RepP K H x v) : ∀ {xs : List D} {vs : List V} (n : Nat), RepL K H xs vs → RepL K H (xs.set n x) (vs.set n v)
  | _, _, _, .nil => .nil
  | _, _, 0, .cons h r => .cons q r
  | _, _, n + 1, .cons h r => .cons h (RepL.set q n r)
theorem RepL.erase : ∀ {xs : List D} {vs : List V} (n : Nat), RepL K H xs vs → RepL K H (xs.eraseIdx n) (vs.eraseIdx n)
  | _, _, _, .nil => .nil
  | _, _, 0, .cons h r => r
  | _, _, n + 1, .cons h r => .cons h (RepL.erase n r)
theorem RepL.rep : ∀ {xs : List D} {vs : List V} (k : Nat), RepL K H xs vs → RepL K H (List.replicate k xs).flatten (List.replicate k vs).flatten
  | _, _, 0, _ => .nil
  | _, _, k + 1, h => by
    rw [List.replicate_succ, List.replicate_succ, List.flatten_cons, List.flatten_cons]
    exact h.append (RepL.rep k h)
theorem RepL.ofInts : ∀ ns : List Int, RepL K H (ns.map .int) (ns.map .int)
  | [] => .nil
  | n :: r => .cons (.int n) (RepL.ofInts r)
theorem RepL.isInts : ∀ {xs : List D} {vs : List V} {ns : List Int}, RepL K H xs vs → intsOf xs = some ns → vs = ns.map V.int ∧ xs = ns.map D.int
  | _, _, ns, .nil, h => by
    cases h
    exact ⟨rfl, rfl⟩
  | x :: xs, v :: vs, ns, .cons h r, e => by
    cases h with
    | int i =>
      unfold intsOf at e
      cases q : intsOf xs with
      | none =>
        rw [q] at e
        cases e
      | some ms =>
        rw [q] at e
        cases e
        obtain ⟨h1, h2⟩ := RepL.isInts r q
        exact ⟨by rw [h1]; rfl, by rw [h2]; rfl⟩
    | non => cases e
    | bl _ => cases e
    | str _ => cases e
    | tup _ _ => cases e
    | lst _ _ => cases e
    | dct _ _ => cases e
    | scr _ _ => cases e
theorem RepL.isBools : ∀ {xs : List D} {vs : List V} {ns : List Bool}, RepL K H xs vs → boolsOf xs = some ns → vs = ns.map V.bl
  | _, _, ns, .nil, h => by
    cases h
    rfl
  | x :: xs, v :: vs, ns, .cons h r, e => by
    cases h with
    | bl i =>
      unfold boolsOf at e
      cases q : boolsOf xs with
      | none =>
        rw [q] at e
        cases e
      | some ms =>
        rw [q] at e
        cases e
        rw [RepL.isBools r q]
        rfl
    | non => cases e
    | int _ => cases e
    | str _ => cases e
    | tup _ _ => cases e
    | lst _ _ => cases e
    | dct _ _ => cases e
    | scr _ _ => cases e
theorem RepL.isStrs : ∀ {xs : List D} {vs : List V} {ns : List Str}, RepL K H xs vs → strsOf xs = some ns → vs = ns.map V.str
  | _, _, ns, .nil, h => by
    cases h
    rfl
  | x :: xs, v :: vs, ns, .cons h r, e => by
    cases h with
    | str i =>
      unfold strsOf at e
      cases q : strsOf xs with
      | none =>
        rw [q] at e
        cases e
      | some ms =>
        rw [q] at e
        cases e
        rw [RepL.isStrs r q]
        rfl
    | non => cases e
    | int _ => cases e
    | bl _ => cases e
    | tup _ _ => cases e
    | lst _ _ => cases e
    | dct _ _ => cases e
    | scr _ _ => cases e
end
/-! ### plain data as the layer's -/
mutual
theorem RepP.dp {K : PySem.W.Frag} {H : Hp} : ∀ {x : D} {v : V}, RepP K H x v → x.flat = true → Dp K H v x.py
  | _, _, .non, _ => .non
  | _, _, .bl b, _ => .bl b
  | _, _, .int b, _ => .int b
  | _, _, .str b, _ => .str b
  | _, _, .tup h r, f => .tup h (RepL.dp r (by simpa [D.flat] using f))
  | _, _, .lst h r, f => .lst (.inl (.inl h)) (RepL.dp r (by simpa [D.flat] using f))
  | _, _, .scr h r, f => by simp [D.flat] at f
  | _, _, .dct h r, f => by simp [D.flat] at f
theorem RepL.dp {K : PySem.W.Frag} {H : Hp} : ∀ {xs : List D} {vs : List V}, RepL K H xs vs → D.flats xs = true → DpAll K H vs (D.pys xs)
  | _, _, .nil, _ => .nil
  | _, _, .cons h r, f => by
    rw [D.flats, Bool.and_eq_true] at f
    exact .cons (RepP.dp h f.1) (RepL.dp r f.2)
end
/-! ### the state -/
/-- the tables of code objects that lambdas are made by -/
class TabI where
  T : List (Addr × Str)
variable [TabI]
theorem tabs_write {T : List (Addr × Str)} {H : Hp} {p : Addr} {vs : List V} {o : HO} (hp : H p = some (.lst vs)) (t : LamX.Tabs T H) : LamX.Tabs T (upd H p o) := fun q hq => by
  obtain ⟨ps, h1, h2, h3⟩ := t q hq
  refine ⟨ps, ?_, h2, fun pos cv hc => ?_⟩
  · rw [upd_ne (fun z => by
      rw [z, hp] at h1
      cases h1)]
    exact h1
  · obtain ⟨c, e1, e2⟩ := h3 pos cv hc
    refine ⟨c, e1, ?_⟩
    rw [upd_ne (fun z => by
      rw [z, hp] at e2
      unfold LamX.CodeO at e2
      cases e2)]
    exact e2
structure Rel (K : PySem.W.Frag) (F G : Hp) (μ : Nat → Addr) (S : Store) (H : Hp) : Prop where
  fr : Sub F H
  gr : Sub G H
  gf : ∀ (a : Addr) (o : HO), G a = some o → F a = none
  st : ∀ (n : Nat) (xs : List D), S[n]? = some (some xs) → ∃ vs, H (μ n) = some (.lst vs) ∧ RepL K F xs vs
  nf : ∀ (n : Nat) (xs : List D), S[n]? = some (some xs) → F (μ n) = none
  ng : ∀ (n : Nat) (xs : List D), S[n]? = some (some xs) → G (μ n) = none
  inj : ∀ (n m : Nat) (xs ys : List D), S[n]? = some (some xs) → S[m]? = some (some ys) → μ n = μ m → n = m
  tb : LamX.Tabs TabI.T H
  ft : ∀ (a : Addr) (ps : Array Value), F a = some (.tbl ps) → False
  gt : ∀ (a : Addr) (ps : Array Value), G a = some (.tbl ps) → False
structure Ext (F : Hp) (μ : Nat → Addr) (S : Store) (F' : Hp) (μ' : Nat → Addr) (S' : Store) : Prop where
  f : Sub F F'
  m : ∀ n, n < S.length → μ' n = μ n
  l : S.length ≤ S'.length
theorem Ext.refl (F : Hp) (μ : Nat → Addr) (S : Store) : Ext F μ S F μ S := ⟨Sub.refl F, fun _ _ => rfl, Nat.le_refl _⟩
theorem Ext.trans {F F1 F2 : Hp} {μ μ1 μ2 : Nat → Addr} {S S1 S2 : Store} (a : Ext F μ S F1 μ1 S1) (b : Ext F1 μ1 S1 F2 μ2 S2) : Ext F μ S F2 μ2 S2 :=
  ⟨a.f.trans b.f, fun n h => (b.m n (Nat.lt_of_lt_of_le h a.l)).trans (a.m n h), Nat.le_trans a.l b.l⟩
def RepE (K : PySem.W.Frag) (F : Hp) (μ : Nat → Addr) (S : Store) : E → V → Prop
  | .d x, v => RepP K F x v
  | .r n, v => n < S.length ∧ v = .ref (μ n)
theorem RepE.mono {K : PySem.W.Frag} {F F' : Hp} {μ μ' : Nat → Addr} {S S' : Store} (e : Ext F μ S F' μ' S') {x : E} {v : V} (h : RepE K F μ S x v) : RepE K F' μ' S' x v := by
  cases x with
  | d x => exact RepP.mono e.f h
  | r n => exact ⟨Nat.lt_of_lt_of_le h.1 e.l, by rw [h.2, e.m n h.1]⟩
structure RelEnv (K : PySem.W.Frag) (F : Hp) (μ : Nat → Addr) (S : Store) (ρ : Env) (σ : L2.St) : Prop where
  len : ρ.length = σ.length
  at_ : ∀ (i : Nat) (x : E), ρ[i]? = some (some x) → ∃ v, σ[i]? = some (some v) ∧ RepE K F μ S x v
section
variable {K : PySem.W.Frag} {F F' G H H' : Hp} {μ μ' : Nat → Addr} {S S' : Store} {ρ : Env} {σ : L2.St}
theorem RelEnv.mono (r : RelEnv K F μ S ρ σ) (e : Ext F μ S F' μ' S') : RelEnv K F' μ' S' ρ σ :=
  ⟨r.len, fun i x h => by
    obtain ⟨v, h1, h2⟩ := r.at_ i x h
    exact ⟨v, h1, h2.mono e⟩⟩
theorem RelEnv.set (r : RelEnv K F μ S ρ σ) {x : E} {v : V} (h : RepE K F μ S x v) (i : Nat) : RelEnv K F μ S (ρ.set i (some x)) (σ.set i (some v)) := by
  refine ⟨by rw [List.length_set, List.length_set, r.len], fun j y hj => ?_⟩
  by_cases e : i = j
  · subst e
    by_cases hi : i < ρ.length
    · rw [List.getElem?_set_self hi] at hj
      have hy : x = y := Option.some.inj (Option.some.inj hj)
      subst hy
      exact ⟨v, List.getElem?_set_self (by rw [← r.len]; exact hi), h⟩
    · rw [List.getElem?_eq_none (by rw [List.length_set]; omega)] at hj
      cases hj
  · rw [List.getElem?_set_ne e] at hj
    obtain ⟨w, h1, h2⟩ := r.at_ j y hj
    exact ⟨w, by rw [List.getElem?_set_ne e]; exact h1, h2⟩
theorem RelEnv.unset (r : RelEnv K F μ S ρ σ) (i : Nat) : RelEnv K F μ S (ρ.set i none) (σ.set i none) := by
  refine ⟨by rw [List.length_set, List.length_set, r.len], fun j y hj => ?_⟩
  by_cases e : i = j
  · subst e
    by_cases hi : i < ρ.length
    · rw [List.getElem?_set_self hi] at hj
      cases hj
    · rw [List.getElem?_eq_none (by rw [List.length_set]; omega)] at hj
      cases hj
  · rw [List.getElem?_set_ne e] at hj
    obtain ⟨w, h1, h2⟩ := r.at_ j y hj
    exact ⟨w, by rw [List.getElem?_set_ne e]; exact h1, h2⟩
theorem RelEnv.wipe (r : RelEnv K F μ S ρ σ) : ∀ vs : List Nat, RelEnv K F μ S (DL.wipe ρ vs) (L2.wipe σ vs)
  | [] => r
  | v :: vs => (RelEnv.wipe r vs).unset v
theorem tabs_new {T : List (Addr × Str)} {H : Hp} {p : Addr} {o : HO} (hp : H p = none) (t : LamX.Tabs T H) : LamX.Tabs T (upd H p o) := t.ext fun b u e => by
  rw [upd_ne (ne_of_none e hp)]
  exact e
theorem notbl_upd {F : Hp} {p : Addr} {o : HO} (ho : ∀ ps, o ≠ .tbl ps) (h : ∀ (a : Addr) (ps : Array Value), F a = some (.tbl ps) → False) : ∀ (a : Addr) (ps : Array Value), upd F p o a = some (.tbl ps) → False := fun a ps e => by
  by_cases ha : a = p
  · rw [ha, upd_same] at e
    exact ho ps (Option.some.inj e)
  · rw [upd_ne ha] at e
    exact h a ps e
/-- a new shut object -/
theorem Rel.shut {p : Addr} {o : HO} (r : Rel K F G μ S H) (hp : H p = none) (ho : ∀ ps, o ≠ .tbl ps := by intro ps z; cases z) : Rel K (upd F p o) G μ S (upd H p o) := by
  have fp : ∀ a u, F a = some u → a ≠ p := fun a u e => ne_of_none (r.fr _ _ e) hp
  have gp : ∀ a u, G a = some u → a ≠ p := fun a u e => ne_of_none (r.gr _ _ e) hp
  have sf : Sub F (upd F p o) := fun a u e => by
    rw [upd_ne (fp a u e)]
    exact e
  have sp : ∀ n xs, S[n]? = some (some xs) → μ n ≠ p := fun n xs e => by
    obtain ⟨vs, h1, _⟩ := r.st n xs e
    exact ne_of_none h1 hp
  refine ⟨fun a u e => ?_, fun a u e => ?_, fun a u e => ?_, fun n xs e => ?_, fun n xs e => ?_, r.ng, r.inj, tabs_new hp r.tb, notbl_upd ho r.ft, r.gt⟩
  · by_cases h : a = p
    · subst h
      rw [upd_same] at e ⊢
      exact e
    · rw [upd_ne h] at e ⊢
      exact r.fr _ _ e
  · rw [upd_ne (gp a u e)]
    exact r.gr _ _ e
  · rw [upd_ne (gp a u e)]
    exact r.gf _ _ e
  · obtain ⟨vs, h1, h2⟩ := r.st n xs e
    exact ⟨vs, by rw [upd_ne (sp n xs e)]; exact h1, h2.mono sf⟩
  · rw [upd_ne (sp n xs e)]
    exact r.nf n xs e
theorem Ext.shut {p : Addr} {o : HO} (hp : F p = none) (S : Store) (μ : Nat → Addr) : Ext F μ S (upd F p o) μ S :=
  ⟨fun a u e => by
    rw [upd_ne (ne_of_none e hp)]
    exact e, fun _ _ => rfl, Nat.le_refl _⟩
theorem Rel.free {p : Addr} (r : Rel K F G μ S H) (hp : H p = none) : F p = none := by
  cases q : F p with
  | none => rfl
  | some o =>
    rw [r.fr _ _ q] at hp
    cases hp
theorem Rel.freeG {p : Addr} (r : Rel K F G μ S H) (hp : H p = none) : G p = none := by
  cases q : G p with
  | none => rfl
  | some o =>
    rw [r.gr _ _ q] at hp
    cases hp
/-- a new object that nobody speaks of -/
theorem Rel.idle {p : Addr} {o : HO} (r : Rel K F G μ S H) (hp : H p = none) : Rel K F G μ S (upd H p o) := by
  refine ⟨fun a u e => ?_, fun a u e => ?_, r.gf, fun n xs e => ?_, r.nf, r.ng, r.inj, tabs_new hp r.tb, r.ft, r.gt⟩
  · rw [upd_ne (ne_of_none (r.fr _ _ e) hp)]
    exact r.fr _ _ e
  · rw [upd_ne (ne_of_none (r.gr _ _ e) hp)]
    exact r.gr _ _ e
  · obtain ⟨vs, h1, h2⟩ := r.st n xs e
    exact ⟨vs, by rw [upd_ne (ne_of_none h1 hp)]; exact h1, h2⟩
def put (μ : Nat → Addr) (n : Nat) (p : Addr) : Nat → Addr := fun m => if m = n then p else μ m
theorem put_same (μ : Nat → Addr) (n : Nat) (p : Addr) : put μ n p n = p := if_pos rfl
theorem put_ne {μ : Nat → Addr} {n m : Nat} {p : Addr} (h : m ≠ n) : put μ n p m = μ m := if_neg h
theorem getElem?_snoc_lt {α : Type} {S : List α} {x : α} {n : Nat} (h : n < S.length) : (S ++ [x])[n]? = S[n]? := List.getElem?_append_left h
theorem getElem?_snoc_eq {α : Type} {S : List α} {x : α} : (S ++ [x])[S.length]? = some x := by simp
theorem snoc_cases {α : Type} {S : List α} {x y : α} {n : Nat} (h : (S ++ [x])[n]? = some y) : (n < S.length ∧ S[n]? = some y) ∨ (n = S.length ∧ y = x) := by
  by_cases hn : n < S.length
  · rw [getElem?_snoc_lt hn] at h
    exact .inl ⟨hn, h⟩
  · by_cases he : n = S.length
    · subst he
      rw [getElem?_snoc_eq] at h
      exact .inr ⟨rfl, (Option.some.inj h).symm⟩
    · rw [List.getElem?_eq_none (by rw [List.length_append, List.length_singleton]; omega)] at h
      cases h
/-- a new open list -/
theorem Rel.open_ {p : Addr} {xs : List D} {vs : List V} (r : Rel K F G μ S H) (hp : H p = none) (h : RepL K F xs vs) : Rel K F G (put μ S.length p) (S ++ [some xs]) (upd H p (.lst vs)) := by
  have np : ∀ n ys, S[n]? = some (some ys) → n ≠ S.length := fun n ys e z => by
    rw [z, List.getElem?_eq_none (Nat.le_refl _)] at e
    cases e
  have mp : ∀ n ys, S[n]? = some (some ys) → μ n ≠ p := fun n ys e => by
    obtain ⟨ws, h1, _⟩ := r.st n ys e
    exact ne_of_none h1 hp
  refine ⟨fun a u e => ?_, fun a u e => ?_, r.gf, fun n ys e => ?_, fun n ys e => ?_, fun n ys e => ?_, fun n m ys zs e1 e2 em => ?_, tabs_new hp r.tb, r.ft, r.gt⟩
  · rw [upd_ne (ne_of_none (r.fr _ _ e) hp)]
    exact r.fr _ _ e
  · rw [upd_ne (ne_of_none (r.gr _ _ e) hp)]
    exact r.gr _ _ e
  · rcases snoc_cases e with ⟨hn, e⟩ | ⟨e1, e2⟩
    · obtain ⟨ws, h1, h2⟩ := r.st n ys e
      rw [put_ne (np n ys e)]
      exact ⟨ws, by rw [upd_ne (mp n ys e)]; exact h1, h2⟩
    · have ey : ys = xs := Option.some.inj e2
      rw [e1, put_same, ey]
      exact ⟨vs, upd_same, h⟩
  · rcases snoc_cases e with ⟨hn, e⟩ | ⟨rfl, e⟩
    · rw [put_ne (np n ys e)]
      exact r.nf n ys e
    · rw [put_same]
      exact r.free hp
  · rcases snoc_cases e with ⟨hn, e⟩ | ⟨rfl, e⟩
    · rw [put_ne (np n ys e)]
      exact r.ng n ys e
    · rw [put_same]
      exact r.freeG hp
  · rcases snoc_cases e1 with ⟨hn, e1⟩ | ⟨rfl, e1⟩
    · rcases snoc_cases e2 with ⟨hm, e2⟩ | ⟨rfl, e2⟩
      · rw [put_ne (np n ys e1), put_ne (np m zs e2)] at em
        exact r.inj n m ys zs e1 e2 em
      · rw [put_ne (np n ys e1), put_same] at em
        exact absurd em (mp n ys e1)
    · rcases snoc_cases e2 with ⟨hm, e2⟩ | ⟨rfl, e2⟩
      · rw [put_ne (np m zs e2), put_same] at em
        exact absurd em.symm (mp m zs e2)
      · rfl
theorem Ext.open_ (F : Hp) (μ : Nat → Addr) (S : Store) (p : Addr) (xs : List D) : Ext F μ S F (put μ S.length p) (S ++ [some xs]) :=
  ⟨Sub.refl F, fun n h => put_ne (Nat.ne_of_lt h), by rw [List.length_append]; omega⟩
theorem set_cases {α : Type} {S : List α} {x y : α} {n m : Nat} (h : (S.set n x)[m]? = some y) : (m = n ∧ y = x ∧ n < S.length) ∨ (m ≠ n ∧ S[m]? = some y) := by
  by_cases e : n = m
  · subst e
    by_cases hn : n < S.length
    · rw [List.getElem?_set_self hn] at h
      exact .inl ⟨rfl, (Option.some.inj h).symm, hn⟩
    · rw [List.getElem?_eq_none (by rw [List.length_set]; omega)] at h
      cases h
  · rw [List.getElem?_set_ne e] at h
    exact .inr ⟨fun z => e z.symm, h⟩
/-- an open list is written -/
theorem Rel.write {n : Nat} {xs ys : List D} {ws : List V} (r : Rel K F G μ S H) (hn : S[n]? = some (some xs)) (h : RepL K F ys ws) : Rel K F G μ (S.set n (some ys)) (upd H (μ n) (.lst ws)) := by
  obtain ⟨vs, h1, _⟩ := r.st n xs hn
  have live : ∀ m zs, (S.set n (some ys))[m]? = some (some zs) → ∃ us, S[m]? = some (some us) := fun m zs e => by
    rcases set_cases e with ⟨rfl, _, _⟩ | ⟨_, e⟩
    · exact ⟨xs, hn⟩
    · exact ⟨zs, e⟩
  refine ⟨fun a u e => ?_, fun a u e => ?_, r.gf, fun m zs e => ?_, fun m zs e => ?_, fun m zs e => ?_, fun m k zs us e1 e2 em => ?_, tabs_write h1 r.tb, r.ft, r.gt⟩
  · rw [upd_ne (fun z => by rw [z, r.nf n xs hn] at e; cases e)]
    exact r.fr _ _ e
  · rw [upd_ne (fun z => by rw [z, r.ng n xs hn] at e; cases e)]
    exact r.gr _ _ e
  · rcases set_cases e with ⟨rfl, e, _⟩ | ⟨hm, e⟩
    · cases e
      exact ⟨ws, upd_same, h⟩
    · obtain ⟨us, h2, h3⟩ := r.st m zs e
      exact ⟨us, by rw [upd_ne (fun z => hm (r.inj m n zs xs e hn z))]; exact h2, h3⟩
  · obtain ⟨us, e'⟩ := live m zs e
    exact r.nf m us e'
  · obtain ⟨us, e'⟩ := live m zs e
    exact r.ng m us e'
  · obtain ⟨a, e1'⟩ := live m zs e1
    obtain ⟨b, e2'⟩ := live k us e2
    exact r.inj m k a b e1' e2' em
theorem Ext.set (F : Hp) (μ : Nat → Addr) (S : Store) (n : Nat) (o : Option (List D)) : Ext F μ S F μ (S.set n o) := ⟨Sub.refl F, fun _ _ => rfl, by rw [List.length_set]; exact Nat.le_refl _⟩
/-- an open list is shut -/
theorem Rel.frz {n : Nat} {xs : List D} (r : Rel K F G μ S H) (hn : S[n]? = some (some xs)) : ∃ F', Ext F μ S F' μ (S.set n none) ∧ Rel K F' G μ (S.set n none) H ∧ RepP K F' (.lst xs) (.ref (μ n)) := by
  obtain ⟨vs, h1, h2⟩ := r.st n xs hn
  have sf : Sub F (upd F (μ n) (.lst vs)) := fun a u e => by
    rw [upd_ne (ne_of_none e (r.nf n xs hn))]
    exact e
  have live : ∀ m zs, (S.set n none)[m]? = some (some zs) → m ≠ n ∧ S[m]? = some (some zs) := fun m zs e => by
    rcases set_cases e with ⟨_, e, _⟩ | h
    · cases e
    · exact h
  refine ⟨upd F (μ n) (.lst vs), ⟨sf, fun _ _ => rfl, by rw [List.length_set]; exact Nat.le_refl _⟩, ⟨fun a u e => ?_, r.gr, fun a u e => ?_, fun m zs e => ?_, fun m zs e => ?_, fun m zs e => ?_, fun m k zs us e1 e2 em => ?_, r.tb, notbl_upd (fun ps z => by cases z) r.ft, r.gt⟩, ?_⟩
  · by_cases h : a = μ n
    · subst h
      rw [upd_same] at e
      cases e
      exact h1
    · rw [upd_ne h] at e
      exact r.fr _ _ e
  · rw [upd_ne (fun z => by rw [z, r.ng n xs hn] at e; cases e)]
    exact r.gf _ _ e
  · obtain ⟨hm, e'⟩ := live m zs e
    obtain ⟨us, h3, h4⟩ := r.st m zs e'
    exact ⟨us, h3, h4.mono sf⟩
  · obtain ⟨hm, e'⟩ := live m zs e
    rw [upd_ne (fun z => hm (r.inj m n zs xs e' hn z))]
    exact r.nf m zs e'
  · exact r.ng m zs (live m zs e).2
  · exact r.inj m k zs us (live m zs e1).2 (live k us e2).2 em
  · exact .lst upd_same (h2.mono sf)
/-- behind a call the callee's own lists are forgotten -/
theorem Rel.take (r : Rel K F G μ S H) (n : Nat) : Rel K F G μ (S.take n) H := by
  have live : ∀ m zs, (S.take n)[m]? = some (some zs) → S[m]? = some (some zs) := fun m zs e => by
    by_cases h : m < n
    · rw [List.getElem?_take_of_lt h] at e
      exact e
    · rw [List.getElem?_eq_none (by rw [List.length_take]; omega)] at e
      cases e
  exact ⟨r.fr, r.gr, r.gf, fun m zs e => r.st m zs (live m zs e), fun m zs e => r.nf m zs (live m zs e), fun m zs e => r.ng m zs (live m zs e), fun m k zs us e1 e2 em => r.inj m k zs us (live m zs e1) (live k us e2) em, r.tb, r.ft, r.gt⟩
/-- a value at its moment: an open list is read as it stands -/
inductive RepT (K : PySem.W.Frag) (F H : Hp) : D → V → Prop
  | p {x : D} {v : V} : RepP K F x v → RepT K F H x v
  | l {a : Addr} {xs : List D} {vs : List V} : H a = some (.lst vs) → RepL K F xs vs → RepT K F H (.lst xs) (.ref a)
theorem RepT.now {x : D} {v : V} (r : Rel K F G μ S H) (h : RepT K F H x v) : RepP K H x v := by
  cases h with
  | p h => exact h.mono r.fr
  | l h1 h2 => exact .lst h1 (h2.mono r.fr)
theorem RepT.lst {xs : List D} {v : V} (r : Sub F H) (h : RepT K F H (.lst xs) v) : ∃ a vs, v = .ref a ∧ H a = some (.lst vs) ∧ RepL K F xs vs := by
  cases h with
  | p h =>
    cases h with
    | lst h1 h2 => exact ⟨_, _, rfl, r _ _ h1, h2⟩
  | l h1 h2 => exact ⟨_, _, rfl, h1, h2⟩
theorem RepT.scr {xs : List D} {v : V} (r : Sub F H) (h : RepT K F H (.scr xs) v) : ∃ a vs, v = .ref a ∧ SqL K H a vs ∧ RepL K F xs vs := by
  cases h with
  | p h =>
    cases h with
    | scr h1 h2 => exact ⟨_, _, rfl, r.sqL h1, h2⟩
theorem RepT.sqT {xs : List D} {v : V} (r : Sub F H) (h : RepT K F H (.tup xs) v) : ∃ a vs, v = .ref a ∧ SqT K H a vs ∧ RepL K F xs vs := by
  cases h with
  | p h =>
    cases h with
    | tup h1 h2 => exact ⟨_, _, rfl, r.sqT h1, h2⟩
theorem deref_rep {x : E} {v : V} {d : D} (r : Rel K F G μ S H) (h : RepE K F μ S x v) (e : deref S x = some d) : RepT K F H d v := by
  cases x with
  | d x =>
    cases e
    exact .p h
  | r n =>
    unfold deref at e
    simp only at e
    split at e
    · rename_i xs hn
      cases e
      obtain ⟨vs, h1, h2⟩ := r.st n xs hn
      rw [h.2]
      exact .l h1 h2
    · cases e
end
end DL
end

section
set_option autoImplicit false
set_option linter.all false
/-! The tongue against the text: chk. -/
namespace DL
open PySem PySem.Spec PyProof.Rows L2

structure Prm where
  T : List Fn
  cs : List (Str × D)
  bi : List Str
  lams : List (List Str) := []
def okHead : Expr → Bool
  | .Starred _ _ => false
  | .Slice _ _ _ _ => false
  | .Set _ _ _ => false
  | .SetComp _ _ _ _ => false
  | .DictComp _ _ _ _ _ => false
  | .GeneratorExp _ _ _ _ => false
  | .NamedExpr _ _ _ => false
  | .Lambda _ _ _ _ => false
  | .Await _ _ => false
  | .Yield _ _ => false
  | .YieldFrom _ _ => false
  | .Call (.Name x _) [] [] _ => !(x == ("super" : Str))
  | _ => true
def visC (sc : Scope) (x : Str) : Bool := match sc.names.lookup x with
  | some .local => true
  | some .cell => true
  | some .free => true
  | _ => false
def glC (sc : Scope) (x : Str) : Bool := match sc.names.lookup x with
  | some .globalImplicit => true
  | _ => false
def isLoc (sc : Scope) (x : Str) : Bool := match sc.names.lookup x with
  | some .local => true
  | _ => false
def isCell (sc : Scope) (x : Str) : Bool := match sc.names.lookup x with
  | some .cell => true
  | _ => false
/-- may be stored here: a local name, or a cell of the block's own -/
def stoC (sc s0 : Scope) (x : Str) : Bool := isLoc sc x || (isCell sc x && isCell s0 x)
def okName (x : Str) : Bool := !(x == ("__debug__" : Str)) && !(x == ("__classdict__" : Str)) && decide (x ≠ "__name__")
def cstIs : D → Const → Bool
  | .non, .none => true
  | .bl a, .bool b => a == b
  | .int a, .int b => decide (a = b)
  | .str a, .str b => decide (a = b)
  | _, _ => false
def leafIs : D → D → Bool
  | .non, .non => true
  | .bl a, .bl b => a == b
  | .int a, .int b => decide (a = b)
  | .str a, .str b => decide (a = b)
  | _, _ => false
theorem leafIs_eq : ∀ {x y : D}, leafIs x y = true → x = y ∧ isLeaf y = true
  | .non, .non, _ => ⟨rfl, rfl⟩
  | .bl a, .bl b, h => by
    simp [leafIs] at h
    exact ⟨by rw [h], rfl⟩
  | .int a, .int b, h => ⟨by rw [of_decide_eq_true h], rfl⟩
  | .str a, .str b, h => ⟨by rw [of_decide_eq_true h], rfl⟩
  | .non, .bl _, h | .non, .int _, h | .non, .str _, h | .non, .tup _, h | .non, .lst _, h | .non, .dct _, h | .non, .scr _, h => by cases h
  | .bl _, .non, h | .bl _, .int _, h | .bl _, .str _, h | .bl _, .tup _, h | .bl _, .lst _, h | .bl _, .dct _, h | .bl _, .scr _, h => by cases h
  | .int _, .non, h | .int _, .bl _, h | .int _, .str _, h | .int _, .tup _, h | .int _, .lst _, h | .int _, .dct _, h | .int _, .scr _, h => by cases h
  | .str _, .non, h | .str _, .bl _, h | .str _, .int _, h | .str _, .tup _, h | .str _, .lst _, h | .str _, .dct _, h | .str _, .scr _, h => by cases h
  | .tup _, _, h | .lst _, _, h | .dct _, _, h | .scr _, _, h => by cases h
def binIs : O2 → Operator → Bool
  | .add, .Add => true
  | .sub, .Sub => true
  | .mul, .Mult => true
  | .fdiv, .FloorDiv => true
  | .mod, .Mod => true
  | .pow, .Pow => true
  | .shl, .LShift => true
  | .shr, .RShift => true
  | .band, .BitAnd => true
  | .catT, .Add => true
  | .catL, .Add => true
  | .catS, .Add => true
  | .repL, .Mult => true
  | _, _ => false
def cmpIs : O2 → CmpOp → Bool
  | .eq, .Eq => true
  | .ne, .NotEq => true
  | .lt, .Lt => true
  | .le, .LtE => true
  | .gt, .Gt => true
  | .ge, .GtE => true
  | .isIn, .In => true
  | .notIn, .NotIn => true
  | .isInD, .In => true
  | .notInD, .NotIn => true
  | _, _ => false
/-- built-in functions (true) and types (false) of one argument -/
def o1Nm : O1 → Option (String × Bool)
  | .len => some ("len", true)
  | .sum => some ("sum", true)
  | .sumT => some ("sum", true)
  | .all => some ("all", true)
  | .any => some ("any", true)
  | .abs => some ("abs", true)
  | .int => some ("int", false)
  | .str => some ("str", false)
  | .repr => some ("repr", true)
  | .tupleL => some ("tuple", false)
  | .tupleT => some ("tuple", false)
  | .listL => some ("list", false)
  | .listT => some ("list", false)
  | .sortedI => some ("sorted", true)
  | .minL => some ("min", true)
  | .maxL => some ("max", true)
  | .sortedP => some ("sorted", true)
  | _ => none
def tyNm : Ty → String
  | .int => "int"
  | .bool => "bool"
  | .str => "str"
  | .tuple => "tuple"
  | .list => "list"
  | .dict => "dict"
def bopE : BoolOp → List Expr → Pos → Expr
  | _, [e], _ => e
  | op, es, pos => .BoolOp op es pos
/-- a built-in's name here -/
def biC (P : Prm) (sc : Scope) (x : Str) (nm : String) : Bool := decide (x = (nm : Str)) && P.bi.contains x && glC sc x && okName x
def isFresh : Tm → Bool
  | .lst _ => true
  | .lc _ _ _ _ _ _ => true
  | .o2 .catL _ _ => true
  | .o2 .repL _ _ => true
  | .slL _ _ _ => true
  | .o1 .listL _ => true
  | .o1 .listT _ => true
  | .o1 .sortedI _ => true
  | .o1 .sortedP _ => true
  | .lstRg1 _ => true
  | .lstRg2 _ _ => true
  | .sortSetT _ => true
  | _ => false
def tupTarget : Expr → Bool
  | .Tuple _ _ _ => true
  | _ => false
mutual
def chkG (N : List Str) (sc s0 : Scope) : Tg → Expr → Bool
  | .nm i, .Name x _ => decide (N[i]? = some x) && stoC sc s0 x
  | .tp ts, .Tuple es _ _ => chkGs N sc s0 ts es
  | _, _ => false
def chkGs (N : List Str) (sc s0 : Scope) : List Tg → List Expr → Bool
  | [], [] => true
  | t :: ts, .Starred _ _ :: es => false
  | t :: ts, e :: es => chkG N sc s0 t e && chkGs N sc s0 ts es
  | _, _ => false
end
/-- all the target's places are the block's own -/
def tgIn : Nat → Tg → List Nat → Bool
  | _, .nm i, own => own.contains i
  | 0, .tp _, _ => false
  | n + 1, .tp ts, own => ts.all fun t => tgIn n t own
abbrev Ck := Scope → Scope → Tm → Expr → Bool
def chkAll (g : Tm → Expr → Bool) : List Tm → List Expr → Bool
  | [], [] => true
  | t :: ts, e :: es => g t e && chkAll g ts es
  | _, _ => false
def chkO (g : Tm → Expr → Bool) : Option Tm → Option Expr → Bool
  | none, none => true
  | some t, some e => g t e
  | _, _ => false
def chkI (P : Prm) (g : Tm → Expr → Bool) (sc : Scope) (tgE : Expr) : IK → List Tm → Expr → Bool
  | .lst, [a], e => okHead e && g a e
  | .tup, [a], e => okHead e && g a e
  | .rng1, [a], .Call (.Name x _) [ea] [] _ => biC P sc x "range" && g a ea
  | .rng2, [a, b], .Call (.Name x _) [ea, eb] [] _ => biC P sc x "range" && g a ea && g b eb
  | .enumL, [a], .Call (.Name x _) [ea] [] _ => biC P sc x "enumerate" && g a ea && tupTarget tgE
  | .zipLL, [a, b], .Call (.Name x _) [ea, eb] [] _ => biC P sc x "zip" && g a ea && g b eb && tupTarget tgE
  | .enumT, [a], .Call (.Name x _) [ea] [] _ => biC P sc x "enumerate" && g a ea && tupTarget tgE
  | .zipTT, [a, b], .Call (.Name x _) [ea, eb] [] _ => biC P sc x "zip" && g a ea && g b eb && tupTarget tgE
  | .zipTL, [a, b], .Call (.Name x _) [ea, eb] [] _ => biC P sc x "zip" && g a ea && g b eb && tupTarget tgE
  | .enZ, [a, b], .Call (.Name y _) [.Call (.Name x _) [ea, eb] [] _] [] _ => biC P sc x "zip" && g a ea && g b eb && tupTarget tgE && biC P sc y "enumerate"
  | _, _, _ => false
def notIfE : Expr → Bool
  | .IfExp _ _ _ _ => false
  | _ => true
/-- as a test -/
def chkT (g : Tm → Expr → Bool) : Nat → Tm → Expr → Bool
  | 0, _, _ => false
  | n + 1, .and a b, .BoolOp .And (ea :: eb :: es) pos => chkT g n a ea && chkT g n b (bopE .And (eb :: es) pos)
  | n + 1, .or a b, .BoolOp .Or (ea :: eb :: es) pos => chkT g n a ea && chkT g n b (bopE .Or (eb :: es) pos)
  | n + 1, .not a, .UnaryOp .Not ea _ => chkT g n a ea
  | _ + 1, _, .BoolOp _ _ _ => false
  | _ + 1, _, .IfExp _ _ _ _ => false
  | _ + 1, _, .UnaryOp .Not _ _ => false
  | _ + 1, t, e => g t e
abbrev Ck1 := Tm → Expr → Bool
def ckVar (N : List Str) (sc : Scope) (i : Nat) : Expr → Bool
  | .Name x _ => decide (N[i]? = some x) && visC sc x && okName x
  | _ => false
def ckCst (x : D) : Expr → Bool
  | .Constant c _ _ => cstIs x c
  | _ => false
def ckGlob (P : Prm) (sc : Scope) (y : Str) (v : D) : Expr → Bool
  | .Name x _ => decide (y = x) && glC sc x && okName x && P.cs.any fun p => decide (p.1 = x) && leafIs v p.2
  | _ => false
def ckO2 (g : Ck1) (o : O2) (a b : Tm) : Expr → Bool
  | .BinOp ea op eb _ => binIs o op && g a ea && g b eb
  | .Compare ea [op] [eb] _ => cmpIs o op && g a ea && g b eb && !behindInMarks op eb
  | _ => false
def ckChain (g : Ck1) (o o' : O2) (a b c : Tm) : Expr → Bool
  | .Compare ea [op, op'] [eb, ec] _ => cmpIs o op && cmpIs o' op' && g a ea && g b eb && g c ec && !behindInMarks op' ec
  | _ => false
def ckIsN (g : Ck1) (a : Tm) : Expr → Bool
  | .Compare ea [.Is] [.Constant .none _ _] _ => g a ea
  | _ => false
def ckNotN (g : Ck1) (a : Tm) : Expr → Bool
  | .Compare ea [.IsNot] [.Constant .none _ _] _ => g a ea
  | _ => false
def ckIsB (g : Ck1) (b : Bool) (a : Tm) : Expr → Bool
  | .Compare ea [.Is] [.Constant (.bool c) _ _] _ => (b == c) && g a ea
  | _ => false
def ckNotB (g : Ck1) (b : Bool) (a : Tm) : Expr → Bool
  | .Compare ea [.IsNot] [.Constant (.bool c) _ _] _ => (b == c) && g a ea
  | _ => false
def ckAnd (g : Ck1) (a b : Tm) : Expr → Bool
  | .BoolOp .And (ea :: eb :: es) pos => g a ea && g b (bopE .And (eb :: es) pos)
  | _ => false
def ckOr (g : Ck1) (a b : Tm) : Expr → Bool
  | .BoolOp .Or (ea :: eb :: es) pos => g a ea && g b (bopE .Or (eb :: es) pos)
  | _ => false
def ckNot (g : Ck1) (a : Tm) : Expr → Bool
  | .UnaryOp .Not ea _ => g a ea
  | _ => false
def ckIte (g : Ck1) (c a b : Tm) : Expr → Bool
  | .IfExp ec ea eb _ => chkT g 20 c ec && g a ea && g b eb
  | _ => false
def ckO1 (P : Prm) (g : Ck1) (sc : Scope) (o : O1) (a : Tm) : Expr → Bool
  | .UnaryOp .USub ea _ => (match o with | .neg => true | _ => false) && g a ea
  | .Call (.Name x _) [ea] [] _ => (match o1Nm o with | some (nm, _) => biC P sc x nm | none => false) && g a ea
  | _ => false
def ckM2 (P : Prm) (g : Ck1) (sc : Scope) (nm : String) (a b : Tm) : Expr → Bool
  | .Call (.Name x _) [ea, eb] [] _ => biC P sc x nm && g a ea && g b eb
  | _ => false
def ckIsa (P : Prm) (g : Ck1) (sc : Scope) (k : Ty) (a : Tm) : Expr → Bool
  | .Call (.Name x _) [ea, .Name y _] [] _ => biC P sc x "isinstance" && biC P sc y (tyNm k) && g a ea
  | _ => false
def fnIs (P : Prm) (f : Nat) (x : Str) : Bool := match P.T[f]? with
  | some fn => decide (fn.name = x)
  | none => false
def fnKs (P : Prm) (f : Nat) (ks : List (Option Str)) : Bool := match P.T[f]? with
  | some fn => decide (ks = fn.ps.map some)
  | none => false
def ckCall (P : Prm) (g : Ck1) (sc : Scope) (f : Nat) (as : List Tm) : Expr → Bool
  | .Call (.Name x _) es [] _ => fnIs P f x && glC sc x && okName x && chkAll g as es
  | _ => false
def ckCallK (P : Prm) (g : Ck1) (sc : Scope) (f : Nat) (as : List Tm) : Expr → Bool
  | .Call (.Name x _) [] kws _ => fnIs P f x && fnKs P f (kws.map (·.arg)) && glC sc x && okName x && chkAll g as (kws.map (·.value))
  | _ => false
def ckTup (g : Ck1) (as : List Tm) : Expr → Bool
  | .Tuple es _ _ => chkAll g as es
  | _ => false
def ckLst (g : Ck1) (as : List Tm) : Expr → Bool
  | .List es _ => chkAll g as es
  | _ => false
def ckIdx (g : Ck1) (a b : Tm) : Expr → Bool
  | .Subscript ea eb _ => g a ea && g b eb
  | _ => false
def ckSl (g : Ck1) (a : Tm) (lo hi : Option Tm) : Expr → Bool
  | .Subscript ea (.Slice el eh none _) _ => g a ea && chkO g lo el && chkO g hi eh
  | _ => false
def chkIfs (g : Ck1) : List Tm → List Expr → Bool
  | [], [] => true
  | [c], [ce] => chkT g 20 c ce
  | _, _ => false
def ckLc (P : Prm) (N : List Str) (g : Scope → Scope → Ck1) (sc s0 : Scope) (elt : Tm) (tg : Tg) (k : IK) (its ifs : List Tm) (own : List Nat) : Expr → Bool
  | .ListComp eE [⟨tgE, itE, ifE, 0⟩] scope _ => chkI P (g sc s0) sc tgE k its itE && blkC N sc scope (own.map fun i => (N.getD i default, i)) && chkG N (relS scope sc) scope tg tgE && tgIn 5 tg own
      && chkIfs (g (relS scope sc) scope) ifs ifE && g (relS scope sc) scope elt eE
  | _ => false
def ckMt (g : Ck1) (nm : String) (a b : Tm) : Expr → Bool
  | .Call (.Attribute ea m apos) [eb] [] cpos => decide (m = (nm : Str)) && (apos.endLine == cpos.line) && g a ea && g b eb
  | _ => false
def ckRg1 (P : Prm) (g : Ck1) (sc : Scope) (a : Tm) : Expr → Bool
  | .Call (.Name x _) [.Call (.Name y _) [ea] [] _] [] _ => biC P sc x "list" && biC P sc y "range" && g a ea
  | _ => false
def ckRg2 (P : Prm) (g : Ck1) (sc : Scope) (a b : Tm) : Expr → Bool
  | .Call (.Name x _) [.Call (.Name y _) [ea, eb] [] _] [] _ => biC P sc x "list" && biC P sc y "range" && g a ea && g b eb
  | _ => false
def ckTupZ (P : Prm) (g : Ck1) (sc : Scope) (a b : Tm) : Expr → Bool
  | .Call (.Name x _) [.Call (.Name y _) [ea, eb] [] _] [] _ => biC P sc x "tuple" && biC P sc y "zip" && g a ea && g b eb
  | _ => false
def ckSoS (P : Prm) (g : Ck1) (sc : Scope) (a : Tm) : Expr → Bool
  | .Call (.Name x _) [.Call (.Name y _) [ea] [] _] [] _ => biC P sc x "sorted" && biC P sc y "set" && g a ea
  | _ => false
def ckDiL (P : Prm) (g : Ck1) (sc : Scope) (a : Tm) : Expr → Bool
  | .Call (.Name x _) [ea] [] _ => biC P sc x "dict" && g a ea
  | _ => false
def ckSrt (P : Prm) (N : List Str) (g : Ck1) (sc : Scope) (a : Tm) (v : Nat) : Expr → Bool
  | .Call (.Name x _) [.Call (.Name y _) [ea] [] _] [⟨some kw, .Lambda ⟨[], [⟨a0, none, _⟩], none, [], [], none, []⟩ (.Tuple [.BinOp (.Constant (.int z0) _ _) .Sub (.Subscript (.Subscript (.Name r1 _) (.Name a1 _) _) (.Constant (.int z1) _ _) _) _, .Name a2 _] _ _) scope _, _⟩] _ =>
    biC P sc x "sorted" && biC P sc y "range" && decide (kw = ("key" : Str)) && decide (z0 = 0) && decide (z1 = 1) && decide (a1 = a0) && decide (a2 = a0) && g a ea && decide (N[v]? = some r1) && isCell sc r1 && okName r1 && okName a0
      && decide (scope.kind = .function) && !scope.isCoroutine && !scope.isGenerator && scope.names.all (fun y => !decide (y.2 = .cell) && (!decide (y.2 = .free) || decide (y.1 = r1))) && decide (scope.names.lookup r1 = some .free) && decide (scope.names.lookup a0 = some .local) && P.lams.contains N
  | _ => false
def ckRev (g : Ck1) (a : Tm) : Expr → Bool
  | .Subscript ea (.Slice none none (some (.UnaryOp .USub (.Constant (.int z) _ _) _)) _) _ => decide (z = 1) && g a ea
  | _ => false
def ckLenS (P : Prm) (g : Ck1) (sc : Scope) (a : Tm) : Expr → Bool
  | .Call (.Name x _) [.Call (.Name y _) [ea] [] _] [] _ => biC P sc x "len" && biC P sc y "set" && g a ea
  | _ => false
def ckDnew : Expr → Bool
  | .Dict [] [] _ => true
  | _ => false
/-- the keys of a display, texts -/
def keysAre : List Str → List (Option Expr) → Bool
  | [], [] => true
  | k :: ks, some (.Constant (.str x) _ _) :: es => decide (k = x) && keysAre ks es
  | _, _ => false
def ckDsp (g : Ck1) (ks : List Str) (as : List Tm) : Expr → Bool
  | .Dict keys vals _ => keysAre ks keys && chkAll g as vals
  | _ => false
def chkE (P : Prm) (N : List Str) : Nat → Ck
  | 0, _, _, _, _ => false
  | n + 1, sc, s0, t, e => okHead e && match t with
    | .var i => ckVar N sc i e
    | .cst x => ckCst x e
    | .glob y v => ckGlob P sc y v e
    | .o2 o a b => ckO2 (chkE P N n sc s0) o a b e
    | .chain o o' a b c => ckChain (chkE P N n sc s0) o o' a b c e
    | .isN a => ckIsN (chkE P N n sc s0) a e
    | .notN a => ckNotN (chkE P N n sc s0) a e
    | .isB b a => ckIsB (chkE P N n sc s0) b a e
    | .notB b a => ckNotB (chkE P N n sc s0) b a e
    | .and a b => ckAnd (chkE P N n sc s0) a b e
    | .or a b => ckOr (chkE P N n sc s0) a b e
    | .not a => ckNot (chkE P N n sc s0) a e
    | .ite c a b => ckIte (chkE P N n sc s0) c a b e
    | .o1 o a => ckO1 P (chkE P N n sc s0) sc o a e
    | .max2 a b => ckM2 P (chkE P N n sc s0) sc "max" a b e
    | .min2 a b => ckM2 P (chkE P N n sc s0) sc "min" a b e
    | .isa k a => ckIsa P (chkE P N n sc s0) sc k a e
    | .call f as => ckCall P (chkE P N n sc s0) sc f as e
    | .callK f as => ckCallK P (chkE P N n sc s0) sc f as e
    | .tup as => ckTup (chkE P N n sc s0) as e
    | .lst as => ckLst (chkE P N n sc s0) as e
    | .idxL a b => ckIdx (chkE P N n sc s0) a b e
    | .idxT a b => ckIdx (chkE P N n sc s0) a b e
    | .slL a lo hi => ckSl (chkE P N n sc s0) a lo hi e
    | .slT a lo hi => ckSl (chkE P N n sc s0) a lo hi e
    | .lc elt tg k its ifs own => ckLc P N (chkE P N n) sc s0 elt tg k its ifs own e
    | .app a b => ckMt (chkE P N n sc s0) "append" a b e
    | .ext a b => ckMt (chkE P N n sc s0) "extend" a b e
    | .popAt a b => ckMt (chkE P N n sc s0) "pop" a b e
    | .new a => isFresh a && chkE P N n sc s0 a e
    | .lstRg1 a => ckRg1 P (chkE P N n sc s0) sc a e
    | .lstRg2 a b => ckRg2 P (chkE P N n sc s0) sc a b e
    | .tupZip a b => ckTupZ P (chkE P N n sc s0) sc a b e
    | .sortSetT a => ckSoS P (chkE P N n sc s0) sc a e
    | .dictL a => ckDiL P (chkE P N n sc s0) sc a e
    | .idxD a b => ckIdx (chkE P N n sc s0) a b e
    | .srt a v => ckSrt P N (chkE P N n sc s0) sc a v e
    | .revT a => ckRev (chkE P N n sc s0) a e
    | .lenT a => ckLenS P (chkE P N n sc s0) sc a e
    | .lenL a => ckLenS P (chkE P N n sc s0) sc a e
    | .dnew => ckDnew e
    | .dsp ks as => ckDsp (chkE P N n sc s0) ks as e
    | .dead => true
def notComp : Expr → Bool
  | .ListComp _ _ _ _ => false
  | .SetComp _ _ _ _ => false
  | .DictComp _ _ _ _ _ => false
  | _ => true
/-- x = [..] exchanged with the comprehension's own: the name a local, on one line -/
def swapC (sc : Scope) (x : Str) (px : Pos) (e : Expr) (line : Nat) : Bool := match e with
  | .ListComp _ _ scope pos => isLoc sc x && (px.line == pos.line) && !(scope.names.any fun (n, k) => n == x && (k == .local || k == .cell))
  | _ => false
def parC (sc : Scope) (x y : Str) (px py : Pos) (a b : Expr) : Bool := isLoc sc x && isLoc sc y && (px.line == py.line) && !(x == y) && !([a, b].all (foldedForSure 8)) && !([a, b].all (constantsAlone 8))
def par3C (sc : Scope) (x y z : Str) (px py pz : Pos) (a b c : Expr) : Bool := isLoc sc x && isLoc sc y && isLoc sc z && (px.line == py.line) && (px.line == pz.line) && !(x == y) && !(x == z) && !(y == z) && !([a, b, c].all (foldedForSure 8)) && !([a, b, c].all (constantsAlone 8))
/-- a target that is no local name -/
def nonLoc (sc : Scope) : Expr → Bool
  | .Name x _ => !isLoc sc x
  | _ => true
def noSwap (sc : Scope) (ts : List Expr) : Expr → Bool
  | .Tuple _ _ _ => ts.any (nonLoc sc)
  | _ => true
abbrev CkS := Stm → Stmt → Bool
/-- the statements in turn; a frz stands for none, a grid for two -/
def chkL (g : CkS) (g2 : Stm → Stmt → Stmt → Bool) : List Stm → List Stmt → Bool
  | [], [] => true
  | .frz _ :: ss, es => chkL g g2 ss es
  | .grid i a v :: ss, e1 :: e2 :: es => g2 (.grid i a v) e1 e2 && chkL g g2 ss es
  | .grid _ _ _ :: _, _ => false
  | s :: ss, e :: es => g s e && chkL g g2 ss es
  | _, _ => false
def isGridLc : Tm → Bool
  | .lc elt _ _ _ [] _ => isFresh elt
  | _ => false
def chkG2 (P : Prm) (N : List Str) (sc : Scope) (ck : Ck1) : Stm → Stmt → Stmt → Bool
  | .grid i a v, .Assign [.Name x px] ve _, .Assign [.Subscript (.Subscript (.Name y _) (.Constant (.int z1) _ _) _) (.Constant (.int z2) _ _) _] (.Constant c _ _) _ =>
    decide (N[i]? = some x) && decide (y = x) && stoC sc sc x && visC sc x && okName x && decide (z1 = 0) && decide (z2 = 0) && cstIs v c && isGridLc a && ck a ve
  | _, _, _ => false
def fuelK : Nat := 60
def chkS (P : Prm) (N : List Str) (sc : Scope) : Nat → CkS
  | 0, _, _ => false
  | n + 1, s, e => match s, e with
    | .asg (.nm i) t, .Assign [.Name x px] ve pos => decide (N[i]? = some x) && stoC sc sc x && chkE P N fuelK sc sc t ve
    | .asg (.tp ts) t, .Assign [.Tuple es k p] ve pos => chkG N sc sc (.tp ts) (.Tuple es k p) && chkE P N fuelK sc sc t ve && notComp ve && noSwap sc es ve
    | .par i j a b, .Assign [.Tuple [.Name x px, .Name y py] _ _] (.Tuple [ea, eb] _ _) _ => decide (N[i]? = some x) && decide (N[j]? = some y) && !(i == j) && parC sc x y px py ea eb && chkE P N fuelK sc sc a ea && chkE P N fuelK sc sc b eb
    | .par3 i j l a b c, .Assign [.Tuple [.Name x px, .Name y py, .Name z pz] _ _] (.Tuple [ea, eb, ec] _ _) _ => decide (N[i]? = some x) && decide (N[j]? = some y) && decide (N[l]? = some z) && !(i == j) && !(i == l) && !(j == l) && par3C sc x y z px py pz ea eb ec && chkE P N fuelK sc sc a ea && chkE P N fuelK sc sc b eb && chkE P N fuelK sc sc c ec
    | .setI o i t, .Assign [.Subscript eo ei _] ve _ => chkE P N fuelK sc sc o eo && chkE P N fuelK sc sc i ei && chkE P N fuelK sc sc t ve
    | .expr t, .Expr ve _ => chkE P N fuelK sc sc t ve && notComp ve
    | .ife c a b, .If ec ea eb _ => chkT (chkE P N fuelK sc sc) 20 c ec && chkL (chkS P N sc n) (chkG2 P N sc (chkE P N fuelK sc sc)) a ea && chkL (chkS P N sc n) (chkG2 P N sc (chkE P N fuelK sc sc)) b eb
    | .for_ t k its body, .For tgE itE bE [] _ => chkI P (chkE P N fuelK sc sc) sc tgE k its itE && chkG N sc sc t tgE && chkL (chkS P N sc n) (chkG2 P N sc (chkE P N fuelK sc sc)) body bE
    | .while_ c body, .While ec bE [] _ => chkT (chkE P N fuelK sc sc) 20 c ec && chkL (chkS P N sc n) (chkG2 P N sc (chkE P N fuelK sc sc)) body bE
    | .ret t, .Return (some ve) _ => chkE P N fuelK sc sc t ve
    | .pass, .Pass _ => true
    | .raise, _ => true
    | _, _ => false
/-- a def of the text -/
def chkF (P : Prm) (fn : Fn) (st : Stmt) : Bool := chkL (chkS P fn.N (defScope st) fuelK) (chkG2 P fn.N (defScope st) (chkE P fn.N fuelK (defScope st) (defScope st))) fn.body (defBody st)
end DL
end

section
set_option autoImplicit false
set_option linter.all false
/-! The readings' canonical forms; the context; what syntax alone decides. -/
namespace DL
open PySem PySem.Spec PyProof.Rows L2
variable [TabI]

/-! ### canonical readings -/
def sem (X : Cx) (e : Expr) : TE := fun σ H Q => ∀ (pins : List (Addr × Obj)) (s : Shared), Inv X pins σ H s → wpAny (model X.prog X.w) X.A (eval e X.env) (EP X pins σ Q) X.xe s
def semT (X : Cx) (e : Expr) : TT := fun σ H Q => ∀ (pins : List (Addr × Obj)) (s : Shared), Inv X pins σ H s → wpAny (model X.prog X.w) X.A (isTrue e X.env (eval e X.env)) (TP X pins σ Q) X.xe s
def semA (X : Cx) (es : List Expr) : TA := fun σ H Q => ∀ (pos : Pos) (pins : List (Addr × Obj)) (s : Shared), Inv X pins σ H s → wpAny (model X.prog X.w) X.A (spliced (backTo pos (starEach es X.env))) (AP X pins σ Q) X.xe s
def semI (X : Cx) (tg iter : Expr) : TI := fun σ H R => ∀ (pins : List (Addr × Obj)) (s : Shared), Inv X pins σ H s →
  wpAny (model X.prog X.w) X.A (eval iter X.env) (fun v s1 => wpAny (model X.prog X.w) X.A (pyIter v) (PIE X pins σ tg R) X.xe s1) X.xe s
def semS (X : Cx) (st : Stmt) : TS := fun D σ H => ∀ (pins : List (Addr × Obj)) (s : Shared), Inv X pins σ H s → wpAny (model X.prog X.w) X.A (exec st X.env) (SP X pins D) X.xe s
def semSs (X : Cx) (st : List Stmt) : TS := fun D σ H => ∀ (pins : List (Addr × Obj)) (s : Shared), Inv X pins σ H s → wpAny (model X.prog X.w) X.A (execs st X.env) (SP X pins D) X.xe s
section
variable {X : Cx} {e : Expr} {es : List Expr} {σ : L2.St} {H : Hp}
theorem pe_sem : PE X e (sem X e) := ⟨fun pins s σ H Q I h => h pins s I⟩
theorem pt_sem : PT X e (semT X e) := ⟨fun pins s σ H Q I h => h pins s I⟩
theorem pa_sem : PA X es (semA X es) := ⟨fun pos pins s σ H Q I h => h pos pins s I⟩
theorem pi_sem {tg : Expr} : PI X tg e (semI X tg e) := ⟨fun pins s σ H Q I h => h pins s I⟩
theorem ps_sem {st : Stmt} : PS X st (semS X st) := ⟨fun pins s σ H D I h => h pins s I⟩
theorem pss_sem {st : List Stmt} : PSs X st (semSs X st) := ⟨fun pins s σ H D I h => h pins s I⟩
theorem to_sem {t : TE} (h : PE X e t) {Q : VK} (q : t σ H Q) : sem X e σ H Q := fun pins s I => h.run pins s σ H Q I q
theorem to_semT {t : TT} (h : PT X e t) {Q : Bool → Hp → Prop} (q : t σ H Q) : semT X e σ H Q := fun pins s I => h.run pins s σ H Q I q
theorem to_semA {t : TA} (h : PA X es t) {Q : List V → Hp → Prop} (q : t σ H Q) : semA X es σ H Q := fun pos pins s I => h.run pos pins s σ H Q I q
theorem to_semI {tg : Expr} {t : TI} (h : PI X tg e t) {Q : It → Hp → Prop} (q : t σ H Q) : semI X tg e σ H Q := fun pins s I => h.run pins s σ H Q I q
theorem to_semS {st : Stmt} {t : TS} (h : PS X st t) {D : Ends} (q : t D σ H) : semS X st D σ H := fun pins s I => h.run pins s σ H D I q
theorem to_semSs {st : List Stmt} {t : TS} (h : PSs X st t) {D : Ends} (q : t D σ H) : semSs X st D σ H := fun pins s I => h.run pins s σ H D I q
theorem sem_mono {Q Q' : VK} (h : sem X e σ H Q) (m : ∀ v H', Q v H' → Q' v H') : sem X e σ H Q' := fun pins s I => thn (h pins s I) fun u s' ⟨v, H', I', r, q⟩ => ⟨v, H', I', r, m v H' q⟩
theorem semT_mono {Q Q' : Bool → Hp → Prop} (h : semT X e σ H Q) (m : ∀ v H', Q v H' → Q' v H') : semT X e σ H Q' := fun pins s I => thn (h pins s I) fun u s' ⟨H', I', q⟩ => ⟨H', I', m u H' q⟩
theorem semA_mono {Q Q' : List V → Hp → Prop} (h : semA X es σ H Q) (m : ∀ v H', Q v H' → Q' v H') : semA X es σ H Q' := fun pos pins s I => thn (h pos pins s I) fun u s' ⟨v, H', I', r, q⟩ => ⟨v, H', I', r, m v H' q⟩
theorem semI_mono {tg : Expr} {Q Q' : It → Hp → Prop} (h : semI X tg e σ H Q) (m : ∀ J H', Q J H' → Q' J H') : semI X tg e σ H Q' := fun pins s I =>
  thn (h pins s I) fun u s1 h1 => thn h1 fun itv s2 ⟨it, fp, tn, J, H', e1, I', T, t0, f, q⟩ => ⟨it, fp, tn, J, H', e1, I', T, t0, f, m J H' q⟩
theorem semT_val (h : sem X e σ H fun v H' => ∃ c, v = .bl c ∧ True) (he : ∀ whole, isTrue e X.env whole = (do let v ← whole; standAt e.pos; holding [v] (truthy v))) : True := trivial
end

/-! ### what syntax decides -/
theorem star_of {e : Expr} {es : List Expr} {env : PySem.Env} (h : okHead e = true) : starEach (e :: es) env = (false, eval e env) :: starEach es env := by
  cases e <;> first | rfl | cases h
theorem stars_none {pos : Pos} {env : PySem.Env} : ∀ {es : List Expr}, (∀ e ∈ es, okHead e = true) → (backTo pos (starEach es env)).any (·.1) = false
  | [], _ => rfl
  | e :: es, h => by
    rw [star_of (h e List.mem_cons_self)]
    exact stars_none fun x hx => h x (List.mem_cons_of_mem _ hx)
theorem plainIx_of {e : Expr} (h : okHead e = true) : PlainIx e := by
  cases e <;> first | (intro _ _; rfl) | cases h
theorem base_of {e : Expr} {m : Str} {env : PySem.Env} {w : Sem Value} (h : okHead e = true) : attributeBase e m env w = w := by
  cases e with
  | Call f as ks p =>
    cases f with
    | Name x q =>
      cases as with
      | nil =>
        cases ks with
        | nil =>
          have hx : (x == ("super" : Str)) = false := by
            have h' : (!(x == ("super" : Str))) = true := h
            simpa using h'
          unfold attributeBase
          have h2 : (x != ("super" : Str)) = true := by
            show (!(x == ("super" : Str))) = true
            rw [hx]
            rfl
          simp only [h2, Bool.true_or, if_true]
        | cons _ _ => rfl
      | cons _ _ => rfl
    | _ => rfl
  | _ => rfl
theorem swaps_of {e : Expr} {t : Option Expr} {l : Nat} {env : PySem.Env} (h : notComp e = true) : swapsWith e t l env = pure false := by
  cases e <;> first | rfl | cases h
theorem plainTest {e : Expr} {env : PySem.Env} (h1 : okHead e = true) (h : (match e with | .UnaryOp .Not _ _ => false | .BoolOp _ _ _ => false | .IfExp _ _ _ _ => false | .Compare _ _ _ _ => false | _ => true) = true) :
    ∀ whole, isTrue e env whole = (do let v ← whole; standAt e.pos; holding [v] (truthy v)) := by
  intro whole
  cases e with
  | UnaryOp o a p => cases o <;> first | rfl | cases h
  | BoolOp _ _ _ => cases h
  | IfExp _ _ _ _ => cases h
  | Compare _ _ _ _ => cases h
  | _ => rfl
theorem folded_of {e : Expr} {env : PySem.Env} (h : okHead e = true) : ∀ x, foldedSetIterable e env x = pure x := by
  intro x
  cases e <;> first | rfl | cases h

/-! ### calls -/
/-- a def's promise where the calls around it are known to show nothing -/
structure GOk (P : Program) (w : World) (K : PySem.W.Frag) (mg : Str → Option Value) (base : Heap) (k : Nat) (f : Addr) (fd : FuncData) (ps : List Str) (sp : Sp) : Prop where
  len : ∀ vs H Q E, sp vs H Q E → vs.length = ps.length
  run : ∀ (A : Around) (outer : List PySem.Env) (s : Shared) (H : Hp) (args : Args) (us : List Value) (vs : List V) (Q : VK), A.guards = some [] → Room k A → Env0 P w K mg base A outer s H → BindsTo s fd args (ps.zip us) → Vals vs us → sp vs H Q E0 →
    codeAny (model P w) A (.call (.ref f) args) (CR CX0 outer P w H s Q E0) s
/-- what the top's def of a name is -/
structure FnF (K : PySem.W.Frag) (mg : Str → Option Value) (fn : Fn) (fa : Addr) (fd : FuncData) : Prop where
  mg : mg fn.name = some (.ref fa)
  kp : PySem.W.keepIn K (.ref fa) = true
  bp : ∀ us : List Value, us.length = fn.ps.length → bindArgs fd ⟨us, []⟩ = pure (fn.ps.zip us)
  bk : ∀ us : List Value, us.length = fn.ps.length → bindArgs fd ⟨[], fn.ps.zip us⟩ = pure (fn.ps.zip us)

def Lift (K : PySem.W.Frag) (F G : Hp) (μ : Nat → Addr) (S : Store) (x : E) (S' : Store) : VK := fun v H' => ∃ F' μ', Ext F μ S F' μ' S' ∧ Rel K F' G μ' S' H' ∧ RepE K F' μ' S' x v
inductive RepEs (K : PySem.W.Frag) (F : Hp) (μ : Nat → Addr) (S : Store) : List E → List V → Prop
  | nil : RepEs K F μ S [] []
  | cons {x : E} {xs : List E} {v : V} {vs : List V} : RepE K F μ S x v → RepEs K F μ S xs vs → RepEs K F μ S (x :: xs) (v :: vs)
theorem RepEs.mono {K : PySem.W.Frag} {F F' : Hp} {μ μ' : Nat → Addr} {S S' : Store} (e : Ext F μ S F' μ' S') : ∀ {xs : List E} {vs : List V}, RepEs K F μ S xs vs → RepEs K F' μ' S' xs vs
  | _, _, .nil => .nil
  | _, _, .cons h r => .cons (h.mono e) (RepEs.mono e r)
theorem RepEs.length {K : PySem.W.Frag} {F : Hp} {μ : Nat → Addr} {S : Store} : ∀ {xs : List E} {vs : List V}, RepEs K F μ S xs vs → xs.length = vs.length
  | _, _, .nil => rfl
  | _, _, .cons _ r => congrArg (· + 1) (RepEs.length r)
theorem RepEs.get {K : PySem.W.Frag} {F : Hp} {μ : Nat → Addr} {S : Store} : ∀ {xs : List E} {vs : List V} {i : Nat} {x : E}, RepEs K F μ S xs vs → xs[i]? = some x → ∃ v, vs[i]? = some v ∧ RepE K F μ S x v
  | _, _, _, _, .nil, h => by simp at h
  | _, _, 0, _, .cons h r, e => by
    simp at e
    subst e
    exact ⟨_, rfl, h⟩
  | _, _, i + 1, _, .cons h r, e => by
    obtain ⟨v, h1, h2⟩ := RepEs.get (i := i) r (by simpa using e)
    exact ⟨v, by simpa using h1, h2⟩
/-- the promise of the def with number f: what the tongue computes of it -/
def spD (K : PySem.W.Frag) (T : List Fn) (n k f : Nat) : Sp := fun vs H Q _ => ∃ (F G : Hp) (μ : Nat → Addr) (S : Store) (xs : List E) (x : E) (S' : Store),
  Rel K F G μ S H ∧ RepEs K F μ S xs vs ∧ xs.length = n ∧ callD T k f xs S = some (x, S') ∧ ∀ v H', Lift K F G μ S x S' v H' → Q v H'
def FnsOk (P : Program) (w : World) (K : PySem.W.Frag) (mg : Str → Option Value) (base : Heap) (T : List Fn) (k : Nat) : Prop :=
  ∀ (f : Nat) (fn : Fn), T[f]? = some fn → ∃ fa fd, FnF K mg fn fa fd ∧ GOk P w K mg base k fa fd fn.ps (spD K T fn.ps.length k f)
/-- the code object of the running def and its table -/
def LamOk (X : Cx) : Prop := ∃ c Q : Addr, LamX.TabB X.base X.mg c Q ∧ X.env.code = .ref c ∧ (Q, X.env.qual ++ "<lambda>") ∈ TabI.T ∧ ∀ p ∈ TabI.T, p.1 = Q → p.2 = X.env.qual ++ "<lambda>"
/-- the context that the proofs below stand in -/
structure Good (P : Prm) (k : Nat) (N : List Str) (sc s0 : Scope) (X : Cx) : Prop where
  hN : X.N = N
  nd : N.Nodup
  hsc : X.env.scope = sc
  own : ∀ x, s0.names.lookup x = some .cell → X.fn x = true
  calm : X.calm = true
  room : Room k X.A
  gd : X.A.guards = some []
  pass : PassesOwn (model X.prog X.w) X.A X.env X.xe
  bi : ∀ x, P.bi.contains x = true → X.mg x = none
  fns : FnsOk X.prog X.w X.K X.mg X.base P.T k
  cst : ∀ p, p ∈ P.cs → isLeaf p.2 = true → ∃ u v, X.mg p.1 = some u ∧ RelV v u ∧ ∀ F, RepP X.K F p.2 v
  lam : P.lams.contains N = true → LamOk X
section
variable {X : Cx} {pins : List (Addr × Obj)} {σ : L2.St} {H : Hp} {s : Shared} {k : Nat} {f : Addr} {fd : FuncData} {ps : List Str} {sp : Sp}
theorem run_g {us : List Value} {kw : List (Str × Value)} {ws : List Value} {vs : List V} {Q : VK} (F : GOk X.prog X.w X.K X.mg X.base k f fd ps sp) (hg : X.A.guards = some []) (hr : Room k X.A) (hb : BindsTo s fd ⟨us, kw⟩ (ps.zip ws)) (I : Inv X pins σ H s) (r : Vals vs ws) (h : sp vs H Q E0) :
    wpAny (model X.prog X.w) X.A (call (.ref f) us kw) (EP X pins σ Q) X.xe s := by
  refine wpAny_call (codeAny_mono (F.run X.A X.stack s H ⟨us, kw⟩ ws vs Q hg hr I.env0 hb r h) fun res s' hq => ?_)
  cases res with
  | error e => exact False.elim hq
  | ok fl =>
    cases fl with
    | ret u => exact I.after hq
    | next => exact False.elim hq
    | brk => exact False.elim hq
    | cont => exact False.elim hq
end
end DL
end

section
set_option autoImplicit false
set_option linter.all false
/-! Operators and built-ins: the layer's rules against the tongue's tables. -/
namespace DL
open PySem PySem.Spec PyProof.Rows L2
variable [TabI]

/-- what an operation leaves: a value that was there, a new tuple, a new list -/
inductive Res (K : PySem.W.Frag) (F H : Hp) : D → V → Hp → Prop
  | same {z : D} {u : V} : RepP K F z u → Res K F H z u H
  | tup {p : Addr} {xs : List D} {vs : List V} : H p = none → RepL K F xs vs → Res K F H (.tup xs) (.ref p) (upd H p (.tup vs))
  | lst {p : Addr} {xs : List D} {vs : List V} : H p = none → RepL K F xs vs → Res K F H (.lst xs) (.ref p) (upd H p (.lst vs))
def ResN (K : PySem.W.Frag) (F H : Hp) (xs : List D) (u : V) (H' : Hp) : Prop := ∃ (p : Addr) (vs : List V), H p = none ∧ RepL K F xs vs ∧ u = .ref p ∧ H' = upd H p (.lst vs)
/-- a new list has come -/
def LiftN (K : PySem.W.Frag) (F G : Hp) (μ : Nat → Addr) (S : Store) (xs : List D) (S' : Store) : VK := fun v H' => ∃ (F' : Hp) (μ' : Nat → Addr) (H0 : Hp), Ext F μ S F' μ' S' ∧ Rel K F' G μ' S' H0 ∧ ResN K F' H0 xs v H'
theorem LiftN.lift {K : PySem.W.Frag} {F G : Hp} {μ : Nat → Addr} {S S' : Store} {xs : List D} {v : V} {H' : Hp} (h : LiftN K F G μ S xs S' v H') : Lift K F G μ S (.d (.lst xs)) S' v H' := by
  obtain ⟨F', μ', H0, e, r, p, vs, hp, rl, rfl, rfl⟩ := h
  have x := Ext.shut (o := .lst vs) (r.free hp) S' μ'
  exact ⟨_, μ', e.trans x, r.shut hp, .lst upd_same (rl.mono x.f)⟩
theorem LiftN.open_ {K : PySem.W.Frag} {F G : Hp} {μ : Nat → Addr} {S S' : Store} {xs : List D} {v : V} {H' : Hp} (h : LiftN K F G μ S xs S' v H') : Lift K F G μ S (.r S'.length) (S' ++ [some xs]) v H' := by
  obtain ⟨F', μ', H0, e, r, p, vs, hp, rl, rfl, rfl⟩ := h
  exact ⟨F', _, e.trans (Ext.open_ F' μ' S' p xs), r.open_ hp rl, by rw [List.length_append, List.length_singleton]; omega, by rw [put_same]⟩
theorem Res.lift {K : PySem.W.Frag} {F F0 G : Hp} {μ μ0 : Nat → Addr} {S S0 : Store} {z : D} {u : V} {H H' : Hp} (h : Res K F H z u H') (e : Ext F0 μ0 S0 F μ S) (r : Rel K F G μ S H) : Lift K F0 G μ0 S0 (.d z) S u H' := by
  cases h with
  | same h => exact ⟨F, μ, e, r, h⟩
  | @tup p xs vs hp rl =>
    have x := Ext.shut (o := .tup vs) (r.free hp) S μ
    exact ⟨_, μ, e.trans x, r.shut hp, .tup (.inl (.inl upd_same)) (rl.mono x.f)⟩
  | @lst p xs vs hp rl =>
    have x := Ext.shut (o := .lst vs) (r.free hp) S μ
    exact ⟨_, μ, e.trans x, r.shut hp, .lst upd_same (rl.mono x.f)⟩
theorem fits_le {n : Nat} (h : fits n = true) : n ≤ sizeLine := by
  have h1 : n ≤ 10000000 := of_decide_eq_true h
  rw [sizeLine_eq]
  omega

/-! ### operators of two -/
def O2Sem (X : Cx) (f : Value → Value → Sem Value) (o : O2) : Prop := ∃ r : R2, OpR X f r ∧ ∀ (x y z : D), o2 o x y = some z → ∀ (F G : Hp) (μ : Nat → Addr) (S : Store) (H : Hp) (v w : V), Rel X.K F G μ S H → RepT X.K F H x v → RepT X.K F H y w → ∀ Q : VK, (∀ u H', Res X.K F H z u H' → Q u H') → r v w H Q
section
variable {X : Cx} {K : PySem.W.Frag} {F H : Hp}
theorem RepT.int {i : Int} {v : V} (h : RepT K F H (.int i) v) : v = .int i := by
  cases h with
  | p h =>
    cases h
    rfl
theorem RepT.bl {i : Bool} {v : V} (h : RepT K F H (.bl i) v) : v = .bl i := by
  cases h with
  | p h =>
    cases h
    rfl
theorem RepT.str {i : Str} {v : V} (h : RepT K F H (.str i) v) : v = .str i := by
  cases h with
  | p h =>
    cases h
    rfl
/-- two ints without a side condition -/
theorem semI0 {f : Value → Value → Sem Value} {o : O2} {g : Int → Int → V} {gd : Int → Int → D} (hr : OpR X f (rI0 g)) (ho : ∀ x y z, o2 o x y = some z → ∃ i j, x = .int i ∧ y = .int j ∧ z = gd i j) (hg : ∀ i j, ∀ F, RepP X.K F (gd i j) (g i j)) : O2Sem X f o := by
  refine ⟨_, hr, fun x y z e F G μ S H v w R rx ry Q q => ?_⟩
  obtain ⟨i, j, rfl, rfl, rfl⟩ := ho x y z e
  exact ⟨i, j, rx.int, ry.int, q _ _ (.same (hg i j F))⟩
theorem semIC {f : Value → Value → Sem Value} {o : O2} {C : Int → Int → Prop} {g : Int → Int → V} {gd : Int → Int → D} (hr : OpR X f (rI C g)) (ho : ∀ x y z, o2 o x y = some z → ∃ i j, x = .int i ∧ y = .int j ∧ C i j ∧ z = gd i j) (hg : ∀ i j, ∀ F, RepP X.K F (gd i j) (g i j)) : O2Sem X f o := by
  refine ⟨_, hr, fun x y z e F G μ S H v w R rx ry Q q => ?_⟩
  obtain ⟨i, j, rfl, rfl, hc, rfl⟩ := ho x y z e
  exact ⟨i, j, rx.int, ry.int, hc, q _ _ (.same (hg i j F))⟩
theorem op_powG : OpR X (binaryOp .Pow) (rI (fun i j => 0 ≤ j ∧ (Builtin.Int.intBits i : Int) * j ≤ 2 ^ 27) fun i j => .int (i ^ j.toNat)) := opI fun _ _ _ _ _ _ _ hc q => pow_int hc.1 hc.2 q
theorem ite_some {α : Type} {c : Bool} {x z : α} (h : (if c = true then some x else none) = some z) : c = true ∧ z = x := by
  cases c with
  | true => exact ⟨rfl, by simpa using h.symm⟩
  | false => simp at h
/-- a new list of both -/
theorem op_catG : OpR X (binaryOp .Add) rCat := op_cat
theorem i2_out {f : Int → Int → Option D} {x y z : D} (e : i2 f x y = some z) : ∃ i j, x = .int i ∧ y = .int j ∧ f i j = some z := by
  unfold i2 at e
  split at e
  · exact ⟨_, _, rfl, rfl, e⟩
  · cases e
theorem sem_add : O2Sem X (binaryOp .Add) .add := semI0 (gd := fun i j => .int (i + j)) op_add (fun x y z e => by
  obtain ⟨i, j, rfl, rfl, e⟩ := i2_out e
  exact ⟨i, j, rfl, rfl, (Option.some.inj e).symm⟩) fun _ _ _ => .int _
theorem sem_sub : O2Sem X (binaryOp .Sub) .sub := semI0 (gd := fun i j => .int (i - j)) op_sub (fun x y z e => by
  obtain ⟨i, j, rfl, rfl, e⟩ := i2_out e
  exact ⟨i, j, rfl, rfl, (Option.some.inj e).symm⟩) fun _ _ _ => .int _
theorem sem_band : O2Sem X (binaryOp .BitAnd) .band := semI0 (gd := fun i j => .int (Builtin.bitAnd i j)) op_and (fun x y z e => by
  obtain ⟨i, j, rfl, rfl, e⟩ := i2_out e
  exact ⟨i, j, rfl, rfl, (Option.some.inj e).symm⟩) fun _ _ _ => .int _
theorem sem_mul : O2Sem X (binaryOp .Mult) .mul := semIC (gd := fun i j => .int (i * j)) op_mulX (fun x y z e => by
  obtain ⟨i, j, rfl, rfl, e⟩ := i2_out e
  obtain ⟨h1, h2⟩ := ite_some e
  have h3 : (Builtin.Int.intBits i : Int) + (Builtin.Int.intBits j : Int) ≤ 134217728 := of_decide_eq_true h1
  exact ⟨i, j, rfl, rfl, h3, h2⟩) fun _ _ _ => .int _
theorem sem_fdiv : O2Sem X (binaryOp .FloorDiv) .fdiv := semIC (gd := fun i j => .int (i / j)) op_fdivW (fun x y z e => by
  obtain ⟨i, j, rfl, rfl, e⟩ := i2_out e
  obtain ⟨h1, h2⟩ := ite_some e
  rw [divOk, Bool.and_eq_true] at h1
  exact ⟨i, j, rfl, rfl, ⟨of_decide_eq_true h1.1, of_decide_eq_true h1.2⟩, h2⟩) fun _ _ _ => .int _
theorem sem_mod : O2Sem X (binaryOp .Mod) .mod := semIC (gd := fun i j => .int (i % j)) op_mod (fun x y z e => by
  obtain ⟨i, j, rfl, rfl, e⟩ := i2_out e
  obtain ⟨h1, h2⟩ := ite_some e
  exact ⟨i, j, rfl, rfl, of_decide_eq_true h1, h2⟩) fun _ _ _ => .int _
theorem sem_pow : O2Sem X (binaryOp .Pow) .pow := semIC (gd := fun i j => .int (i ^ j.toNat)) op_powG (fun x y z e => by
  obtain ⟨i, j, rfl, rfl, e⟩ := i2_out e
  obtain ⟨h1, h2⟩ := ite_some e
  rw [powOk, Bool.and_eq_true] at h1
  exact ⟨i, j, rfl, rfl, ⟨of_decide_eq_true h1.1, of_decide_eq_true h1.2⟩, h2⟩) fun _ _ _ => .int _
theorem sem_shl : O2Sem X (binaryOp .LShift) .shl := semIC (gd := fun i j => .int (i * 2 ^ j.toNat)) op_shl (fun x y z e => by
  obtain ⟨i, j, rfl, rfl, e⟩ := i2_out e
  obtain ⟨h1, h2⟩ := ite_some e
  rw [shlOk, Bool.and_eq_true, Bool.and_eq_true] at h1
  exact ⟨i, j, rfl, rfl, ⟨of_decide_eq_true h1.1.1, of_decide_eq_true h1.1.2, of_decide_eq_true h1.2⟩, h2⟩) fun _ _ _ => .int _
theorem sem_shr : O2Sem X (binaryOp .RShift) .shr := semIC (gd := fun i j => .int (i / 2 ^ j.toNat)) op_shr (fun x y z e => by
  obtain ⟨i, j, rfl, rfl, e⟩ := i2_out e
  obtain ⟨h1, h2⟩ := ite_some e
  exact ⟨i, j, rfl, rfl, of_decide_eq_true h1, h2⟩) fun _ _ _ => .int _
theorem sem_catS : O2Sem X (binaryOp .Add) .catS := by
  refine ⟨_, op_add_str, fun x y z e F G μ S H v w R rx ry Q q => ?_⟩
  have e2 : s2 x y = some z := e
  clear e
  unfold s2 at e2
  split at e2
  · obtain ⟨h1, rfl⟩ := ite_some e2
    exact ⟨_, _, rx.str, ry.str, fits_le h1, q _ _ (.same (.str _))⟩
  · cases e2
theorem sem_catT : O2Sem X (binaryOp .Add) .catT := by
  refine ⟨_, op_catA, fun x y z e F G μ S H v w R rx ry Q q => ?_⟩
  have e2 : t2 x y = some z := e
  clear e
  unfold t2 at e2
  split at e2
  · rename_i xs ys
    obtain ⟨h1, rfl⟩ := ite_some e2
    cases rx with
    | p hx =>
      cases ry with
      | p hy =>
        cases hx with
        | @tup a _ vs sx lx =>
          cases hy with
          | @tup b _ ws sy ly =>
            have k1 := lx.length
            have k2 := ly.length
            refine ⟨a, b, vs, ws, rfl, rfl, R.fr.sqT sx, R.fr.sqT sy, fits_le (by rw [← k1, ← k2]; exact h1), fun e0 => ?_, fun e0 e1 => ?_, fun e0 e1 p hp => ?_⟩
            · have z : xs = [] := List.eq_nil_of_length_eq_zero (by rw [k1, e0]; rfl)
              subst z
              exact q _ _ (.same (.tup sy ly))
            · have z : ys = [] := List.eq_nil_of_length_eq_zero (by rw [k2, e1]; rfl)
              subst z
              exact q _ _ (.same (by rw [List.append_nil]; exact .tup sx lx))
            · exact q _ _ (.tup hp (lx.append ly))
  · cases e2
theorem catL_sem {xs ys zs : List D} (e : l2 (.lst xs) (.lst ys) = some (.lst zs)) {F G : Hp} {μ : Nat → Addr} {S : Store} {H : Hp} {v w : V} (R : Rel X.K F G μ S H) (rx : RepT X.K F H (.lst xs) v) (ry : RepT X.K F H (.lst ys) w) {Q : VK} (q : ∀ u H', ResN X.K F H zs u H' → Q u H') : rCat v w H Q := by
  obtain ⟨h1, h2⟩ := ite_some e
  cases h2
  obtain ⟨a, vs, rfl, sx, lx⟩ := rx.lst R.fr
  obtain ⟨b, ws, rfl, sy, ly⟩ := ry.lst R.fr
  exact ⟨a, b, vs, ws, rfl, rfl, sx, sy, fits_le (by rw [← lx.length, ← ly.length]; exact h1), fun p hp => q _ _ ⟨p, _, hp, lx.append ly, rfl, rfl⟩⟩
theorem repL_sem {xs zs : List D} {k : Int} (e : r2 (.lst xs) (.int k) = some (.lst zs)) {F G : Hp} {μ : Nat → Addr} {S : Store} {H : Hp} {v w : V} (R : Rel X.K F G μ S H) (rx : RepT X.K F H (.lst xs) v) (ry : RepT X.K F H (.int k) w) {Q : VK} (q : ∀ u H', ResN X.K F H zs u H' → Q u H') : rRep v w H Q := by
  obtain ⟨h1, h2⟩ := ite_some e
  cases h2
  obtain ⟨a, vs, rfl, sx, lx⟩ := rx.lst R.fr
  rw [Bool.and_eq_true] at h1
  have hk : k.natAbs < 2 ^ 62 := of_decide_eq_true h1.2
  have h62 : (2 : Nat) ^ 62 = 4611686018427387904 := by decide
  have h63 : (2 : Int) ^ 63 = 9223372036854775808 := by decide
  refine ⟨a, k, vs, rfl, ry.int, sx, ?_, ?_, fits_le (by rw [← lx.length]; exact h1.1), fun p hp => q _ _ ⟨p, _, hp, lx.rep _, rfl, rfl⟩⟩
  · omega
  · omega
theorem catL_out {x y z : D} (e : l2 x y = some z) : ∃ xs ys zs, x = .lst xs ∧ y = .lst ys ∧ z = .lst zs := by
  unfold l2 at e
  split at e
  · obtain ⟨_, rfl⟩ := ite_some e
    exact ⟨_, _, _, rfl, rfl, rfl⟩
  · cases e
theorem repL_out {x y z : D} (e : r2 x y = some z) : ∃ xs k zs, x = .lst xs ∧ y = .int k ∧ z = .lst zs := by
  unfold r2 at e
  split at e
  · obtain ⟨_, rfl⟩ := ite_some e
    exact ⟨_, _, _, rfl, rfl, rfl⟩
  · cases e
theorem sem_catL : O2Sem X (binaryOp .Add) .catL := by
  refine ⟨_, op_cat, fun x y z e F G μ S H v w R rx ry Q q => ?_⟩
  obtain ⟨xs, ys, zs, rfl, rfl, rfl⟩ := catL_out e
  exact catL_sem e R rx ry fun u H' ⟨p, vs, hp, rl, e1, e2⟩ => by
    subst e1 e2
    exact q _ _ (.lst hp rl)
theorem sem_repL : O2Sem X (binaryOp .Mult) .repL := by
  refine ⟨_, op_rep, fun x y z e F G μ S H v w R rx ry Q q => ?_⟩
  obtain ⟨xs, k, zs, rfl, rfl, rfl⟩ := repL_out e
  exact repL_sem e R rx ry fun u H' ⟨p, vs, hp, rl, e1, e2⟩ => by
    subst e1 e2
    exact q _ _ (.lst hp rl)
theorem bin_sem {o : O2} {op : Operator} (h : binIs o op = true) : O2Sem X (binaryOp op) o := by
  cases o with
  | add => cases op with
    | Add => exact sem_add
    | _ => cases h
  | sub => cases op with
    | Sub => exact sem_sub
    | _ => cases h
  | mul => cases op with
    | Mult => exact sem_mul
    | _ => cases h
  | fdiv => cases op with
    | FloorDiv => exact sem_fdiv
    | _ => cases h
  | mod => cases op with
    | Mod => exact sem_mod
    | _ => cases h
  | pow => cases op with
    | Pow => exact sem_pow
    | _ => cases h
  | shl => cases op with
    | LShift => exact sem_shl
    | _ => cases h
  | shr => cases op with
    | RShift => exact sem_shr
    | _ => cases h
  | band => cases op with
    | BitAnd => exact sem_band
    | _ => cases h
  | catT => cases op with
    | Add => exact sem_catT
    | _ => cases h
  | catL => cases op with
    | Add => exact sem_catL
    | _ => cases h
  | catS => cases op with
    | Add => exact sem_catS
    | _ => cases h
  | repL => cases op with
    | Mult => exact sem_repL
    | _ => cases h
  | eq => cases op <;> cases h
  | ne => cases op <;> cases h
  | lt => cases op <;> cases h
  | le => cases op <;> cases h
  | gt => cases op <;> cases h
  | ge => cases op <;> cases h
  | isIn => cases op <;> cases h
  | notIn => cases op <;> cases h
  | isInD => cases op <;> cases h
  | notInD => cases op <;> cases h
/-! comparisons -/
theorem sem_lt : O2Sem X (compareOp .Lt) .lt := semI0 (gd := fun i j => .bl (decide (i < j))) op_lt (fun x y z e => by
  obtain ⟨i, j, rfl, rfl, e⟩ := i2_out e
  exact ⟨i, j, rfl, rfl, (Option.some.inj e).symm⟩) fun _ _ _ => .bl _
theorem sem_le : O2Sem X (compareOp .LtE) .le := semI0 (gd := fun i j => .bl (decide (i ≤ j))) op_le (fun x y z e => by
  obtain ⟨i, j, rfl, rfl, e⟩ := i2_out e
  exact ⟨i, j, rfl, rfl, (Option.some.inj e).symm⟩) fun _ _ _ => .bl _
theorem sem_gt : O2Sem X (compareOp .Gt) .gt := semI0 (gd := fun i j => .bl (decide (j < i))) op_gt (fun x y z e => by
  obtain ⟨i, j, rfl, rfl, e⟩ := i2_out e
  exact ⟨i, j, rfl, rfl, (Option.some.inj e).symm⟩) fun _ _ _ => .bl _
theorem sem_ge : O2Sem X (compareOp .GtE) .ge := semI0 (gd := fun i j => .bl (decide (j ≤ i))) op_ge (fun x y z e => by
  obtain ⟨i, j, rfl, rfl, e⟩ := i2_out e
  exact ⟨i, j, rfl, rfl, (Option.some.inj e).symm⟩) fun _ _ _ => .bl _
theorem sem_eq (hu : X.A.units + 64 < cLine) : O2Sem X (compareOp .Eq) .eq := by
  refine ⟨_, op_eqD hu, fun x y z e F G μ S H v w R rx ry Q q => ?_⟩
  obtain ⟨h1, rfl⟩ := ite_some e
  rw [Bool.and_eq_true, eqOk, eqOk, Bool.and_eq_true, Bool.and_eq_true] at h1
  exact ⟨x.py, y.py, (rx.now R).dp h1.1.1, (ry.now R).dp h1.2.1, h1.1.2, h1.2.2, q _ _ (.same (.bl _))⟩
theorem sem_ne (hu : X.A.units + 64 < cLine) : O2Sem X (compareOp .NotEq) .ne := by
  refine ⟨_, op_neD hu, fun x y z e F G μ S H v w R rx ry Q q => ?_⟩
  obtain ⟨h1, rfl⟩ := ite_some e
  rw [Bool.and_eq_true, eqOk, eqOk, Bool.and_eq_true, Bool.and_eq_true] at h1
  exact ⟨x.py, y.py, (rx.now R).dp h1.1.1, (ry.now R).dp h1.2.1, h1.1.2, h1.2.2, q _ _ (.same (.bl _))⟩
theorem leaf_flat {x : D} {v : V} (h : RepP K F x v) (l : isLeaf x = true) : flatV v = true := by
  cases h <;> first | rfl | cases l
theorem beq_swap (p q : Int) : (p == q) = decide (q = p) := by
  by_cases h : q = p
  · subst h
    simp
  · rw [decide_eq_false h]
    exact beq_eq_false_iff_ne.mpr fun z => h z.symm
theorem beq_dec {α : Type} [BEq α] [LawfulBEq α] [DecidableEq α] (p q : α) : (p == q) = decide (p = q) := by
  by_cases h : p = q
  · subst h
    simp
  · rw [decide_eq_false h]
    exact beq_eq_false_iff_ne.mpr h
theorem leaf_eq {x y : D} {v w : V} (h : RepP K F x v) (k : RepP K F y w) (l : isLeaf x = true) (m : isLeaf y = true) : eqV v w = eqLeaf x y := by
  cases h with
  | non => cases k <;> first | rfl | cases m
  | bl a => cases k with
    | int b => exact beq_swap _ _
    | _ => first | rfl | cases m
  | int a => cases k with
    | int b => exact beq_dec a b
    | bl b => exact beq_dec a _
    | _ => first | rfl | cases m
  | str a => cases k with
    | str b => exact beq_dec a b
    | _ => first | rfl | cases m
  | tup _ _ => cases l
  | lst _ _ => cases l
  | scr _ _ => cases l
  | dct _ _ => cases l
theorem leaves_flat : ∀ {xs : List D} {vs : List V}, RepL K F xs vs → xs.all isLeaf = true → vs.all flatV = true
  | _, _, .nil, _ => rfl
  | _, _, .cons h r, l => by
    rw [List.all_cons, Bool.and_eq_true] at l
    rw [List.all_cons, leaf_flat h l.1, leaves_flat r l.2]
    rfl
theorem leaves_in {x : D} {v : V} (h : RepP K F x v) (l : isLeaf x = true) : ∀ {xs : List D} {vs : List V}, RepL K F xs vs → xs.all isLeaf = true → inV v vs = memD x xs
  | _, _, .nil, _ => rfl
  | _, _, .cons k r, m => by
    rw [List.all_cons, Bool.and_eq_true] at m
    show (eqV _ v || inV v _) = (eqLeaf _ x || memD x _)
    rw [leaf_eq k h m.1 l, leaves_in h l r m.2]
theorem sem_in : O2Sem X (compareOp .In) .isIn := by
  refine ⟨_, op_in_seq, fun x y z e F G μ S H v w R rx ry Q q => ?_⟩
  have go : ∀ ys : List D, (y = .lst ys ∨ y = .tup ys) → (if memOk x ys = true then some (D.bl (memD x ys)) else none) = some z → rIn X.K false v w H Q := fun ys hy e => by
    obtain ⟨h1, rfl⟩ := ite_some e
    rw [memOk, Bool.and_eq_true] at h1
    have hx : RepP X.K F x v := by
      cases rx with
      | p h => exact h
      | l _ _ => cases h1.1
    rcases hy with rfl | rfl
    · obtain ⟨a, vs, rfl, sy, ly⟩ := ry.lst R.fr
      refine ⟨a, vs, rfl, .inl (.inl (.inl sy)), leaf_flat hx h1.1, leaves_flat ly h1.2, ?_⟩
      rw [leaves_in hx h1.1 ly h1.2]
      exact q _ _ (.same (.bl _))
    · obtain ⟨a, vs, rfl, sy, ly⟩ := ry.sqT R.fr
      refine ⟨a, vs, rfl, .inr sy, leaf_flat hx h1.1, leaves_flat ly h1.2, ?_⟩
      rw [leaves_in hx h1.1 ly h1.2]
      exact q _ _ (.same (.bl _))
  cases y with
  | lst ys => exact go ys (.inl rfl) e
  | tup ys => exact go ys (.inr rfl) e
  | _ => cases e
theorem sem_notIn : O2Sem X (compareOp .NotIn) .notIn := by
  refine ⟨_, op_notIn_seq, fun x y z e F G μ S H v w R rx ry Q q => ?_⟩
  have go : ∀ ys : List D, (y = .lst ys ∨ y = .tup ys) → (if memOk x ys = true then some (D.bl (!memD x ys)) else none) = some z → rIn X.K true v w H Q := fun ys hy e => by
    obtain ⟨h1, rfl⟩ := ite_some e
    rw [memOk, Bool.and_eq_true] at h1
    have hx : RepP X.K F x v := by
      cases rx with
      | p h => exact h
      | l _ _ => cases h1.1
    rcases hy with rfl | rfl
    · obtain ⟨a, vs, rfl, sy, ly⟩ := ry.lst R.fr
      refine ⟨a, vs, rfl, .inl (.inl (.inl sy)), leaf_flat hx h1.1, leaves_flat ly h1.2, ?_⟩
      rw [leaves_in hx h1.1 ly h1.2]
      exact q _ _ (.same (.bl _))
    · obtain ⟨a, vs, rfl, sy, ly⟩ := ry.sqT R.fr
      refine ⟨a, vs, rfl, .inr sy, leaf_flat hx h1.1, leaves_flat ly h1.2, ?_⟩
      rw [leaves_in hx h1.1 ly h1.2]
      exact q _ _ (.same (.bl _))
  cases y with
  | lst ys => exact go ys (.inl rfl) e
  | tup ys => exact go ys (.inr rfl) e
  | _ => cases e
theorem pys_any (x : D) : ∀ ys : List D, ((D.pys ys).any fun z => PyData.eqv z x.py) = (ys.any fun z => eqD z x)
  | [] => by
    rw [D.pys]
    rfl
  | y :: ys => by
    rw [D.pys, List.any_cons, List.any_cons, pys_any x ys]
    rfl
theorem sem_inD (hu : X.A.units + 65 < cLine) : O2Sem X (compareOp .In) .isInD := by
  refine ⟨_, op_inD hu, fun x y z e F G μ S H v w R rx ry Q q => ?_⟩
  cases y with
  | lst ys =>
    obtain ⟨h1, h2⟩ := ite_some (show (if (eqOk x && eqOk (.lst ys)) = true then some (D.bl (false != (ys.any fun z => eqD z x))) else none) = some z from e)
    subst h2
    obtain ⟨ox, oy⟩ := Bool.and_eq_true_iff.mp h1
    obtain ⟨fx, sx⟩ := Bool.and_eq_true_iff.mp ox
    obtain ⟨fy, sy⟩ := Bool.and_eq_true_iff.mp oy
    have dy : Dp X.K H w (.list (D.pys ys)) := by
      have z := (ry.now R).dp fy
      rwa [D.py] at z
    have sy' : SeqAt.shaped (.list (D.pys ys)) = true := by
      rwa [D.py] at sy
    refine ⟨x.py, D.pys ys, (rx.now R).dp fx, dy, sx, sy', ?_⟩
    have e2 : ((D.pys ys).any fun z => PyData.eqv z x.py) = (ys.any fun z => eqD z x) := pys_any x ys
    rw [e2]
    have := q (.bl (ys.any fun z => eqD z x)) H
    exact this (by simpa using (Res.same (.bl _) : Res X.K F H (.bl (ys.any fun z => eqD z x)) (.bl _) H))
  | _ => cases e
theorem sem_notInD (hu : X.A.units + 65 < cLine) : O2Sem X (compareOp .NotIn) .notInD := by
  refine ⟨_, op_notInD hu, fun x y z e F G μ S H v w R rx ry Q q => ?_⟩
  cases y with
  | lst ys =>
    obtain ⟨h1, h2⟩ := ite_some (show (if (eqOk x && eqOk (.lst ys)) = true then some (D.bl (true != (ys.any fun z => eqD z x))) else none) = some z from e)
    subst h2
    obtain ⟨ox, oy⟩ := Bool.and_eq_true_iff.mp h1
    obtain ⟨fx, sx⟩ := Bool.and_eq_true_iff.mp ox
    obtain ⟨fy, sy⟩ := Bool.and_eq_true_iff.mp oy
    have dy : Dp X.K H w (.list (D.pys ys)) := by
      have z := (ry.now R).dp fy
      rwa [D.py] at z
    have sy' : SeqAt.shaped (.list (D.pys ys)) = true := by
      rwa [D.py] at sy
    refine ⟨x.py, D.pys ys, (rx.now R).dp fx, dy, sx, sy', ?_⟩
    have e2 : ((D.pys ys).any fun z => PyData.eqv z x.py) = (ys.any fun z => eqD z x) := pys_any x ys
    rw [e2]
    have := q (.bl (!(ys.any fun z => eqD z x))) H
    exact this (by simpa using (Res.same (.bl _) : Res X.K F H (.bl (!(ys.any fun z => eqD z x))) (.bl _) H))
  | _ => cases e
theorem cmp_sem (hu : X.A.units + 65 < cLine) {o : O2} {op : CmpOp} (h : cmpIs o op = true) : O2Sem X (compareOp op) o := by
  cases o with
  | eq => cases op with
    | Eq => exact sem_eq (by omega)
    | _ => cases h
  | ne => cases op with
    | NotEq => exact sem_ne (by omega)
    | _ => cases h
  | lt => cases op with
    | Lt => exact sem_lt
    | _ => cases h
  | le => cases op with
    | LtE => exact sem_le
    | _ => cases h
  | gt => cases op with
    | Gt => exact sem_gt
    | _ => cases h
  | ge => cases op with
    | GtE => exact sem_ge
    | _ => cases h
  | isIn => cases op with
    | In => exact sem_in
    | _ => cases h
  | notIn => cases op with
    | NotIn => exact sem_notIn
    | _ => cases h
  | isInD => cases op with
    | In => exact sem_inD hu
    | _ => cases h
  | notInD => cases op with
    | NotIn => exact sem_notInD hu
    | _ => cases h
  | add => cases op <;> cases h
  | sub => cases op <;> cases h
  | mul => cases op <;> cases h
  | fdiv => cases op <;> cases h
  | mod => cases op <;> cases h
  | pow => cases op <;> cases h
  | shl => cases op <;> cases h
  | shr => cases op <;> cases h
  | band => cases op <;> cases h
  | catT => cases op <;> cases h
  | catL => cases op <;> cases h
  | catS => cases op <;> cases h
  | repL => cases op <;> cases h
end
end DL
end

section
set_option autoImplicit false
set_option linter.all false
set_option maxRecDepth 100000
/-! A lambda of one parameter over a captured list of pairs: what its call computes. -/
namespace DL
open PySem PySem.Spec PyProof.Rows L2 LamX
/-- the key: lambda at: (0 - rows[at][1], at) -/
def keyBody (rv av : Str) (p1 p2 p3 p4 p5 p6 p7 p8 p9 : Pos) (j1 j2 j3 : Nat) : Expr :=
  .Tuple [.BinOp (.Constant (.int 0) j1 p1) .Sub (.Subscript (.Subscript (.Name rv p2) (.Name av p3) p4) (.Constant (.int 1) j2 p5) p6) p7, .Name av p8] j3 p9
section
variable {prog : Program} {w : World} {A : Around} {s : Shared} {env : PySem.Env}
theorem key_eval {rv av : Str} {p1 p2 p3 p4 p5 p6 p7 p8 p9 : Pos} {j1 j2 j3 : Nat} {i : Nat} {ti tr : Tok} {rest : Int} {a0 : Value} {r t cc : Addr} {items : Array Value} {m : Str → Option Value} {E : Value → Shared → Prop}
    (hk : env.scope.kind = .function) (hr : env.kindOf rv = some .free) (ha : env.kindOf av = some .local) (hc : env.cells.lookup rv = some cc) (hcell : s.heap.IsCell cc (some (.ref r)))
    (hns : s.heap.Ns env.locals m) (hm : m av = some (.int (i : Int) ti)) (hl : s.heap.IsList r items) (hi : items[i]? = some (.ref t)) (hfit : i < 1000000) (ht : IsTup s.heap t #[a0, .int rest tr])
    (hd1 : (rv == ("__debug__" : Str)) = false) (hd2 : (av == ("__debug__" : Str)) = false) (hd3 : (rv == ("__classdict__" : Str)) = false) :
    wpAny (model prog w) A (eval (keyBody rv av p1 p2 p3 p4 p5 p6 p7 p8 p9 j1 j2 j3) env) (PySem.W.KeyPure (.tuple [.int (0 - rest), .int (i : Int)]) s) E s := by
  have h63 : (1000000 : Int) < 2 ^ 63 := by decide
  refine wpAny_Tuple ?_
  show wpAny _ _ (spliced ((false, eval (.BinOp (.Constant (.int 0) j1 p1) .Sub (.Subscript (.Subscript (.Name rv p2) (.Name av p3) p4) (.Constant (.int 1) j2 p5) p6) p7) env) :: backTo p9 (starEach [.Name av p8] env))) _ _ s
  refine Calls.spliced_cons (wpAny_BinOp (wpAny_Constant_int ?_))
  refine Subscript_ (Subscript_ (wpAny_Name (wpAny_loadName_free hk hr hc hcell (wpAny_Name (wpAny_loadName_local hk ha hns hm ?_) hd2) hd3) hd1))
  refine item_listR hl (by omega) (by omega) (x := .ref t) (by simpa using hi) ?_
  refine wpAny_Constant_int ?_
  refine subscriptTail_builtinR (x := .int rest tr) ht.typeIs slot_tuple_getitem.lookup
    (getItem_tuple (j := 1) (Q := fun r s' => r = .int rest tr ∧ _) ht (by decide) (by decide) (by rfl) (by simp) ⟨rfl, ?_⟩) (by with_unfolding_all rfl)
  refine sub_int ?_
  show wpAny _ _ (spliced ((false, eval (.Name av p8) env) :: backTo p9 (starEach [] env))) _ _ _
  refine Calls.spliced_cons (wpAny_Name (wpAny_loadName_local hk ha hns hm ?_) hd2)
  refine Calls.spliced_nil ⟨by rw [sizeLine_eq]; exact (by decide : 2 ≤ 16777216), ?_⟩
  refine ⟨_, _, rfl, fun b o e => Heap.get?_push_of_some _ e, ?_⟩
  refine .tuple (Heap.get?_push_size _ rfl) rfl rfl ?_
  exact .cons (.int _ _) (.cons (.int _ _) .nil)
theorem KeyPure.after {k : PyData} {s1 : Shared} {h' : Heap} {tk : Nat} {v : Value} {s2 : Shared} (e : ∀ b o, s1.heap.get? b = some o → h'.get? b = some o) (h : PySem.W.KeyPure k { s1 with heap := h', toks := tk } v s2) : PySem.W.KeyPure k s1 v s2 := by
  obtain ⟨h2, t2, rfl, k2, r⟩ := h
  exact ⟨h2, t2, rfl, fun b o q => k2 b o (e b o q), r⟩
theorem key_call {rv av q : Str} {p1 p2 p3 p4 p5 p6 p7 p8 p9 : Pos} {j1 j2 j3 : Nat} {i : Nat} {ti tr : Tok} {rest : Int} {a0 pm ctv : Value} {r t cc f c' : Addr} {items : Array Value} {params : Arguments} {scope : Scope} {cl : List (Str × Addr)} {E : Value → Shared → Prop}
    (hroom : A.depth < recursionLimit) (hf : s.heap.get? f = some (PySem.W.kla_obj "<lambda>" q params (keyBody rv av p1 p2 p3 p4 p5 p6 p7 p8 p9 j1 j2 j3) scope cl pm c' ctv)) (hkind : scope.kind = .function) (hco : scope.isCoroutine = false) (hgen : scope.isGenerator = false)
    (hcd : s.heap.CodeRec (.ref c') q) (hbind : bindArgs (PySem.W.kla_fn "<lambda>" q params (keyBody rv av p1 p2 p3 p4 p5 p6 p7 p8 p9 j1 j2 j3) scope cl pm (.ref c') ctv) ⟨[.int (i : Int) ti], []⟩ = pure [(av, .int (i : Int) ti)])
    (hnc : ∀ x ∈ scope.names, x.2 ≠ .cell) (hr : scope.names.lookup rv = some .free) (ha : scope.names.lookup av = some .local) (hlim : s.heap.NoLimit)
    (hc : cl.lookup rv = some cc) (hcell : s.heap.IsCell cc (some (.ref r))) (hl : s.heap.IsList r items) (hi : items[i]? = some (.ref t)) (hfit : i < 1000000) (ht : IsTup s.heap t #[a0, .int rest tr])
    (hd1 : (rv == ("__debug__" : Str)) = false) (hd2 : (av == ("__debug__" : Str)) = false) (hd3 : (rv == ("__classdict__" : Str)) = false) :
    wpAny (model prog w) A (call (.ref f) [.int (i : Int) ti]) (PySem.W.KeyPure (.tuple [.int (0 - rest), .int (i : Int)]) s) E s := by
  refine wpAny_call ?_
  refine PySem.W.kla_callFunE hroom hf rfl hco hgen rfl hcd ?_
  rw [hbind]
  refine wpAny_pure (wpAny_newFunctionEnv hnc (fun x hx => ?_) (fun h1 hns hsb => ⟨hlim.fresh _ hsb, ?_⟩) hkind)
  · rw [List.mem_singleton] at hx
    subst hx
    exact ha
  · have kp : ∀ b o, s.heap.get? b = some o → h1.get? b = some o := fun b o e => hsb.extBut b o (Nat.ne_of_lt (Heap.lt_size e)) (Heap.get?_push_of_some _ e)
    show codeAny _ _ (.expr (keyBody rv av p1 p2 p3 p4 p5 p6 p7 p8 p9 j1 j2 j3) (PySem.W.envX q scope s.heap.objs.size f (.ref c') cl)) _ _
    obtain ⟨oc, hoc, hdc⟩ := hcell
    obtain ⟨ol, hol, hcl, n, hdl⟩ := hl
    have ht1 : IsTup h1 t #[a0, .int rest tr] := by
      obtain ⟨ot, hot, r2⟩ := ht
      exact ⟨ot, kp _ _ hot, r2⟩
    have hm : (fun x => ([(av, Value.int (i : Int) ti)] : List (Str × Value)).reverse.lookup x) av = some (.int (i : Int) ti) := by simp
    refine PySem.W.kla_codeExpr (wpAny_mono (key_eval (s := { s with heap := h1, toks := s.toks + ([(av, Value.int (i : Int) ti)] : List (Str × Value)).length }) hkind hr ha hc ⟨oc, kp _ _ hoc, hdc⟩ hns hm ⟨ol, kp _ _ hol, hcl, n, hdl⟩ hi hfit ht1 hd1 hd2 hd3) (fun v s' hq => KeyPure.after kp hq) fun e s' hq => hq)
end
end DL
end

section
set_option autoImplicit false
set_option linter.all false
set_option maxRecDepth 100000
/-! sorted(range(n), key=f): the places by pairs of ints. -/
namespace DL
open PySem PySem.Spec PyProof.Rows L2 LamX PySem.W
section
variable {prog : Program} {w : World} {A : Around} {s : Shared}
theorem each_rng {acc : List Value} {n : Nat} (hl : acc.length = n) (hi : ∀ (j : Nat) (u : Value), acc[j]? = some u → ∃ t, u = .int (j : Int) t) : EachIs (fun (v : Value) (i : Nat) => ∃ t, v = .int (i : Int) t) acc (List.range n) := by
  have go : ∀ (l : List Value) (k : Nat), (∀ (j : Nat) (u : Value), l[j]? = some u → ∃ t, u = .int ((k + j : Nat) : Int) t) → EachIs (fun (v : Value) (i : Nat) => ∃ t, v = .int (i : Int) t) l (List.range' k l.length) := by
    intro l
    induction l with
    | nil => exact fun _ _ => .nil
    | cons x l ih =>
      intro k h
      rw [List.length_cons, List.range'_succ]
      refine .cons (by simpa using h 0 x rfl) (ih (k + 1) fun j u hj => ?_)
      have := h (j + 1) u (by simpa using hj)
      rw [show k + 1 + j = k + (j + 1) by omega]
      exact this
  rw [List.range_eq_range', ← hl]
  exact go acc 0 fun j u hj => by simpa using hi j u hj
theorem sorted_rng {r f : Addr} {n : Nat} {t u v : Tok} {kx ky : Nat → Int} {E : Value → Shared → Prop} {Q : Value → Shared → Prop} (hh : A.handled = none) (hr : IsRange s.heap r 0 (n : Int) 1 t u v) (hn : n < 1000000) (hu : A.units + 66 < cLine)
    (turn : ∀ (i : Nat) (ti : Tok), i < n → ∀ (h : Heap) (tk : Nat), (∀ b o, s.heap.get? b = some o → h.get? b = some o) →
      wpAny (model prog w) A.in1.in1 (call (.ref f) [.int (i : Int) ti]) (KeyPure (.tuple [.int (kx i), .int (ky i)]) { s with heap := h, toks := tk }) (fun _ _ => False) { s with heap := h, toks := tk })
    (h : ∀ (h1 : Heap) (out : List Value) (c : Nat) (h' : Heap) (tk : Nat), (∀ b o, s.heap.get? b = some o → h1.get? b = some o) → (∀ b o, h1.get? b = some o → h'.get? b = some o) → h'.get? h1.objs.size = some (seqObj "list" out.toArray c) →
      EachIs (fun (v : Value) (i : Nat) => ∃ t, v = .int (i : Int) t) out ((List.range n).mergeSort fun p q => decide (kx p < kx q ∨ (kx p = kx q ∧ ky p ≤ ky q))) → Q (.ref h1.objs.size) { s with heap := h', toks := tk }) :
    wpAny (model prog w) A (call (.builtin "sorted") [.ref r] [(Str.ofString "key", .ref f)]) Q E s := by
  refine call_function_entry_kw kind_sorted plain_sorted entry_sorted (ksk_s1 _ _) ?_
  unfold Builtin.«sorted»
  refine wpAny_bind (m := checkCount "sorted" 1 1 _) (wpAny_pure ?_)
  have hsz : Builtin.Range.rangeSize 0 (n : Int) 1 = n := by
    rw [rangeSize_nat]
    omega
  have hsm : Builtin.Range.small 0 (n : Int) 1 = true := by
    have h62 : (1000000 : Int) < 2 ^ 62 := by decide
    exact small_one (by omega) (by omega) (by omega) (by omega)
  refine wpAny_bind (collect_range hh hr hsm hsz (by omega) fun h1 tk1 acc hk hi => ?_)
  have hL : acc.toList.length = n := by rw [Array.length_toList]; exact hi.1
  refine wpAny_bind (wpAny_newList ?_ (by rw [hL, sizeLine_eq]; omega))
  have e := each_rng hL fun j u hj => by
    obtain ⟨t, rfl⟩ := hi.2 j u (by rw [← hj, Array.getElem?_toList])
    have e0 : (0 : Int) + (j : Int) * 1 = (j : Int) := by omega
    exact ⟨t, by rw [e0]⟩
  have ho : (h1.push { cls := .type "list", data := .seq acc.toList.toArray }).get? h1.objs.size = some (seqObj "list" acc.toList.toArray 0) := Heap.get?_push_size _ rfl
  refine wpAny_bind (wpAny_holding (list_sort_key_data (b := false) (β := Nat) (fun i => .tuple [.int (kx i), .int (ky i)]) (s := { s with heap := h1.push { cls := .type "list", data := .seq acc.toList.toArray }, toks := tk1 }) ho e (AllAlike.of fun _ _ => by simp [alike, alikeAll]) (Sortable.tuples fun _ => ⟨_, _, rfl⟩) (by rw [List.length_range, sizeLine_eq]; omega) (fun i _ => ?_) (ksk_l1 _ _) (ksk_t1 _ _)
    (fun v i ⟨ti, hv⟩ hi' h2 tk kp => ?_) fun out c h' tk kp hD _ eo => ?_))
  · have hd : (PyData.tuple [.int (kx i), .int (ky i)]).depth = 1 := by simp [PyData.depth, PyData.depthAll]
    rw [hd]
    have : A.in1.units = A.units + 1 := rfl
    omega
  · subst hv
    exact turn i ti (List.mem_range.mp hi') h2 tk fun b o q => kp b o (Nat.ne_of_lt (Heap.lt_size (hk b o q))) (Heap.get?_push_of_some _ (hk b o q))
  · rw [dataLe_ii (β := Nat) kx ky] at eo
    exact wpAny_pure ⟨_, rfl, h h1 out c h' tk hk (fun b o q => kp b o (Nat.ne_of_lt (Heap.lt_size q)) (Heap.get?_push_of_some _ q)) hD eo⟩
end
end DL
end

section
set_option autoImplicit false
set_option linter.all false
set_option maxRecDepth 100000
/-! sorted(range(n), key=lambda at: (0 - rows[at][1], at)) in a def whose name rows is captured. -/
namespace DL
open PySem PySem.Spec PyProof.Rows L2 LamX NdefX
variable [TabI]
theorem extN_rd {H H' : Hp} (e : ExtN H H') {a : Addr} {o : HO} (hn : ∀ ps, o ≠ .tbl ps) (h : Rd H a o) : Rd H' a o := by
  rcases h with h | ⟨ob, h⟩
  · exact .inl (e _ _ h hn)
  · exact .inr ⟨ob, e _ _ h fun ps z => by cases z⟩
theorem extN_sqL {K : PySem.W.Frag} {H H' : Hp} (e : ExtN H H') {a : Addr} {xs : List V} (h : SqL K H a xs) : SqL K H' a xs := h.imp (extN_rd e fun ps z => by cases z) id
theorem extN_sqT {K : PySem.W.Frag} {H H' : Hp} (e : ExtN H H') {a : Addr} {xs : List V} (h : SqT K H a xs) : SqT K H' a xs := h.imp (extN_rd e fun ps z => by cases z) id
/-- what the tongue's term for it asks -/
def SrtAt (T : List (Addr × Str)) (K : PySem.W.Frag) (σ : L2.St) (iv n : Nat) (H1 : Hp) (Q : VK) : Prop :=
  n < 1000000 ∧ Tabs T H1 ∧ ∃ (p : Addr) (vs : List V) (rests : Nat → Int), σ[iv]? = some (some (.ref p)) ∧ SqL K H1 p vs ∧ (∀ i, i < n → ∃ (t : Addr) (a : V), vs[i]? = some (.ref t) ∧ SqT K H1 t [a, .int (rests i)]) ∧
    ∀ (H2 : Hp) (q : Addr), ExtN H1 H2 → Tabs T H2 → H2 q = none → Q (.ref q) (upd H2 q (.lst ((orderOf n rests).map fun (i : Nat) => V.int (i : Int))))
section
variable {X : Cx} {pins : List (Addr × Obj)} {σ : L2.St} {H : Hp} {s : Shared}
theorem each_vals {out : List Value} {l : List Nat} (h : PySem.W.EachIs (fun (v : Value) (i : Nat) => ∃ t, v = .int (i : Int) t) out l) : Vals (l.map fun (i : Nat) => V.int (i : Int)) out := by
  induction h with
  | nil => exact .nil
  | cons a _ ih => exact .cons a ih
theorem srt_run {T : List (Addr × Str)} {c P : Addr} {k iv : Nat} {rv av : Str} {ea : Expr} {params : Arguments} {scope : Scope} {p1 p2 p3 p4 p5 p6 p7 p8 p9 q1 q2 q3 q4 q5 q6 : Pos} {j1 j2 j3 : Nat} {Q : VK} (I : Inv X pins σ H s) (hr : Room k X.A)
    (hgs : Gl X "sorted") (hms : X.mg "sorted" = none) (hgr : Gl X "range") (hmr : X.mg "range" = none) (TB : TabB X.base X.mg c P) (hcode : X.env.code = .ref c) (hmT : (P, X.env.qual ++ "<lambda>") ∈ T) (hu : ∀ p ∈ T, p.1 = P → p.2 = X.env.qual ++ "<lambda>")
    (hdef : defaultsOf params X.env = ([], [])) (hk : scope.kind = .function) (hco : scope.isCoroutine = false) (hgen : scope.isGenerator = false) (hnc : ∀ x ∈ scope.names, x.2 ≠ .cell) (hfr : scope.names.lookup rv = some .free) (hav : scope.names.lookup av = some .local)
    (hof : ∀ y ∈ scope.names, y.2 = .free → y.1 = rv) (hcl : X.env.kindOf rv = some .cell) (hN : X.N[iv]? = some rv)
    (hbind : ∀ (q : Str) (cl : List (Str × Addr)) (pm cv ctv u : Value), bindArgs (PySem.W.kla_fn "<lambda>" q params (keyBody rv av p1 p2 p3 p4 p5 p6 p7 p8 p9 j1 j2 j3) scope cl pm cv ctv) ⟨[u], []⟩ = pure [(av, u)])
    (hd1 : (rv == ("__debug__" : Str)) = false) (hd2 : (av == ("__debug__" : Str)) = false) (hd3 : (rv == ("__classdict__" : Str)) = false)
    (na : starEach [ea] X.env = (false, eval ea X.env) :: starEach [] X.env) (ha : sem X ea σ H fun x H1 => ∃ n : Nat, x = .int (n : Int) ∧ SrtAt T X.K σ iv n H1 Q) :
    wpAny (model X.prog X.w) X.A (eval (.Call (.Name "sorted" q1) [.Call (.Name "range" q2) [ea] [] q3] [⟨some "key", .Lambda params (keyBody rv av p1 p2 p3 p4 p5 p6 p7 p8 p9 j1 j2 j3) scope q4, q5⟩] q6) X.env) (EP X pins σ Q) X.xe s := by
  have hfree : ∀ y ∈ scope.names, y.2 = .free → ∃ c, X.env.cells.lookup y.1 = some c := fun y hy e => by
    rw [hof y hy e]
    exact I.ok.has _ (.inl hcl)
  refine wpAny_Call_Name_kw (ld_blt I hgs hms (by rfl) ?_)
  refine PyProof.Rows.callWith_kw ?_
  show wpAny _ _ (spliced ((false, eval (.Call (.Name "range" q2) [ea] [] q3) X.env) :: backTo q6 (starEach [] X.env))) _ _ s
  refine Calls.spliced_cons (Call_ (ld_blt I hgr hmr boot_range (PyProof.Rows.callWith_type1 (one_arg (pe_sem) I ha (fun v s2 x H2 I2 r q => ?_) na) na)))
  obtain ⟨n, rfl, q⟩ := q
  obtain ⟨t, rfl⟩ := r
  refine call_range_1 ?_
  refine Calls.spliced_nil ?_
  -- the range's object is pinned
  have kp3 : ∀ b o, s2.heap.get? b = some o → (s2.heap.push { cls := .type "range", data := .fields #[.int 0 s2.toks, .int (n : Int) t, .int 1 (s2.toks + 1)] }).get? b = some o := fun b o e => Heap.get?_push_of_some _ e
  have I3 : Inv X pins σ H2 { s2 with heap := s2.heap.push { cls := .type "range", data := .fields #[.int 0 s2.toks, .int (n : Int) t, .int 1 (s2.toks + 1)] }, toks := s2.toks + 1 + 1 } := I2.kept kp3
  have hrg : (s2.heap.push { cls := .type "range", data := .fields #[.int 0 s2.toks, .int (n : Int) t, .int 1 (s2.toks + 1)] }).get? s2.heap.objs.size = some { cls := .type "range", data := .fields #[.int 0 s2.toks, .int (n : Int) t, .int 1 (s2.toks + 1)] } := Heap.get?_push_size _ rfl
  have I4 := I3.pins_of (pins' := (s2.heap.objs.size, { cls := .type "range", data := .fields #[.int 0 s2.toks, .int (n : Int) t, .int 1 (s2.toks + 1)] }) :: pins) fun p hp => by
    rw [List.mem_cons] at hp
    rcases hp with rfl | hp
    · exact ⟨hrg, I2.hok.fresh (Nat.le_refl _), Nat.ne_of_gt I2.lt, I2.nofs (Nat.le_refl _), fun v z => by cases z⟩
    · exact I3.pin p (List.mem_append_right _ hp)
  obtain ⟨hn, hT, p, vs, rests, hσ, hsq, hel, hq⟩ := q
  show wpAny _ _ (evalAll ((do let v ← eval (.Lambda params (keyBody rv av p1 p2 p3 p4 p5 p6 p7 p8 p9 j1 j2 j3) scope q4) X.env; standAt q6; pure v) :: [])) _ _ _
  refine wpAny_evalAll_cons (wpAny_bind (lam_make2 I4 TB hcode hmT hu hT hdef hfree fun f c' pm ctv H5 s5 I5 eN T5 hf hfn hfs hc5 => wpAny_bind (wpAny_standAt (wpAny_pure ?_))))
  refine wpAny_evalAll_nil ?_
  have hrg5 : IsRange s5.heap s2.heap.objs.size 0 (n : Int) 1 s2.toks t (s2.toks + 1) := (I5.pin (s2.heap.objs.size, _) (List.mem_append_right _ List.mem_cons_self)).1
  show wpAny _ _ (call (.builtin "sorted") [.ref s2.heap.objs.size] [(Str.ofString "key", .ref f)]) _ _ s5
  -- what the key looks at
  obtain ⟨its, rvs, pl, hz⟩ := I5.list (extN_sqL eN hsq)
  obtain ⟨m, hns, hlk⟩ := I5.loc
  obtain ⟨u, ru, lu⟩ := hlk iv rv (.ref p) hN hσ (.inr (.inl hcl))
  obtain rfl : u = Value.ref p := ru
  obtain ⟨cc, hcc, hcell⟩ : ∃ cc, X.env.cells.lookup rv = some cc ∧ s5.heap.IsCell cc (some (.ref p)) := by
    rcases lu with ⟨z, _⟩ | ⟨_, cc, h1, h2⟩
    · rw [hcl] at z
      cases z
    · exact ⟨cc, h1, h2⟩
  have hclo := clo_has hfree (PySem.mem_of_lookup hfr) hcc
  have hcd := codeO_at I5.hok hc5
  have hA := hr.hd
  have hdp := hr.dp
  have hun := hr.un
  refine sorted_rng (kx := fun i => 0 - rests i) (ky := fun i => (i : Int)) hA hrg5 hn (by omega) (fun i ti hi h tk kp => ?_) fun h1 out c1 h' tk k1 k2 hD eo => ?_
  · obtain ⟨tt, a, e1, e2⟩ := hel i hi
    obtain ⟨ut, e3, e4⟩ := rvs.get e1
    obtain rfl : ut = Value.ref tt := e4
    obtain ⟨its2, r2, pt, _⟩ := I5.tuple (extN_sqT eN e2)
    cases r2 with
    | cons ra r2 =>
      cases r2 with
      | cons rb r2 =>
        cases r2
        obtain ⟨tb, rfl⟩ := rb
        obtain ⟨oc, hoc, hdc⟩ := hcell
        obtain ⟨ol, nl, hol, hcls, hdt, hsl⟩ := pl
        obtain ⟨ot, hot, hrest⟩ := pt
        obtain ⟨c0, oc0, vs0, tq0, z1, z2, z3, z4⟩ := hcd
        refine key_call (s := { s5 with heap := h, toks := tk }) (A := X.A.in1.in1) (show X.A.depth < recursionLimit by omega) (kp _ _ hf) hk hco hgen ⟨c0, oc0, vs0, tq0, z1, kp _ _ z2, z3, z4⟩ (hbind _ _ _ _ _ _) hnc hfr hav (I5.nolimit.keeps kp) hclo ⟨oc, kp _ _ hoc, hdc⟩ ⟨ol, kp _ _ hol, hcls, nl, hsl⟩ (by simpa using e3) (by omega) ⟨ot, kp _ _ hot, hrest⟩ hd1 hd2 hd3
  · have I6 : Inv X pins σ H5 { s5 with heap := h1, toks := tk } := (I5.pins_of (pins' := pins) fun x hx => I5.pin x (List.mem_append_right _ (List.mem_cons_of_mem _ hx))).kept k1
    have rv6 := each_vals eo
    have hlen : (orderOf n rests).length = n := by
      unfold orderOf
      rw [List.length_mergeSort, List.length_range]
    have fr6 : H5 h1.objs.size = none := I6.hok.fresh (Nat.le_refl _)
    refine ⟨.ref h1.objs.size, upd H5 h1.objs.size (.lst ((orderOf n rests).map fun (i : Nat) => V.int (i : Int))), I6.laid (t' := tk) k2 (Nat.le_refl _) (show ObjOk X.prog X.w _ _ _ (.lst _) from ⟨?_, out, c1, rv6, hD⟩), rfl, hq H5 _ eN T5 fr6⟩
    rw [List.length_map, hlen, sizeLine_eq]
    omega
end
end DL
end

section
set_option Elab.async false
set_option autoImplicit false
set_option linter.all false
set_option maxRecDepth 100000
set_option maxHeartbeats 4000000
/-! Rules that the hand layer lacks: sum of a tuple, enumerate of a tuple. -/
namespace DL
open PySem PySem.Spec PyProof.Rows L2

theorem meets_enum1 {v : Value} {o : Obj} {I : Heap → Prop} (B : Begins v o I) :
    Meets (Builtin.«enumerate.__new__» ⟨[.type "enumerate", v], []⟩) (fun _ R s => I s.heap ∧
      R (.ok (.ret (.ref (s.heap.push o).objs.size))) { s with heap := (s.heap.push o).push { cls := .type "enumerate", data := .fields #[.none, .bool false, .ref s.heap.objs.size, rawInt 0, .none, .none] } }) :=
  .of_wp fun prog w A R s hh => by
    obtain ⟨hp, gs, dr, tk, os⟩ := s
    obtain ⟨hI, hR⟩ := hh
    have sbt := sub_enumerate
    have begin_ : ∀ {A' : Around} {E : Value → Shared → Prop} {Q : Value → Shared → Prop}, Q (.ref hp.objs.size) ⟨hp.push o, gs, dr, tk, os⟩ → wpAny (model prog w) A' (pyIter v) Q E ⟨hp, gs, dr, tk, os⟩ :=
      fun q => B.iter prog w _ _ ⟨hp, gs, dr, tk, os⟩ _ hI q
    wp_walk using begin_
    refine wpAny_stack_any fun st => wpAny_pure ?_
    split
    · rename_i cc _ _ _ _ _
      cases (cc == Value.type "enumerate")
      · wp_walk using begin_
        exact ⟨_, rfl, hR⟩
      · wp_walk using begin_
        exact ⟨_, rfl, hR⟩
    · wp_walk using begin_
      exact ⟨_, rfl, hR⟩
section
variable {prog : Program} {w : World} {A : Around} {E : Value → Shared → Prop} {s : Shared}
theorem enum1 {v : Value} {o : Obj} {I : Heap → Prop} {Q : Value → Shared → Prop} (B : Begins v o I) (hI : I s.heap)
    (q : ∀ h', IsEnum h' (s.heap.objs.size + 1) s.heap.objs.size 0 .none → h'.get? s.heap.objs.size = some o →
      (∀ b u, s.heap.get? b = some u → h'.get? b = some u) → Q (.ref (s.heap.objs.size + 1)) { s with heap := h' }) : wpAny (model prog w) A (call (.type "enumerate") [v]) Q E s := by
  refine callType_new F.called_enumerate (by decide) (F.typeCall_enumerate_1 _) (F.newCall_enumerate_1 _) (fun obj => F.args_object_init_2 obj _) F.entry_enumerate_new (meets_enum1 B) ⟨hI, ?_⟩
  have sz : (s.heap.push o).objs.size = s.heap.objs.size + 1 := Heap.size_push ..
  show _ ∧ _
  rw [sz]
  have he : IsEnum ((s.heap.push o).push { cls := .type "enumerate", data := .fields #[.none, .bool false, .ref s.heap.objs.size, rawInt 0, .none, .none] }) (s.heap.objs.size + 1) s.heap.objs.size 0 .none := by
    have z := Heap.get?_push_size (s.heap.push o) (o := { cls := .type "enumerate", data := .fields #[.none, .bool false, .ref s.heap.objs.size, rawInt 0, .none, .none] }) rfl
    rw [sz] at z
    exact z
  exact ⟨⟨_, he, rfl⟩, q _ he (Heap.get?_push_of_some _ (Heap.get?_push_size _ B.free)) fun b u x => Heap.get?_push_of_some _ (Heap.get?_push_of_some _ x)⟩
end
/-- enumerate of the tuple at a -/
def IteT (K : PySem.W.Frag) (a : Addr) : It where
  go i H := ∃ (xs : List V) (x : V), SqT K H a xs ∧ xs[i]? = some x
  yld i H v H' := ∃ T x, v = .ref T ∧ H T = none ∧ H' = upd H T (.tup [.int (i : Nat), x]) ∧ ∀ xs, SqT K H a xs → xs[i]? = some x
  stop i H := ∃ xs : List V, SqT K H a xs ∧ xs.length = i
theorem turn_enumT {P : Program} {w : World} {K : PySem.W.Frag} {elts : List Expr} {kk : Nat} {tpos : Pos} (a e it : Addr) :
    Turn P w K (.Tuple elts kk tpos) (IteT K a) [e, it] e (fun i h => (∃ old, IsEnum h e it ((i : Nat) : Int) old) ∧ h.IsTupleIter it a i ∧ e ≠ it ∧ a ≠ it ∧ e ≠ a) where
  mem := by simp
  obj := fun i h st b hb => by
    obtain ⟨⟨old, he⟩, ⟨o, ho, hc, hd⟩, _⟩ := st
    have hb2 : b = e ∨ b = it := by simpa using hb
    rcases hb2 with rfl | rfl
    · exact ⟨_, he, fun v z => nomatch z⟩
    · exact ⟨o, ho, fun v z => by
        rw [hd] at z
        cases z⟩
  keep := fun i h h' st k => by
    obtain ⟨⟨old, he⟩, hi, hne⟩ := st
    exact ⟨⟨old, k e (by simp) _ he⟩, hi.at fun o z => k it (by simp) o z, hne⟩
  item := by
    intro X hP hw hK hc i pins s σ H E Iv hf st hg
    subst hP hw hK
    obtain ⟨⟨old, he⟩, hit, hne, hai, hea⟩ := st
    obtain ⟨xs, x, hq, hx⟩ := hg
    obtain ⟨items, rv, pt, hz⟩ := Iv.tuple hq
    obtain ⟨u, hu, ru⟩ := rv.get hx
    have hlt : i < items.toArray.size := by
      have := (List.getElem?_eq_some_iff.mp hu).1
      simpa using this
    have eLt : e < s.heap.objs.size := Heap.lt_size he
    have iLt : it < s.heap.objs.size := by
      obtain ⟨_, z, _⟩ := hit
      exact Heap.lt_size z
    have pt' : s.heap.IsTuple a items.toArray := pt
    refine wpAny_pyNext_enum_itemD (Draws.tuple (A := X.A.in1) (Iv.ok.hd hc) it a hai items.toArray) he ⟨hit, pt'⟩ hlt hne (by simp [hne, hea]) fun y h' tk hy ho st' hT hsz hk => ?_
    have ey : y = u := by
      rw [← Array.getElem?_toList] at hy
      have hy2 : items[i]? = some y := hy
      rw [hu] at hy2
      exact (Option.some.inj hy2).symm
    subst ey
    refine ⟨_, rfl, wpAny_letOwnedTupleGo_enum (s := { s with heap := h', toks := tk + 1 }) ho fun h2 he2 sb => ?_⟩
    have hT2 : h2.get? s.heap.objs.size = some { cls := .type "tuple", data := .seq #[.int i tk, y] } := (sb.2 _ (Nat.ne_of_gt eLt)).trans hT
    have new : ObjOk X.prog X.w (upd H s.heap.objs.size (.tup [.int (i : Nat), x])) h2 s.heap.objs.size (.tup [.int (i : Nat), x]) :=
      ⟨by show 2 ≤ sizeLine; decide, [.int i tk, y], .cons ⟨_, rfl⟩ (.cons ru .nil), ⟨_, hT2, rfl, _, rfl⟩⟩
    have J : Inv X pins σ (upd H s.heap.objs.size (.tup [.int (i : Nat), x])) { s with heap := h2, toks := tk + 1 } :=
      Iv.turnedNew (ch := [e, it]) (fun b ob hb z => (sb.2 b (fun w => hb (by simp [w]))).trans (hk b ob (fun w => hb (by simp [w])) (fun w => hb (by simp [w])) z)) hf (Nat.le_refl _) new
    refine ⟨.ref s.heap.objs.size, _, J, rfl, ⟨_, x, rfl, Iv.hok.fresh (Nat.le_refl _), rfl, fun ys hy => by rw [Iv.tuple_inj hy hq]; exact hx⟩, ⟨⟨y, ?_⟩, st'.1.at fun o z => (sb.2 it (Ne.symm hne)).trans z, hne, hai, hea⟩, fun b hb => ?_⟩
    · have e1 : ((i + 1 : Nat) : Int) = (i : Int) + 1 := by omega
      rw [e1]
      exact he2
    · have bLt : b < s.heap.objs.size := by
        have hb2 : b = e ∨ b = it := by simpa using hb
        rcases hb2 with rfl | rfl
        · exact eLt
        · exact iLt
      rw [upd_ne (Nat.ne_of_lt bLt)]
      exact (hf b hb).1
  done := by
    intro X hP hw hK hc i pins s σ H E Iv hf st hg
    subst hP hw hK
    obtain ⟨⟨old, he⟩, hit, hne, hai, hea⟩ := st
    obtain ⟨xs, hq, hx⟩ := hg
    obtain ⟨items, rv, pt, hz⟩ := Iv.tuple hq
    obtain ⟨f0, f1, f2, f3, f4, f5⟩ := hf it (by simp)
    have ll := rv.length
    have pt' : s.heap.IsTuple a items.toArray := pt
    have ei : items.toArray.size = i := by
      rw [List.size_toArray, ← ll]
      exact hx
    subst ei
    have dr := Draws.tuple (prog := X.prog) (w := X.w) (A := X.A.in1) (Iv.ok.hd hc) it a hai items.toArray
    exact wpAny_pyNext_enum_endD dr he ⟨hit, pt'⟩ fun h' eb => ⟨rfl, Iv.turned (t' := s.toks) (fun b o hb z => eb b o hb z) f0 f1 f3 f4 f5⟩
  self := fun A i s Q E st h => let ⟨⟨_, he⟩, _⟩ := st; wpAny_pyIter_enum he h
def iEnumT (K : PySem.W.Frag) (ta : TA) : TI := fun σ H R => ta σ H fun vs H1 => ∃ a xs, vs = [.ref a] ∧ SqT K H1 a xs ∧ R (IteT K a) H1
theorem pi_enumT {X : Cx} {e : Expr} {ta : TA} {p pos tpos : Pos} {elts : List Expr} {kk : Nat} (hg : Gl X "enumerate") (hm : X.mg "enumerate" = none) (ha : PA X [e] ta) (hs : starEach [e] X.env = [(false, eval e X.env)]) :
    PI X (.Tuple elts kk tpos) (.Call (.Name "enumerate" p) [e] [] pos) (iEnumT X.K ta) := by
  refine ⟨fun pins s σ H R Iv h => ?_⟩
  refine Call_ (ld_blt Iv hg hm boot_enumerate (PyProof.Rows.callWith_type1 (thn (ha.run pos pins s σ H _ Iv h) fun us s1 ⟨vs, H1, I1, r1, q1⟩ => ?_) hs rfl))
  obtain ⟨a, xs, ex, hq, q⟩ := q1
  subst ex
  cases r1 with
  | cons r rr =>
    cases rr
    cases r
    obtain ⟨items, rv, pt, hz⟩ := I1.tuple hq
    have pt' : s1.heap.IsTuple a items.toArray := pt
    have aLt : a < s1.heap.objs.size := by
      obtain ⟨_, z, _⟩ := pt'
      exact Heap.lt_size z
    refine enum1 (begins_tuple a items.toArray) pt' fun h' he hit hk => wpAny_pyIter_enum he ?_
    have J : Inv X pins σ H1 { s1 with heap := h' } := I1.kept (t' := s1.toks) hk
    refine ⟨s1.heap.objs.size + 1, [s1.heap.objs.size + 1, s1.heap.objs.size], _, _, H1, rfl, J, turn_enumT a (s1.heap.objs.size + 1) s1.heap.objs.size, ⟨⟨.none, he⟩, ⟨_, hit, rfl, rfl⟩, Nat.succ_ne_self _, Nat.ne_of_lt aLt, Nat.ne_of_gt (Nat.lt_succ_of_lt aLt)⟩, fun b hb => ?_, q⟩
    have ge : s1.heap.objs.size ≤ b := by
      have hb2 : b = s1.heap.objs.size + 1 ∨ b = s1.heap.objs.size := by simpa using hb
      rcases hb2 with rfl | rfl
      · exact Nat.le_add_right _ _
      · exact Nat.le_refl _
    exact I1.fpOk ge (I1.hok.fresh ge)
/-- sum of a tuple of ints -/
def rSumT (K : PySem.W.Frag) : List V → Hp → VK → Prop := fun vs H Q => ∃ (a : Addr) (ns : List Int), vs = [V.ref a] ∧ SqT K H a (ns.map V.int) ∧ Q (.int ns.sum) H
theorem cr_sumT {X : Cx} (hc : X.calm = true) : CallR X (.builtin "sum") (rSumT X.K) := by
  intro pins s σ H vs us Q Iv r h
  obtain ⟨a, ns, rfl, hs, q⟩ := h
  obtain ⟨items, rv, pt, hz⟩ := Iv.tuple hs
  rw [Vals.ref1 r]
  have pt' : s.heap.IsTuple a items.toArray := pt
  have aLt : a < s.heap.objs.size := by
    obtain ⟨_, z, _⟩ := pt'
    exact Heap.lt_size z
  have hi := rv.ints
  obtain ⟨xs, e⟩ := hi.allInts.items
  have hn : numsOf (intItems xs).toList = ns := by
    rw [← e]
    exact hi.numsOf
  rw [nums_intItems] at hn
  rw [e] at pt'
  refine PySem.call_sum_walkG (wpAny_pyIter_tuple pt' ?_)
  refine ⟨_, _, _, _, _, _, numAt xs, rfl, Walks.tuple (A := X.A.in1) (Iv.ok.hd hc) s.heap.objs.size a (Nat.ne_of_lt aLt) (intItems xs), ⟨⟨_, Heap.get?_push_size _ rfl, rfl, rfl⟩, pt'.at fun o z => Heap.get?_push_of_some _ z⟩, fun b hb => ?_, (fun _ _ => intItems_at), fun h' tk t' hk => ?_⟩
  · have hb2 : b = s.heap.objs.size ∨ b = a := by simpa using hb
    rw [Heap.size_push]
    rcases hb2 with rfl | rfl
    · exact Nat.lt_succ_self _
    · exact Nat.lt_succ_of_lt aLt
  · have e2 : (intItems xs).size = xs.size := by simp [intItems]
    rw [e2, preSum_eq, List.take_of_length_le (by simp), hn]
    exact ⟨.int _, H, Iv.kept (h' := h') (t' := tk) fun b o z => hk b o (by
      have lt := Heap.lt_size z
      rw [List.mem_singleton]
      exact Nat.ne_of_lt lt) (Heap.get?_push_of_some _ z), ⟨_, rfl⟩, q⟩
end DL
end

section
set_option Elab.async false
set_option autoImplicit false
set_option linter.all false
set_option maxRecDepth 100000
set_option maxHeartbeats 4000000
/-! tuple(zip(t, u)) of two tuples. -/
namespace DL
open PySem PySem.Spec PyProof.Rows L2

section
variable {prog : Program} {w : World} {A : Around} {E : Value → Shared → Prop} {s : Shared} {z TI TO T i1 i2 : Addr} {fp1 fp2 : List Addr} {n1 n2 i : Nat} {P1 P2 : Nat → Value → Prop} {St1 St2 : Nat → Heap → Prop} {f : Bool} {oT : Obj}
/-- a further pair while the last one is held -/
theorem heldD_item {Q : Value → Shared → Prop} (S : ZipSep2 z TI TO i1 i2 fp1 fp2) (D1 : Draws prog w A i1 fp1 n1 P1 St1) (D2 : Draws prog w A i2 fp2 n2 P2 St2)
    (hz : IsZipHeld s.heap z TI TO T f) (hT : s.heap.get? T = some oT) (hTI : IsPair s.heap TI (.ref i1) (.ref i2)) (st1 : St1 i s.heap) (st2 : St2 i s.heap) (lt1 : i < n1) (lt2 : i < n2)
    (q : ∀ x y h' tk, P1 i x → P2 i y → IsZipHeld h' z TI TO T true → St1 (i + 1) h' → St2 (i + 1) h' → IsPair h' s.heap.objs.size x y → h'.objs.size = s.heap.objs.size + 1 →
      (∀ c o, c ≠ z → c ≠ i1 → c ≠ i2 → s.heap.get? c = some o → h'.get? c = some o) → Q (.ref s.heap.objs.size) { s with heap := h', toks := tk }) :
    wpAny (model prog w) A (Builtin.«zip.__next__» ⟨[.ref z], []⟩) (fun fin s' => ∃ v, fin = .done (.ret v) ∧ Q v s') E s := by
  obtain ⟨hp, gs, dr, tk0, os⟩ := s
  show wpAny _ _ (field (.ref z) 2 >>= _) _ _ _
  refine wpAny_bind (wpAny_field hz rfl (x := .bool false) rfl ?_)
  show wpAny _ _ (field (.ref z) 3 >>= _) _ _ _
  refine wpAny_bind (wpAny_field hz rfl (x := .ref TI) rfl ?_)
  refine wpAny_bind (wpAny_seqItems hTI rfl ?_)
  show wpAny _ _ (Builtin.SmallTypes.ownedTupleIsFree (.ref z) >>= _) _ _ _
  refine wpAny_bind (wpAny_tupleHeld_zip hz hT fun g0 hz0 hs0 => ?_)
  replace hs0 : Heap.SameBut z hp g0 := hs0
  simp only [Bool.false_eq_true, if_false]
  refine wpAny_bind ?_
  rw [← Array.forIn_toList]
  simp only [List.forIn_cons, List.forIn_nil]
  refine wpAny_bind (wpAny_bind (wpAny_holding ?_))
  show wpAny _ _ (Builtin.SmallTypes.nextOf (.ref i1) >>= _) _ _ ⟨g0, gs, dr, tk0, os⟩
  refine wpAny_bind (D1.item i _ _ _ lt1 (D1.over st1 hs0 S.zf1) fun x p1 tk1 hx sn1 hp1 => wpAny_pure ?_)
  replace hp1 : Heap.SameBut i1 g0 p1 := hp1
  refine wpAny_pure ?_
  refine wpAny_bind (wpAny_bind (wpAny_holding ?_))
  show wpAny _ _ (Builtin.SmallTypes.nextOf (.ref i2) >>= _) _ _ ⟨p1, gs, dr, tk1, os⟩
  refine wpAny_bind (D2.item i _ _ _ lt2 (D2.over (D2.over st2 hs0 S.zf2) hp1 S.sep1_2) fun y p2 tk2 hy sn2 hp2 => wpAny_pure ?_)
  replace hp2 : Heap.SameBut i2 p1 p2 := hp2
  refine wpAny_pure (wpAny_pure ?_)
  show wpAny _ _ (newTuple [x, y] >>= _) _ _ ⟨p2, gs, dr, tk2, os⟩
  refine wpAny_bind (wpAny_newTuple ?_)
  have sz : p2.objs.size = hp.objs.size := by rw [hp2.1, hp1.1, hs0.1]
  have hzz : IsZipHeld p2 z TI TO T true := hp2.extBut _ _ S.zi2 (hp1.extBut _ _ S.zi1 hz0)
  have kk : ∀ c o, c ≠ z → c ≠ i1 → c ≠ i2 → hp.get? c = some o → p2.get? c = some o := fun c o c1 c2 c3 e => hp2.extBut _ _ c3 (hp1.extBut _ _ c2 (hs0.extBut _ _ c1 e))
  have m1 : St1 (i + 1) p2 := D1.over sn1 hp2 S.sep2_1
  refine wpAny_pure ⟨_, rfl, ?_⟩
  show Q (.ref p2.objs.size) _
  have pr : IsPair (p2.push { cls := .type "tuple", data := .seq #[x, y] }) p2.objs.size x y := Heap.get?_push_size _ rfl
  have sz2 : (p2.push { cls := .type "tuple", data := .seq #[x, y] }).objs.size = p2.objs.size + 1 := Heap.size_push ..
  rw [sz] at pr sz2 ⊢
  exact q x y _ tk2 hx hy (Heap.get?_push_of_some _ hzz) (D1.frame _ _ _ m1 fun b _ o e => Heap.get?_push_of_some _ e) (D2.frame _ _ _ sn2 fun b _ o e => Heap.get?_push_of_some _ e) pr sz2 fun c o c1 c2 c3 e => Heap.get?_push_of_some _ (kk c o c1 c2 c3 e)
theorem heldD_end {Q : Fin → Shared → Prop} (S : ZipSep2 z TI TO i1 i2 fp1 fp2) (D1 : Draws prog w A i1 fp1 n1 P1 St1) (D2 : Draws prog w A i2 fp2 n2 P2 St2)
    (hz : IsZipHeld s.heap z TI TO T f) (hT : s.heap.get? T = some oT) (hTI : IsPair s.heap TI (.ref i1) (.ref i2)) (st1 : St1 i s.heap) (st2 : St2 i s.heap) (le2 : i ≤ n2) (en : i = n1)
    (hE : ∀ h' tk e, (∀ c o, c ≠ z → c ≠ i1 → c ≠ i2 → s.heap.get? c = some o → h'.get? c = some o) → (∃ o, h'.get? e = some o ∧ o.cls = .type "StopIteration") → E (.ref e) { s with heap := h', toks := tk }) :
    wpAny (model prog w) A (Builtin.«zip.__next__» ⟨[.ref z], []⟩) Q E s := by
  obtain ⟨hp, gs, dr, tk0, os⟩ := s
  show wpAny _ _ (field (.ref z) 2 >>= _) _ _ _
  refine wpAny_bind (wpAny_field hz rfl (x := .bool false) rfl ?_)
  show wpAny _ _ (field (.ref z) 3 >>= _) _ _ _
  refine wpAny_bind (wpAny_field hz rfl (x := .ref TI) rfl ?_)
  refine wpAny_bind (wpAny_seqItems hTI rfl ?_)
  show wpAny _ _ (Builtin.SmallTypes.ownedTupleIsFree (.ref z) >>= _) _ _ _
  refine wpAny_bind (wpAny_tupleHeld_zip hz hT fun g0 hz0 hs0 => ?_)
  replace hs0 : Heap.SameBut z hp g0 := hs0
  simp only [Bool.false_eq_true, if_false]
  refine wpAny_bind ?_
  rw [← Array.forIn_toList]
  simp only [List.forIn_cons, List.forIn_nil]
  refine wpAny_bind (wpAny_bind (wpAny_holding ?_))
  show wpAny _ _ (Builtin.SmallTypes.nextOf (.ref i1) >>= _) _ _ ⟨g0, gs, dr, tk0, os⟩
  subst en
  refine wpAny_bind (D1.done ⟨g0, gs, dr, tk0, os⟩ _ _ (D1.over st1 hs0 S.zf1) fun g1 e hq he => ?_)
  exact hE g1 tk0 e (fun c o c1 c2 _ x => hq _ _ c2 (hs0.extBut _ _ c1 x)) he
/-- the zip of the tuples t1, t2, both of n items, behind i turns; the list's buffer stands at L -/
structure ZSt (h : Heap) (z TI TO i1 i2 t1 t2 L : Addr) (xs ys : Array Value) (i : Nat) : Prop where
  ti : IsPair h TI (.ref i1) (.ref i2)
  j1 : h.IsTupleIter i1 t1 i
  u1 : h.IsTuple t1 xs
  j2 : h.IsTupleIter i2 t2 i
  u2 : h.IsTuple t2 ys
  out : (IsZip h z TI TO .none ∧ ∃ a b, IsPair h TO a b) ∨ ∃ T f oT, IsZipHeld h z TI TO T f ∧ h.get? T = some oT ∧ T ≠ L
theorem ZSt.at {h h' : Heap} {t1 t2 L : Addr} {xs ys : Array Value} (x : ZSt h z TI TO i1 i2 t1 t2 L xs ys i) (k : ∀ b o, b ≠ L → h.get? b = some o → h'.get? b = some o) (n : L ≠ z ∧ L ≠ TI ∧ L ≠ TO ∧ L ≠ i1 ∧ L ≠ i2 ∧ L ≠ t1 ∧ L ≠ t2) : ZSt h' z TI TO i1 i2 t1 t2 L xs ys i := by
  obtain ⟨n1, n2, n3, n4, n5, n6, n7⟩ := n
  refine ⟨k _ _ n2.symm x.ti, x.j1.at fun o e => k _ _ n4.symm e, x.u1.at fun o e => k _ _ n6.symm e, x.j2.at fun o e => k _ _ n5.symm e, x.u2.at fun o e => k _ _ n7.symm e, ?_⟩
  rcases x.out with ⟨a, b, c, d⟩ | ⟨T, f, oT, a, b, c⟩
  · exact .inl ⟨k _ _ n1.symm a, b, c, k _ _ n3.symm d⟩
  · exact .inr ⟨T, f, oT, k _ _ n1.symm a, k _ _ c b, c⟩
theorem z_item {t1 t2 L : Addr} {xs ys : Array Value} {Q : Option Value → Shared → Prop} (hh : A.handled = none) (S : ZipSep2 z TI TO i1 i2 [i1, t1] [i2, t2]) (e1 : t1 ≠ i1) (e2 : t2 ≠ i2) (st : ZSt s.heap z TI TO i1 i2 t1 t2 L xs ys i) (lt1 : i < xs.size) (lt2 : i < ys.size) (hL : L < s.heap.objs.size)
    (q : ∀ h' tk, ZSt h' z TI TO i1 i2 t1 t2 L xs ys (i + 1) → IsPair h' s.heap.objs.size xs[i] ys[i] → h'.objs.size = s.heap.objs.size + 1 → (∀ c o, c ≠ z → c ≠ TO → c ≠ i1 → c ≠ i2 → s.heap.get? c = some o → h'.get? c = some o) → Q (some (.ref s.heap.objs.size)) { s with heap := h', toks := tk }) :
    wpAny (model prog w) A (pyNext (.ref z)) Q E s := by
  have D1 := Draws.tuple (prog := prog) (w := w) (A := A.in1) hh i1 t1 e1 xs
  have D2 := Draws.tuple (prog := prog) (w := w) (A := A.in1) hh i2 t2 e2 ys
  have got : ∀ {x y : Value}, xs[i]? = some x → ys[i]? = some y → x = xs[i] ∧ y = ys[i] := fun {x y} h1 h2 => by
    rw [Array.getElem?_eq_getElem lt1] at h1
    rw [Array.getElem?_eq_getElem lt2] at h2
    exact ⟨(Option.some.inj h1).symm, (Option.some.inj h2).symm⟩
  rcases st.out with ⟨hz, a, b, hTO⟩ | ⟨T, f, oT, hz, hT, hn⟩
  · refine wpAny_pyNext_zipD2_item S D1 D2 hz st.ti hTO ⟨st.j1, st.u1⟩ ⟨st.j2, st.u2⟩ lt1 lt2 fun x y h' tk hx hy hz' hTO' s1 s2 pr sz kk => ?_
    obtain ⟨rfl, rfl⟩ := got hx hy
    exact q h' tk ⟨kk _ _ S.TIz S.TITO S.TIi1 S.TIi2 st.ti, s1.1, s1.2, s2.1, s2.2, .inr ⟨_, false, _, hz', pr, Nat.ne_of_gt hL⟩⟩ pr sz kk
  · have hTy : s.TypeIs (.ref z) "zip" := ⟨_, hz, rfl⟩
    unfold pyNext
    refine wpAny_bind (wpAny_attempt (wpAny_callSpecial?_slot (name := Str.ofString "__next__") hTy F.slot_zip_next (wpAny_call_entry F.slot_zip_next hTy F.entry_zip_next
      (heldD_item S D1 D2 hz hT st.ti ⟨st.j1, st.u1⟩ ⟨st.j2, st.u2⟩ lt1 lt2 fun x y h' tk hx hy hz' s1 s2 pr sz kk => wpAny_pure ?_) (F.args_zip_next_1 _))))
    obtain ⟨rfl, rfl⟩ := got hx hy
    have nT : T ≠ z ∧ T ≠ i1 ∧ T ≠ i2 ∨ True := .inr trivial
    refine q h' tk ⟨kk _ _ S.TIz S.TIi1 S.TIi2 st.ti, s1.1, s1.2, s2.1, s2.2, ?_⟩ pr sz fun c o c1 _ c2 c3 e => kk c o c1 c2 c3 e
    by_cases h1 : T = z
    · exact .inr ⟨T, true, _, hz', by rw [h1]; exact hz', hn⟩
    · by_cases h2 : T = i1
      · obtain ⟨o, ho, _⟩ := s1.1
        exact .inr ⟨T, true, o, hz', by rw [h2]; exact ho, hn⟩
      · by_cases h3 : T = i2
        · obtain ⟨o, ho, _⟩ := s2.1
          exact .inr ⟨T, true, o, hz', by rw [h3]; exact ho, hn⟩
        · exact .inr ⟨T, true, oT, hz', kk T oT h1 h2 h3 hT, hn⟩
theorem z_end {t1 t2 L : Addr} {xs ys : Array Value} {Q : Option Value → Shared → Prop} (hh : A.handled = none) (S : ZipSep2 z TI TO i1 i2 [i1, t1] [i2, t2]) (e1 : t1 ≠ i1) (e2 : t2 ≠ i2) (st : ZSt s.heap z TI TO i1 i2 t1 t2 L xs ys i) (en : i = xs.size) (le2 : i ≤ ys.size)
    (q : ∀ h' tk, (∀ c o, c ≠ z → c ≠ TO → c ≠ i1 → c ≠ i2 → s.heap.get? c = some o → h'.get? c = some o) → Q none { s with heap := h', toks := tk }) : wpAny (model prog w) A (pyNext (.ref z)) Q E s := by
  have D1 := Draws.tuple (prog := prog) (w := w) (A := A.in1) hh i1 t1 e1 xs
  have D2 := Draws.tuple (prog := prog) (w := w) (A := A.in1) hh i2 t2 e2 ys
  rcases st.out with ⟨hz, a, b, hTO⟩ | ⟨T, f, oT, hz, hT, hn⟩
  · exact wpAny_pyNext_zipD2_end S D1 D2 hz st.ti hTO ⟨st.j1, st.u1⟩ ⟨st.j2, st.u2⟩ (Nat.le_of_eq en) le2 (.inl en) q
  · have hTy : s.TypeIs (.ref z) "zip" := ⟨_, hz, rfl⟩
    unfold pyNext
    refine wpAny_bind (wpAny_attempt (wpAny_callSpecial?_slot (name := Str.ofString "__next__") hTy F.slot_zip_next (wpAny_call_entry F.slot_zip_next hTy F.entry_zip_next
      (heldD_end S D1 D2 hz hT st.ti ⟨st.j1, st.u1⟩ ⟨st.j2, st.u2⟩ le2 en fun h' tk e kk he => ?_) (F.args_zip_next_1 _))))
    obtain ⟨o, ho, hc⟩ := he
    refine wpAny_bind (wpAny_isInstance (T := "StopIteration") (b := true) ⟨o, ho, hc⟩ isSubtype_stop ?_)
    exact wpAny_pure (q h' tk fun c o c1 _ c2 c3 e => kk c o c1 c2 c3 e)
end
end DL
end

section
set_option Elab.async false
set_option autoImplicit false
set_option linter.all false
set_option maxRecDepth 100000
set_option maxHeartbeats 4000000
/-! tuple(zip(t, u)), the list's buffer and the call. -/
namespace DL
open PySem PySem.Spec PyProof.Rows L2

theorem zip_nolen : typeLookup (.type "zip") "__len__" = pure none := by rw [typeLookup_type, builtinLookup_eq_fast]; kernel_rfl
theorem zip_nohint : typeLookup (.type "zip") "__length_hint__" = pure none := by rw [typeLookup_type, builtinLookup_eq_fast]; kernel_rfl
def refs (Ts : List Addr) : List Value := Ts.map Value.ref
/-- the first pairs of xs, ys stand at Ts, behind what stood at the size m -/
def Prs (h : Heap) (m : Nat) (xs ys : Array Value) (Ts : List Addr) : Prop := ∀ (j : Nat) (T : Addr), Ts[j]? = some T → m ≤ T ∧ ∃ x y, xs[j]? = some x ∧ ys[j]? = some y ∧ IsPair h T x y
section
variable {prog : Program} {w : World} {A : Around} {E : Value → Shared → Prop} {z TI TO i1 i2 t1 t2 L : Addr} {xs ys : Array Value}
theorem snoc2 {α : Type} {S : List α} {x y : α} {n : Nat} (h : (S ++ [x])[n]? = some y) : (n < S.length ∧ S[n]? = some y) ∨ (n = S.length ∧ y = x) := by
  by_cases hn : n < S.length
  · rw [List.getElem?_append_left hn] at h
    exact .inl ⟨hn, h⟩
  · by_cases he : n = S.length
    · subst he
      simp at h
      exact .inr ⟨rfl, h.symm⟩
    · rw [List.getElem?_eq_none (by rw [List.length_append, List.length_singleton]; omega)] at h
      cases h
theorem z_loop {R : Result → Shared → Prop} {res : Value} {m : Nat} (hh : A.handled = none) (S : ZipSep2 z TI TO i1 i2 [i1, t1] [i2, t2]) (e1 : t1 ≠ i1) (e2 : t2 ≠ i2) (nL : L ≠ z ∧ L ≠ TI ∧ L ≠ TO ∧ L ≠ i1 ∧ L ≠ i2 ∧ L ≠ t1 ∧ L ≠ t2) (hle : xs.size ≤ ys.size) (hsz : xs.size ≤ sizeLine)
    (old : z < m ∧ TO < m ∧ i1 < m ∧ i2 < m ∧ L < m) :
    ∀ (k i : Nat) (s : Shared) (Ts : List Addr) (c : Nat), xs.size - i = k → i ≤ xs.size → ZSt s.heap z TI TO i1 i2 t1 t2 L xs ys i → s.heap.get? L = some { cls := .type "list", dict := none, data := .seq (refs Ts).toArray c, slots := #[] } → Ts.length = i → Ts.Nodup → Prs s.heap m xs ys Ts → m ≤ s.heap.objs.size → (∀ T ∈ Ts, T < s.heap.objs.size) →
      (∀ h' tk Ts' c', Ts'.length = xs.size → Ts'.Nodup → Prs h' m xs ys Ts' → h'.get? L = some { cls := .type "list", dict := none, data := .seq (refs Ts').toArray c', slots := #[] } → (∀ b o, b ≠ L → b ≠ z → b ≠ TO → b ≠ i1 → b ≠ i2 → s.heap.get? b = some o → h'.get? b = some o) → R (.ok (.ret res)) { s with heap := h', toks := tk }) →
      codeAny (model prog w) A (.builtin "list.extend.loop" ⟨[.ref L, .ref z, res], []⟩) R s := by
  intro k
  induction k with
  | zero =>
    intro i s Ts c hk hi st hL hlen nd prs hm hlt q
    have ei : i = xs.size := by omega
    refine codeAny_builtin F.entry_extend_loop ?_
    rw [Around.under_plainId F.plain_extend_loop _]
    show wpAny _ A.in1 (pyNext (.ref z) >>= _) _ _ s
    refine wpAny_bind (z_end hh S e1 e2 st ei (by omega) fun h' tk kk => ?_)
    refine wpAny_pure (q h' tk Ts c (by rw [hlen, ei]) nd (fun j T hT => ?_) (kk _ _ nL.1 nL.2.2.1 nL.2.2.2.1 nL.2.2.2.2.1 hL) fun b o _ b1 b2 b3 b4 e => kk b o b1 b2 b3 b4 e)
    obtain ⟨g1, x, y, g2, g3, g4⟩ := prs j T hT
    have ne : ∀ b, b < m → T ≠ b := fun b hb e => Nat.lt_irrefl b (Nat.lt_of_lt_of_le hb (e ▸ g1))
    exact ⟨g1, x, y, g2, g3, kk _ _ (ne _ old.1) (ne _ old.2.1) (ne _ old.2.2.1) (ne _ old.2.2.2.1) g4⟩
  | succ k ih =>
    intro i s Ts c hk hi st hL hlen nd prs hm hlt q
    have lt1 : i < xs.size := by omega
    have lt2 : i < ys.size := by omega
    have LLt : L < s.heap.objs.size := Heap.lt_size hL
    refine codeAny_builtin F.entry_extend_loop ?_
    rw [Around.under_plainId F.plain_extend_loop _]
    show wpAny _ A.in1 (pyNext (.ref z) >>= _) _ _ s
    refine wpAny_bind (z_item hh S e1 e2 st lt1 lt2 LLt fun h' tk st' pr sz kk => ?_)
    have hL' := kk _ _ nL.1 nL.2.2.1 nL.2.2.2.1 nL.2.2.2.2.1 hL
    show wpAny _ A.in1 (updateSeq L (·.push (.ref s.heap.objs.size)) >>= _) _ _ _
    refine wpAny_bind ?_
    have szR : (refs Ts).toArray.size = i := by simp [refs, hlen]
    have szR2 : ((refs Ts).toArray.push (.ref s.heap.objs.size)).size = i + 1 := by rw [Array.size_push, szR]
    refine wpAny_updateSeq (s := { s with heap := h', toks := tk }) hL' rfl (wpAny_pure ⟨plainId_quiet F.plain_extend_loop _, ?_⟩) (by rw [szR]; omega) (by rw [szR2]; omega)
    have put : ∀ b o, b ≠ L → h'.get? b = some o → (h'.update L (Obj.mapSeq (·.push (.ref s.heap.objs.size)))).get? b = some o := fun b o hb e => (Heap.get?_update_other _ _ (Ne.symm hb)).trans e
    have ne : ∀ {T : Addr}, m ≤ T → ∀ b, b < m → T ≠ b := fun g1 b hb e => Nat.lt_irrefl b (Nat.lt_of_lt_of_le hb (e ▸ g1))
    have sU : (h'.update L (Obj.mapSeq (·.push (.ref s.heap.objs.size)))).objs.size = s.heap.objs.size + 1 := by
      have z1 : (h'.update L (Obj.mapSeq (·.push (.ref s.heap.objs.size)))).objs.size = h'.objs.size := (Heap.SameBut.update ..).1
      rw [z1, sz]
    have hLU := Heap.get?_update_self (h := h') (Obj.mapSeq (·.push (.ref s.heap.objs.size))) hL' rfl
    have eP : ((refs Ts).toArray.push (.ref s.heap.objs.size)) = (refs (Ts ++ [s.heap.objs.size])).toArray := by simp [refs]
    obtain ⟨c2, hLU2⟩ : ∃ c2, (h'.update L (Obj.mapSeq (·.push (.ref s.heap.objs.size)))).get? L = some { cls := .type "list", dict := none, data := .seq (refs (Ts ++ [s.heap.objs.size])).toArray c2, slots := #[] } := ⟨_, by
      rw [← eP]
      exact hLU⟩
    refine ih (i + 1) { s with heap := h'.update L (Obj.mapSeq (·.push (.ref s.heap.objs.size))), toks := tk } (Ts ++ [s.heap.objs.size]) c2 (by omega) lt1 (st'.at put nL) ?_ (by rw [List.length_append, hlen]; rfl) ?_ ?_ ?_ ?_ ?_
    · exact hLU2
    · rw [List.nodup_append]
      refine ⟨nd, by simp, fun a ha b hb => ?_⟩
      rw [List.mem_singleton] at hb
      rw [hb]
      exact Nat.ne_of_lt (hlt a ha)
    · intro j T hT
      rcases snoc2 hT with ⟨hj, hT⟩ | ⟨hj, hT⟩
      · obtain ⟨g1, x, y, g2, g3, g4⟩ := prs j T hT
        exact ⟨g1, x, y, g2, g3, put _ _ (ne g1 _ old.2.2.2.2) (kk _ _ (ne g1 _ old.1) (ne g1 _ old.2.1) (ne g1 _ old.2.2.1) (ne g1 _ old.2.2.2.1) g4)⟩
      · subst hT
        rw [hlen] at hj
        subst hj
        exact ⟨hm, xs[j], ys[j], Array.getElem?_eq_getElem lt1, Array.getElem?_eq_getElem lt2, put _ _ (ne hm _ old.2.2.2.2) pr⟩
    · show m ≤ (h'.update L (Obj.mapSeq (·.push (.ref s.heap.objs.size)))).objs.size
      rw [sU]
      omega
    · intro T hT
      show T < (h'.update L (Obj.mapSeq (·.push (.ref s.heap.objs.size)))).objs.size
      rw [sU]
      rcases List.mem_append.mp hT with hT | hT
      · exact Nat.lt_succ_of_lt (hlt T hT)
      · rw [List.mem_singleton] at hT
        rw [hT]
        exact Nat.lt_succ_self _
    · intro h2 tk2 Ts' c' l1 l2 l3 l4 l5
      exact q h2 tk2 Ts' c' l1 l2 l3 l4 fun b o b0 b1 b2 b3 b4 e => l5 b o b0 b1 b2 b3 b4 (put b o b0 (kk b o b1 b2 b3 b4 e))
end
end DL
end

section
set_option Elab.async false
set_option autoImplicit false
set_option linter.all false
set_option maxRecDepth 100000
set_option maxHeartbeats 4000000
/-! tuple(zip(t, u)): the call; several new tuples at once. -/
namespace DL
open PySem PySem.Spec PyProof.Rows L2

section
variable {prog : Program} {w : World} {A : Around} {E : Value → Shared → Prop} {s : Shared} {z TI TO i1 i2 t1 t2 : Addr} {xs ys : Array Value}
/-- the zip over two tuples as it begins -/
structure Z0 (h : Heap) (z TI TO i1 i2 t1 t2 : Addr) (xs ys : Array Value) : Prop where
  hz : IsZip h z TI TO .none
  ti : IsPair h TI (.ref i1) (.ref i2)
  to : ∃ a b, IsPair h TO a b
  j1 : h.IsTupleIter i1 t1 0
  u1 : h.IsTuple t1 xs
  j2 : h.IsTupleIter i2 t2 0
  u2 : h.IsTuple t2 ys
theorem z_collect {Q : List Value → Shared → Prop} (hh : A.handled = none) (S : ZipSep2 z TI TO i1 i2 [i1, t1] [i2, t2]) (e1 : t1 ≠ i1) (e2 : t2 ≠ i2) (hle : xs.size ≤ ys.size) (hsz : xs.size ≤ sizeLine) (Z : Z0 s.heap z TI TO i1 i2 t1 t2 xs ys)
    (q : ∀ h' tk Ts, Ts.length = xs.size → Ts.Nodup → Prs h' s.heap.objs.size xs ys Ts → (∀ b o, b ≠ z → b ≠ TO → b ≠ i1 → b ≠ i2 → s.heap.get? b = some o → h'.get? b = some o) → Q (refs Ts) { s with heap := h', toks := tk }) :
    wpAny (model prog w) A (collect (.ref z)) Q E s := by
  have lz : z < s.heap.objs.size := Heap.lt_size Z.hz
  have lTI : TI < s.heap.objs.size := Heap.lt_size Z.ti
  have lTO : TO < s.heap.objs.size := by
    obtain ⟨a, b, h⟩ := Z.to
    exact Heap.lt_size h
  have l1 : i1 < s.heap.objs.size := by
    obtain ⟨_, h, _⟩ := Z.j1
    exact Heap.lt_size h
  have l2 : i2 < s.heap.objs.size := by
    obtain ⟨_, h, _⟩ := Z.j2
    exact Heap.lt_size h
  have lt1 : t1 < s.heap.objs.size := by
    obtain ⟨_, h, _⟩ := Z.u1
    exact Heap.lt_size h
  have lt2 : t2 < s.heap.objs.size := by
    obtain ⟨_, h, _⟩ := Z.u2
    exact Heap.lt_size h
  have nL : s.heap.objs.size ≠ z ∧ s.heap.objs.size ≠ TI ∧ s.heap.objs.size ≠ TO ∧ s.heap.objs.size ≠ i1 ∧ s.heap.objs.size ≠ i2 ∧ s.heap.objs.size ≠ t1 ∧ s.heap.objs.size ≠ t2 :=
    ⟨Nat.ne_of_gt lz, Nat.ne_of_gt lTI, Nat.ne_of_gt lTO, Nat.ne_of_gt l1, Nat.ne_of_gt l2, Nat.ne_of_gt lt1, Nat.ne_of_gt lt2⟩
  have psh : ∀ b o, s.heap.get? b = some o → (s.heap.push { cls := .type "list", data := .seq ([] : List Value).toArray }).get? b = some o := fun b o e => Heap.get?_push_of_some _ e
  have hTy : ({ s with heap := s.heap.push { cls := .type "list", data := .seq ([] : List Value).toArray } } : Shared).TypeIs (.ref z) "zip" := ⟨_, psh _ _ Z.hz, rfl⟩
  unfold collect
  refine wpAny_bind (wpAny_runValue (codeAny_builtin F.entry_proto_collect ?_))
  rw [Around.under_plainId F.plain_proto_collect _]
  show wpAny _ A.in1 (newList [] >>= fun l => again (.builtin "list.__iadd__" ⟨[l, .ref z], []⟩)) _ _ s
  refine wpAny_bind (wpAny_newObj_type ?_)
  refine wpAny_pure ⟨plainId_quiet F.plain_list_iadd _, codeAny_builtin F.entry_list_iadd ?_⟩
  rw [Around.under_plainId F.plain_list_iadd _]
  show wpAny _ A.in1 (Builtin.List.listExtendWith (.ref s.heap.objs.size) (.ref z) (.ref s.heap.objs.size)) _ _ _
  unfold Builtin.List.listExtendWith
  refine wpAny_bind (wpAny_typeOf hTy ?_)
  have k1 : Builtin.List.listSameRef (.ref s.heap.objs.size) (.ref z) = false := by simp [Builtin.List.listSameRef, nL.1]
  have k2 : (Value.type "zip" == Value.type "list") = false := by decide
  have k3 : (Value.type "zip" == Value.type "tuple") = false := by decide
  simp only [k1, k2, k3, Bool.or_false, Bool.false_eq_true, if_false]
  refine wpAny_bind (wpAny_pyIter_zip (s := { s with heap := s.heap.push { cls := .type "list", data := .seq ([] : List Value).toArray } }) (psh _ _ Z.hz) ?_)
  refine wpAny_bind (wpAny_holding ?_)
  unfold Builtin.List.listLengthHint
  refine wpAny_bind (wpAny_specialOf hTy zip_nolen ?_)
  show wpAny _ A.in1 (specialOf (Value.ref z) (Str.ofString "__length_hint__") >>= _) _ _ _
  refine wpAny_bind (wpAny_specialOf hTy zip_nohint ?_)
  refine wpAny_pure ?_
  show wpAny _ A.in1 (rule "list.extend.makes-room" >>= fun _ => Builtin.List.listTouch (.ref s.heap.objs.size) >>= fun _ =>
    again (.builtin "list.extend.loop" ⟨[.ref s.heap.objs.size, .ref z, .ref s.heap.objs.size], []⟩)) _ _ _
  refine wpAny_bind (wpAny_rule ?_)
  have hS1 : (s.heap.push { cls := .type "list", data := .seq ([] : List Value).toArray }).get? s.heap.objs.size = some { cls := .type "list", data := .seq ([] : List Value).toArray } := Heap.get?_push_size _ rfl
  refine wpAny_bind ?_
  show wpAny _ A.in1 (updateSeq s.heap.objs.size (·.push .none) >>= fun _ => updateSeq s.heap.objs.size (·.pop)) _ _ _
  refine wpAny_bind (wpAny_updateSeq hS1 rfl ?_)
  have hS2 := Heap.get?_update_self (Obj.mapSeq (·.push Value.none)) hS1 rfl
  refine wpAny_updateSeq hS2 rfl ?_
  have hS3 := Heap.get?_update_self (Obj.mapSeq (·.pop)) hS2 rfl
  generalize hg : (((s.heap.push { cls := .type "list", data := .seq ([] : List Value).toArray }).update s.heap.objs.size (Obj.mapSeq (·.push Value.none))).update s.heap.objs.size (Obj.mapSeq (·.pop))) = g at hS3
  have oth : ∀ b o, b ≠ s.heap.objs.size → s.heap.get? b = some o → g.get? b = some o := fun b o hb e => by
    rw [← hg]
    exact (Heap.get?_update_other _ _ (Ne.symm hb)).trans ((Heap.get?_update_other _ _ (Ne.symm hb)).trans (psh b o e))
  have gsz : g.objs.size = s.heap.objs.size + 1 := by
    rw [← hg]
    have z1 := (Heap.SameBut.update (s.heap.push { cls := .type "list", data := .seq ([] : List Value).toArray }) s.heap.objs.size (Obj.mapSeq (·.push Value.none))).1
    have z2 := (Heap.SameBut.update ((s.heap.push { cls := .type "list", data := .seq ([] : List Value).toArray }).update s.heap.objs.size (Obj.mapSeq (·.push Value.none))) s.heap.objs.size (Obj.mapSeq (·.pop))).1
    rw [z2, z1, Heap.size_push]
  have ne : ∀ {b : Addr}, b < s.heap.objs.size → b ≠ s.heap.objs.size := fun h => Nat.ne_of_lt h
  obtain ⟨ta, tb, hto⟩ := Z.to
  refine wpAny_pure ⟨plainId_quiet F.plain_extend_loop _, z_loop (L := s.heap.objs.size) (m := s.heap.objs.size + 1) (A := A) hh S e1 e2 nL hle hsz ⟨Nat.lt_succ_of_lt lz, Nat.lt_succ_of_lt lTO, Nat.lt_succ_of_lt l1, Nat.lt_succ_of_lt l2, Nat.lt_succ_self _⟩ xs.size 0 { s with heap := g } [] _ rfl (Nat.zero_le _)
    ⟨oth _ _ (ne lTI) Z.ti, Z.j1.at fun o e => oth _ _ (ne l1) e, Z.u1.at fun o e => oth _ _ (ne lt1) e, Z.j2.at fun o e => oth _ _ (ne l2) e, Z.u2.at fun o e => oth _ _ (ne lt2) e, .inl ⟨oth _ _ (ne lz) Z.hz, ta, tb, oth _ _ (ne lTO) hto⟩⟩ hS3 rfl List.nodup_nil (fun j T h => by simp at h) (Nat.le_of_eq gsz.symm) (fun T h => by simp at h) fun h' tk Ts c' a1 a2 a3 a4 a5 => ?_⟩
  show wpAny _ A (load s.heap.objs.size >>= _) _ _ _
  refine wpAny_bind (wpAny_load a4 ?_)
  refine wpAny_pure ?_
  refine q h' tk Ts a1 a2 (fun j T hT => ?_) fun b o b1 b2 b3 b4 e => a5 b o (ne (Heap.lt_size e)) b1 b2 b3 b4 (oth b o (ne (Heap.lt_size e)) e)
  obtain ⟨g1, r⟩ := a3 j T hT
  exact ⟨Nat.le_of_succ_le g1, r⟩
theorem z_new {Q1 : Value → Shared → Prop} (hh : A.handled = none) (S : ZipSep2 z TI TO i1 i2 [i1, t1] [i2, t2]) (e1 : t1 ≠ i1) (e2 : t2 ≠ i2) (hle : xs.size ≤ ys.size) (hsz : xs.size ≤ sizeLine) (Z : Z0 s.heap z TI TO i1 i2 t1 t2 xs ys)
    (q : ∀ h' tk Ts, Ts.length = xs.size → Ts.Nodup → Prs h' s.heap.objs.size xs ys Ts → (∀ b o, b ≠ z → b ≠ TO → b ≠ i1 → b ≠ i2 → s.heap.get? b = some o → h'.get? b = some o) →
      Q1 (.ref h'.objs.size) { s with heap := h'.push { cls := .type "tuple", data := .seq (refs Ts).toArray }, toks := tk }) :
    codeAny (model prog w) A (.call (.builtin "tuple.__new__") ⟨[.type "tuple", .ref z], []⟩) (wants Q1 E) s := by
  refine codeAny_of_tree ?_
  show wpAny _ A.in1 (do checkBuiltinCall "tuple.__new__" ⟨[.type "tuple", .ref z], []⟩; again (.builtin "tuple.__new__" ⟨[.type "tuple", .ref z], []⟩)) _ _ s
  refine wpAny_bind (wpAny_of_eq (F.newCall_tuple_1 _) (wpAny_pure ⟨plainId_quiet F.plain_tuple_new _, codeAny_builtin F.entry_tuple_new ?_⟩))
  rw [Around.under_plainId F.plain_tuple_new _]
  have hsub := sub_tuple_self
  have hinit := init_tuple_lookup
  have hmh := madeHere_tuple
  have hTI : s.TypeIs (.ref z) "zip" := ⟨_, Z.hz, rfl⟩
  have hh1 : A.in1.handled = none := hh
  wp_walk using wpAny_typeOf hTI, z_collect (A := A.in1) hh1 S e1 e2 hle hsz Z
  intro h' tk Ts a1 a2 a3 a4
  show wpAny _ _ (Builtin.Tuple.tupleExact (refs Ts).toArray >>= fun v => ret v) _ _ _
  unfold Builtin.Tuple.tupleExact
  refine wpAny_bind (wpAny_newObj_type ?_ (by show (refs Ts).toArray.size ≤ sizeLine; simp only [refs, List.size_toArray, List.length_map]; rw [a1]; exact hsz))
  refine wpAny_pure ?_
  exact q h' tk Ts a1 a2 a3 a4
theorem call_tupleZ {Q : Value → Shared → Prop} (hh : A.handled = none) (S : ZipSep2 z TI TO i1 i2 [i1, t1] [i2, t2]) (e1 : t1 ≠ i1) (e2 : t2 ≠ i2) (hle : xs.size ≤ ys.size) (hsz : xs.size ≤ sizeLine) (Z : Z0 s.heap z TI TO i1 i2 t1 t2 xs ys)
    (q : ∀ h' tk Ts, Ts.length = xs.size → Ts.Nodup → Prs h' s.heap.objs.size xs ys Ts → (∀ b o, b ≠ z → b ≠ TO → b ≠ i1 → b ≠ i2 → s.heap.get? b = some o → h'.get? b = some o) →
      Q (.ref h'.objs.size) { s with heap := h'.push { cls := .type "tuple", data := .seq (refs Ts).toArray }, toks := tk }) :
    wpAny (model prog w) A (call (.type "tuple") [.ref z]) Q E s := by
  refine callType_codes (Q₁ := fun obj s1 => s1.TypeIs obj "tuple" ∧ Q obj s1) F.called_tuple (F.typeCall_tuple_1 _) F.entry_object_init
    (z_new (A := A.in1) hh S e1 e2 hle hsz Z fun h' tk Ts a1 a2 a3 a4 => ⟨⟨_, Heap.get?_push_size _ rfl, rfl⟩, q h' tk Ts a1 a2 a3 a4⟩) fun obj s1 h1 => ?_
  exact ⟨h1.1, F.args_object_init_2 obj _, object_init_meets F.called_tuple.init.lookup F.called_tuple.made (by decide) prog w A.in1 _ s1 ⟨h1.1, rfl, h1.2⟩⟩
end
end DL
end

section
set_option Elab.async false
set_option autoImplicit false
set_option linter.all false
set_option maxRecDepth 100000
set_option maxHeartbeats 4000000
/-! tuple(zip(t, u)) as an expression. -/
namespace DL
open PySem PySem.Spec PyProof.Rows L2

/-- several new tuples -/
def upds (H : Hp) : List (Addr × List V) → Hp
  | [] => H
  | p :: r => upd (upds H r) p.1 (.tup p.2)
theorem upds_out {H : Hp} : ∀ {l : List (Addr × List V)} {b : Addr}, b ∉ l.map (·.1) → upds H l b = H b
  | [], _, _ => rfl
  | p :: r, b, h => by
    rw [List.map_cons, List.mem_cons, not_or] at h
    unfold upds
    rw [upd_ne h.1]
    exact upds_out h.2
theorem upds_in {H : Hp} : ∀ {l : List (Addr × List V)}, (l.map (·.1)).Nodup → ∀ p ∈ l, upds H l p.1 = some (.tup p.2)
  | [], _, _, h => nomatch h
  | p :: r, nd, q, h => by
    rw [List.map_cons, List.nodup_cons] at nd
    unfold upds
    cases h with
    | head => exact upd_same
    | tail _ h =>
      rw [upd_ne fun e => nd.1 (by rw [← e]; exact List.mem_map_of_mem h)]
      exact upds_in nd.2 q h
section
variable {X : Cx} {pins : List (Addr × Obj)} {σ : L2.St} {H : Hp} {s : Shared} {h' : Heap}
theorem Inv.many {t' : Nat} (I : L2.Inv X pins σ H s) (k : ∀ b o, s.heap.get? b = some o → h'.get? b = some o) (l : List (Addr × List V)) (hp : ∀ p ∈ l, s.heap.get? p.1 = none ∧ H p.1 = none) (nd : (l.map (·.1)).Nodup)
    (new : ∀ p ∈ l, p.2.length ≤ sizeLine ∧ ∃ its : List Value, Vals p.2 its ∧ IsTup h' p.1 its.toArray) : L2.Inv X pins σ (upds H l) { s with heap := h', toks := t' } := by
  have out : ∀ b o, s.heap.get? b = some o → b ∉ l.map (·.1) := fun b o e hm => by
    rw [List.mem_map] at hm
    obtain ⟨p, hp1, e1⟩ := hm
    have := (hp p hp1).1
    rw [e1, e] at this
    cases this
  have outH : ∀ b o, H b = some o → b ∉ l.map (·.1) := fun b o e hm => by
    rw [List.mem_map] at hm
    obtain ⟨p, hp1, e1⟩ := hm
    have := (hp p hp1).2
    rw [e1, e] at this
    cases this
  have same : ∀ b o, H b = some o → upds H l b = some o := fun b o e => by
    rw [upds_out (outH b o e)]
    exact e
  refine L2.Inv.un I (h' := h') (t' := t') ⟨fun b o e _ _ _ => k b o e, fun b o e _ _ _ => ⟨o.slots, k b o e⟩, fun b o e n _ => by rw [upds_out (out b o e)]; exact n, fun b o e _ => ⟨o, k b o e⟩, fun b xs e => same b _ e, fun b o u e => same b _ e, fun b ps e => ⟨#[], by rw [same b _ e]; simp⟩⟩ fun b o e => ?_
  by_cases hb : b ∈ l.map (·.1)
  · rw [List.mem_map] at hb
    obtain ⟨p, hp1, e1⟩ := hb
    subst e1
    rw [upds_in nd p hp1] at e
    cases e
    obtain ⟨z, its, r, t⟩ := new p hp1
    exact ⟨z, its, r, t⟩
  · rw [upds_out hb] at e
    exact (I.hok b o e).stay (fun c v _ q => k c v q) (fun c q => same c _ q) fun c xs q => same c _ q
def prsV (xs ys : List V) : List (List V) := List.zipWith (fun x y => [x, y]) xs ys
def tTupZ (K : PySem.W.Frag) (ta : TA) : TE := fun σ H Q => ta σ H fun vs H2 => ∃ (a b : Addr) (xs ys : List V), vs = [.ref a, .ref b] ∧ SqT K H2 a xs ∧ SqT K H2 b ys ∧ xs.length ≤ ys.length ∧
  ∀ (p : Addr) (Ts : List Addr), Ts.length = xs.length → (p :: Ts).Nodup → (∀ t ∈ p :: Ts, H2 t = none) → Q (.ref p) (upds H2 ((p, Ts.map V.ref) :: Ts.zip (prsV xs ys)))
theorem vals_refs : ∀ Ts : List Addr, Vals (Ts.map V.ref) (refs Ts)
  | [] => .nil
  | T :: Ts => .cons rfl (vals_refs Ts)
theorem zip_map_fst {α β : Type} : ∀ {l : List α} {r : List β}, l.length = r.length → (l.zip r).map (·.1) = l
  | [], [], _ => rfl
  | [], _ :: _, h => by cases h
  | _ :: _, [], h => by cases h
  | a :: l, b :: r, h => congrArg (a :: ·) (zip_map_fst (by simpa using h))
theorem pe_tupZ {ea eb : Expr} {ta : TA} {p p2 pos pos2 : Pos} (hc : X.calm = true) (hg : Gl X "tuple") (hm : X.mg "tuple" = none) (hg2 : Gl X "zip") (hm2 : X.mg "zip" = none) (ha : PA X [ea, eb] ta)
    (hs2 : starEach [ea, eb] X.env = (false, eval ea X.env) :: starEach [eb] X.env) (hpl : (backTo pos2 (starEach [eb] X.env)).any (·.1) = false) :
    PE X (.Call (.Name "tuple" p) [.Call (.Name "zip" p2) [ea, eb] [] pos2] [] pos) (tTupZ X.K ta) := by
  refine ⟨fun pins s σ H Q I h => ?_⟩
  have hs1 : starEach [.Call (.Name "zip" p2) [ea, eb] [] pos2] X.env = (false, eval (.Call (.Name "zip" p2) [ea, eb] [] pos2) X.env) :: starEach [] X.env := rfl
  refine Call_ (ld_blt I hg hm boot_tuple (PyProof.Rows.callWith_type1 (args_cons (Call_ (ld_blt I hg2 hm2 PyProof.Rows.boot_zip (PyProof.Rows.callWith_type1 (thn (ha.run pos2 pins s σ H _ I h) fun us s1 ⟨vs, H1, I1, r1, q1⟩ => ?_) hs2 hpl))) hs1) hs1 rfl))
  obtain ⟨a, b, xs, ys, ex, hqx, hqy, hle, q⟩ := q1
  subst ex
  cases r1 with
  | cons r rr =>
    cases rr with
    | cons r' rr =>
      cases rr
      cases r
      cases r'
      obtain ⟨is1, v1, pt1, z1⟩ := I1.tuple hqx
      obtain ⟨is2, v2, pt2, z2⟩ := I1.tuple hqy
      have u1 : s1.heap.IsTuple a is1.toArray := pt1
      have u2 : s1.heap.IsTuple b is2.toArray := pt2
      have la : a < s1.heap.objs.size := by
        obtain ⟨_, h, _⟩ := u1
        exact Heap.lt_size h
      have lb : b < s1.heap.objs.size := by
        obtain ⟨_, h, _⟩ := u2
        exact Heap.lt_size h
      refine zip_begins2 (begins_tuple a is1.toArray) (begins_tuple b is2.toArray) u1 u2 fun h1 hz ti to g1 g2 sz kk => args_nil ?_
      have I2 : L2.Inv X pins σ H1 { s1 with heap := h1 } := I1.kept (t' := s1.toks) kk
      have hsA : is1.toArray.size ≤ is2.toArray.size := by rw [List.size_toArray, List.size_toArray, ← v1.length, ← v2.length]; exact hle
      have hsB : is1.toArray.size ≤ sizeLine := by rw [List.size_toArray, ← v1.length]; exact z1
      refine call_tupleZ (s := { s1 with heap := h1 }) (I1.ok.hd hc) (zip_sep2 (fun b hb => by rw [List.mem_singleton] at hb; rw [hb]; exact la) (fun b hb => by rw [List.mem_singleton] at hb; rw [hb]; exact lb)) (Nat.ne_of_lt la) (Nat.ne_of_lt (Nat.lt_succ_of_lt lb)) hsA hsB ⟨hz, ti, ⟨_, _, to⟩, ⟨_, g1, rfl, rfl⟩, u1.at fun o e => kk _ _ e, ⟨_, g2, rfl, rfl⟩, u2.at fun o e => kk _ _ e⟩ fun h' tk Ts a1 a2 a3 a4 => ?_
      have lenT : Ts.length = xs.length := by rw [a1, List.size_toArray, v1.length]
      have lenP : (prsV xs ys).length = xs.length := by
        unfold prsV
        rw [List.length_zipWith]
        omega
      have kOld : ∀ b o, s1.heap.get? b = some o → h'.get? b = some o := fun b o e => by
        have lt := Heap.lt_size e
        refine a4 b o ?_ ?_ ?_ ?_ (kk b o e)
        · exact Nat.ne_of_lt (Nat.lt_of_lt_of_le lt (Nat.le_add_right _ 4))
        · exact Nat.ne_of_lt (Nat.lt_of_lt_of_le lt (Nat.le_add_right _ 3))
        · exact Nat.ne_of_lt lt
        · exact Nat.ne_of_lt (Nat.lt_succ_of_lt lt)
      have kNew : ∀ b o, h'.get? b = some o → (h'.push { cls := .type "tuple", data := .seq (refs Ts).toArray }).get? b = some o := fun b o e => Heap.get?_push_of_some _ e
      have geT : ∀ T ∈ Ts, s1.heap.objs.size ≤ T ∧ T < h'.objs.size := fun T hT => by
        obtain ⟨j, hj⟩ := List.getElem?_of_mem hT
        obtain ⟨g, x, y, _, _, pr⟩ := a3 j T hj
        exact ⟨Nat.le_trans (by rw [sz]; exact Nat.le_add_right _ 5) g, Heap.lt_size pr⟩
      have noP : s1.heap.get? h'.objs.size = none ∧ H1 h'.objs.size = none := by
        refine ⟨?_, ?_⟩
        · cases z : s1.heap.get? h'.objs.size with
          | none => rfl
          | some o => exact absurd (Heap.lt_size (kOld _ _ z)) (Nat.lt_irrefl _)
        · cases z : H1 h'.objs.size with
          | none => rfl
          | some o => exact absurd (L2.HOk.lt (I1.hok.kept kOld) z) (Nat.lt_irrefl _)
      have noT : ∀ T ∈ Ts, s1.heap.get? T = none ∧ H1 T = none := fun T hT => by
        refine ⟨?_, I1.hok.fresh (geT T hT).1⟩
        cases z : s1.heap.get? T with
        | none => rfl
        | some o => exact absurd (Nat.lt_of_lt_of_le (Heap.lt_size z) (geT T hT).1) (Nat.lt_irrefl _)
      have ndAll : (h'.objs.size :: Ts).Nodup := List.nodup_cons.mpr ⟨fun hm => Nat.lt_irrefl _ (geT _ hm).2, a2⟩
      have J := Inv.many (t' := tk) (h' := h'.push { cls := .type "tuple", data := .seq (refs Ts).toArray }) I1 (fun b o e => kNew b o (kOld b o e)) ((h'.objs.size, Ts.map V.ref) :: Ts.zip (prsV xs ys)) (fun p hp => ?_) ?_ fun p hp => ?_
      · exact ⟨.ref h'.objs.size, _, J, rfl, q _ Ts lenT ndAll fun t ht => by
          cases ht with
          | head => exact noP.2
          | tail _ ht => exact (noT t ht).2⟩
      · cases hp with
        | head => exact noP
        | tail _ hp => exact noT _ (List.of_mem_zip hp).1
      · rw [List.map_cons, zip_map_fst (by rw [lenT, lenP])]
        exact ndAll
      · cases hp with
        | head => exact ⟨by show (Ts.map V.ref).length ≤ sizeLine; rw [List.length_map, lenT]; exact z1, refs Ts, vals_refs Ts, IsTup.new _ _⟩
        | tail _ hp =>
          obtain ⟨j, hj⟩ := List.getElem?_of_mem hp
          obtain ⟨p1, p2⟩ := p
          rw [List.getElem?_zip_eq_some] at hj
          obtain ⟨j1, j2⟩ := hj
          obtain ⟨g, x, y, ex, ey, pr⟩ := a3 j p1 j1
          have j3 : (prsV xs ys)[j]? = some p2 := j2
          unfold prsV at j3
          rw [List.getElem?_zipWith] at j3
          rw [← Array.getElem?_toList] at ex ey
          have ex2 : is1[j]? = some x := ex
          have ey2 : is2[j]? = some y := ey
          cases hx : xs[j]? with
          | none =>
            rw [hx] at j3
            cases j3
          | some xv =>
            cases hy : ys[j]? with
            | none =>
              rw [hx, hy] at j3
              cases j3
            | some yv =>
              rw [hx, hy] at j3
              cases j3
              obtain ⟨x', q1, rx⟩ := v1.get hx
              obtain ⟨y', q2, ry⟩ := v2.get hy
              rw [ex2] at q1
              rw [ey2] at q2
              cases q1
              cases q2
              exact ⟨by show 2 ≤ sizeLine; decide, [x, y], .cons rx (.cons ry .nil), ⟨_, kNew _ _ pr, rfl, _, rfl⟩⟩
end
end DL
end

section
set_option Elab.async false
set_option autoImplicit false
set_option linter.all false
set_option maxRecDepth 100000
set_option maxHeartbeats 4000000
/-! sorted of pairs of ints, however they lie. -/
namespace DL
open PySem PySem.Spec PyProof.Rows L2
section
variable {X : Cx}
def rPairs (K : PySem.W.Frag) : List V → Hp → VK → Prop := fun vs H Q => ∃ (a : Addr) (bs : List (V × Int × Int)), vs = [.ref a] ∧ SqL K H a (bs.map fun b => b.1) ∧ bs.length < 1000000 ∧ (∀ b ∈ bs, Dp K H b.1 (.tuple [.int b.2.1, .int b.2.2])) ∧
  ∀ p, H p = none → Q (.ref p) (upd H p (.lst ((bs.mergeSort fun x y => leP x.2 y.2).map fun b => b.1)))
theorem each_of {H : Hp} {s : Shared} {pins : List (Addr × Obj)} {σ : L2.St} (Iv : Inv X pins σ H s) : ∀ {bs : List (V × Int × Int)} {us : List Value}, Vals (bs.map fun b => b.1) us → (∀ b ∈ bs, Dp X.K H b.1 (.tuple [.int b.2.1, .int b.2.2])) →
    PySem.W.EachIs (fun (v : Value) (b : V × Int × Int) => RelV b.1 v) us bs ∧ PySem.W.EachIs (fun (v : Value) (b : V × Int × Int) => ∃ as, Reads s.heap v (.tuple [.int b.2.1, .int b.2.2]) as) us bs
  | [], _, .nil, _ => ⟨.nil, .nil⟩
  | b :: bs, _, .cons r rr, h => by
    obtain ⟨h1, h2⟩ := each_of Iv rr fun x hx => h x (List.mem_cons_of_mem _ hx)
    exact ⟨.cons r h1, .cons (Dp.reads Iv _ _ _ (h b List.mem_cons_self) r) h2⟩
theorem vals_each {us : List Value} {bs : List (V × Int × Int)} (h : PySem.W.EachIs (fun (v : Value) (b : V × Int × Int) => RelV b.1 v) us bs) : Vals (bs.map fun b => b.1) us := by
  induction h with
  | nil => exact .nil
  | cons a _ ih => exact .cons a ih
theorem cr_pairs (hu : X.A.units + 64 < cLine) : CallR X (.builtin "sorted") (rPairs X.K) := by
  intro pins s σ H vs us Q Iv r h
  obtain ⟨a, bs, rfl, hs, hl, hd, q⟩ := h
  obtain ⟨its, rv, pl, hz⟩ := Iv.list hs
  rw [Vals.ref1 r]
  obtain ⟨e1, e2⟩ := each_of Iv rv hd
  have hz2 : bs.length ≤ sizeLine := by
    rw [List.length_map] at hz
    exact hz
  refine PySem.W.sorted_data (enc := fun b : V × Int × Int => .tuple [.int b.2.1, .int b.2.2]) pl.isList e1 e2 (PySem.W.AllAlike.of fun _ _ => by simp [PySem.W.alike, PySem.W.alikeAll]) (PySem.W.Sortable.tuples fun _ => ⟨_, _, rfl⟩) hz2 (fun b _ => ?_) fun out hlen eo => ?_
  · have hd : (PyData.tuple [.int b.2.1, .int b.2.2]).depth = 1 := by simp [PyData.depth, PyData.depthAll]
    rw [hd]
    omega
  · rw [PySem.W.dataLe_ii (β := V × Int × Int) (fun b => b.2.1) (fun b => b.2.2)] at eo
    obtain ⟨ep, he⟩ := PyProof.Rows.sortedAll_at s.heap its out.toArray
    have hlen2 : ((bs.mergeSort fun x y => leP x.2 y.2).map fun b => b.1).length ≤ sizeLine := by
      rw [List.length_map, List.length_mergeSort]
      exact hz2
    exact ⟨.ref _, upd H (s.heap.objs.size + 1) (.lst ((bs.mergeSort fun x y => leP x.2 y.2).map fun b => b.1)), Iv.laid (t' := s.toks) (fun _ _ => PyProof.Rows.sortedAll_old) (Nat.le_succ _) ⟨hlen2, out, ep, vals_each eo, he⟩, rfl, q _ (Iv.hok.fresh (Nat.le_succ _))⟩
end
end DL
end

section
set_option autoImplicit false
set_option linter.all false
/-! Built-ins of one argument, isinstance. -/
namespace DL
open PySem PySem.Spec PyProof.Rows L2
variable [TabI]

def O1Sem (X : Cx) (f : Value) (o : O1) : Prop := ∃ r : List V → Hp → VK → Prop, CallR X f r ∧ ∀ (x z : D), o1 o x = some z → ∀ (F G : Hp) (μ : Nat → Addr) (S : Store) (H : Hp) (v : V), Rel X.K F G μ S H → RepT X.K F H x v → ∀ Q : VK, (∀ u H', Res X.K F H z u H' → Q u H') → r [v] H Q
theorem bind_some_out {α β : Type} {a : Option α} {f : α → Option β} {z : β} (h : a.bind f = some z) : ∃ x, a = some x ∧ f x = some z := by
  cases a with
  | none => cases h
  | some x => exact ⟨x, rfl, h⟩
theorem asI_out {x : D} {i : Int} (h : asI x = some i) : x = .int i := by
  cases x <;> first | (cases h; rfl) | cases h
theorem asL_out {x : D} {i : List D} (h : asL x = some i) : x = .lst i := by
  cases x <;> first | (cases h; rfl) | cases h
theorem asT_out {x : D} {i : List D} (h : asT x = some i) : x = .tup i := by
  cases x <;> first | (cases h; rfl) | cases h
mutual
theorem py_hasDict : ∀ d : D, d.flat = true → d.py.hasDict = false
  | .non, _ => by simp [D.py, PyData.hasDict]
  | .bl _, _ => by simp [D.py, PyData.hasDict]
  | .int _, _ => by simp [D.py, PyData.hasDict]
  | .str _, _ => by simp [D.py, PyData.hasDict]
  | .tup xs, h => by
    simp only [D.py, PyData.hasDict]
    exact pys_hasDict xs (by simpa [D.flat] using h)
  | .lst xs, h => by
    simp only [D.py, PyData.hasDict]
    exact pys_hasDict xs (by simpa [D.flat] using h)
  | .dct _, h => by simp [D.flat] at h
  | .scr _, h => by simp [D.flat] at h
theorem pys_hasDict : ∀ ds : List D, D.flats ds = true → PyData.hasDictAll (D.pys ds) = false
  | [], _ => by simp [D.pys, PyData.hasDictAll]
  | d :: ds, h => by
    rw [D.flats, Bool.and_eq_true] at h
    simp only [D.pys, PyData.hasDictAll]
    rw [py_hasDict d h.1, pys_hasDict ds h.2]
    rfl
end
section
variable {X : Cx} {K : PySem.W.Frag} {F G H : Hp} {μ : Nat → Addr} {S : Store}
/-- repr of plain data -/
theorem call_reprD (hg : X.A.guards = some []) (hu : X.A.units + 64 < cLine) : CallR X (.builtin "repr") (fun xs H Q => ∃ (x : V) (d : PyData), xs = [x] ∧ Dp X.K H x d ∧ d.showable = true ∧ d.hasDict = false ∧ d.depth ≤ 60 ∧ d.shown.length ≤ sizeLine ∧ Q (.str d.shown) H) := by
  intro pins s σ H xs us Q I r h
  obtain ⟨x, d, rfl, hd, hs, hn, hdp, hz, q⟩ := h
  obtain ⟨u, rfl, rx⟩ := vals1 r
  obtain ⟨as, rd⟩ := Dp.reads I d x u hd rx
  have go : ∀ a : Addr, u = .ref a → wpAny (model X.prog X.w) X.A (call (.builtin "repr") [u]) (EP X pins σ Q) X.xe s := fun a e => by
    subst e
    exact repr_of_reads' rd hs (PyData.noDict_hsm hn) hg (by omega) (fun _ _ e => e) (fun h' t tk hk => ⟨.str d.shown, H, I.kept (t' := tk) hk, ⟨t, rfl⟩, q⟩) hz
  cases rd with
  | none =>
    rw [PyData.shown] at q
    exact PySem.P.repr_of_none ⟨.str (Str.ofString "None"), H, I.tok _, ⟨_, rfl⟩, q⟩
  | bool b =>
    rw [PyData.shown] at q
    exact PySem.P.repr_of_bool ⟨.str (if b = true then Str.ofString "True" else Str.ofString "False"), H, I.tok _, ⟨_, rfl⟩, q⟩
  | int i t =>
    rw [PyData.shown] at q
    exact PySem.P.repr_of_int (by simpa [PyData.showable] using hs) ⟨.str (Str.ofString (toString i)), H, I.tok _, ⟨_, rfl⟩, q⟩
  | str z t =>
    rw [PyData.shown] at q hz
    exact PySem.P.repr_of_str ⟨.str (reprText z), H, I.tok _, ⟨_, rfl⟩, q⟩ hz
  | list _ _ _ _ => exact go _ rfl
  | tuple _ _ _ _ => exact go _ rfl
  | dict _ _ _ _ _ => exact go _ rfl
theorem sem_len : O1Sem X (.builtin "len") .len := by
  refine ⟨_, CallR.or call_len_seq call_len_str, fun x z e F G μ S H v R rx Q q => ?_⟩
  obtain ⟨i, hi, e2⟩ := bind_some_out (a := lenD x) e
  cases e2
  cases x with
  | lst xs =>
    cases hi
    obtain ⟨a, vs, rfl, h1, h2⟩ := rx.lst R.fr
    rw [h2.length] at q
    exact .inl ⟨a, vs, rfl, .inl (.inl (.inl h1)), q _ _ (.same (.int _))⟩
  | scr xs =>
    cases hi
    obtain ⟨a, vs, rfl, h1, h2⟩ := rx.scr R.fr
    rw [h2.length] at q
    exact .inl ⟨a, vs, rfl, .inl h1, q _ _ (.same (.int _))⟩
  | tup xs =>
    cases hi
    obtain ⟨a, vs, rfl, h1, h2⟩ := rx.sqT R.fr
    rw [h2.length] at q
    exact .inl ⟨a, vs, rfl, .inr h1, q _ _ (.same (.int _))⟩
  | str y =>
    obtain ⟨h1, rfl⟩ := ite_some (show (if fits y.length = true then some ((y.length : Nat) : Int) else none) = some i from hi)
    exact .inr ⟨y, by rw [rx.str], fits_le h1, q _ _ (.same (.int _))⟩
  | _ => cases hi
theorem sem_sum (hc : X.calm = true) : O1Sem X (.builtin "sum") .sum := by
  refine ⟨_, cr_sum hc, fun x z e F G μ S H v R rx Q q => ?_⟩
  obtain ⟨xs, hi, e2⟩ := bind_some_out (a := asL x) e
  obtain ⟨ns, hn, e3⟩ := bind_some_out e2
  cases e3
  have e4 := asL_out hi
  subst e4
  obtain ⟨a, vs, rfl, h1, h2⟩ := rx.lst R.fr
  obtain ⟨h3, _⟩ := h2.isInts hn
  subst h3
  exact ⟨a, ns, rfl, .inl (.inl h1), q _ _ (.same (.int _))⟩
theorem sem_sumT (hc : X.calm = true) : O1Sem X (.builtin "sum") .sumT := by
  refine ⟨_, cr_sumT hc, fun x z e F G μ S H v R rx Q q => ?_⟩
  obtain ⟨xs, hi, e2⟩ := bind_some_out (a := asT x) e
  obtain ⟨ns, hn, e3⟩ := bind_some_out e2
  cases e3
  have e4 := asT_out hi
  subst e4
  obtain ⟨a, vs, rfl, h1, h2⟩ := rx.sqT R.fr
  obtain ⟨h3, _⟩ := h2.isInts hn
  subst h3
  exact ⟨a, ns, rfl, h1, q _ _ (.same (.int _))⟩
theorem sem_all (hc : X.calm = true) : O1Sem X (.builtin "all") .all := by
  refine ⟨_, cr_all hc, fun x z e F G μ S H v R rx Q q => ?_⟩
  obtain ⟨xs, hi, e2⟩ := bind_some_out (a := asL x) e
  obtain ⟨ns, hn, e3⟩ := bind_some_out e2
  cases e3
  have e4 := asL_out hi
  subst e4
  obtain ⟨a, vs, rfl, h1, h2⟩ := rx.lst R.fr
  have h3 := h2.isBools hn
  subst h3
  exact ⟨a, ns, rfl, .inl (.inl h1), q _ _ (.same (.bl _))⟩
theorem sem_any (hc : X.calm = true) : O1Sem X (.builtin "any") .any := by
  refine ⟨_, cr_any hc, fun x z e F G μ S H v R rx Q q => ?_⟩
  obtain ⟨xs, hi, e2⟩ := bind_some_out (a := asL x) e
  obtain ⟨ns, hn, e3⟩ := bind_some_out e2
  cases e3
  have e4 := asL_out hi
  subst e4
  obtain ⟨a, vs, rfl, h1, h2⟩ := rx.lst R.fr
  have h3 := h2.isBools hn
  subst h3
  exact ⟨a, ns, rfl, .inl (.inl h1), q _ _ (.same (.bl _))⟩
theorem sem_abs : O1Sem X (.builtin "abs") .abs := by
  refine ⟨_, call_abs, fun x z e F G μ S H v R rx Q q => ?_⟩
  obtain ⟨i, hi, e2⟩ := bind_some_out (a := asI x) e
  cases e2
  have e4 := asI_out hi
  subst e4
  exact ⟨i, by rw [rx.int], q _ _ (.same (.int _))⟩
theorem sem_int : O1Sem X (.type "int") .int := by
  refine ⟨_, call_int1, fun x z e F G μ S H v R rx Q q => ?_⟩
  obtain ⟨i, hi, e2⟩ := bind_some_out (a := intD x) e
  cases e2
  cases x with
  | int j =>
    cases hi
    exact .inl ⟨i, by rw [rx.int], q _ _ (.same (.int _))⟩
  | bl b =>
    cases hi
    exact .inr ⟨b, by rw [rx.bl], q _ _ (.same (.int _))⟩
  | _ => cases hi
theorem sem_str : O1Sem X (.type "str") .str := by
  refine ⟨_, call_str_int, fun x z e F G μ S H v R rx Q q => ?_⟩
  obtain ⟨i, hi, e2⟩ := bind_some_out (a := asI x) e
  have e4 := asI_out hi
  subst e4
  obtain ⟨h1, rfl⟩ := ite_some e2
  exact ⟨i, by rw [rx.int], of_decide_eq_true h1, q _ _ (.same (.str _))⟩
theorem sem_repr (hg : X.A.guards = some []) (hu : X.A.units + 64 < cLine) : O1Sem X (.builtin "repr") .repr := by
  refine ⟨_, call_reprD hg hu, fun x z e F G μ S H v R rx Q q => ?_⟩
  obtain ⟨h1, rfl⟩ := ite_some e
  rw [showOk, Bool.and_eq_true, Bool.and_eq_true, Bool.and_eq_true] at h1
  obtain ⟨⟨⟨a1, a2⟩, a3⟩, a4⟩ := h1
  exact ⟨v, x.py, rfl, (rx.now R).dp a1, a2, py_hasDict x a1, of_decide_eq_true a3, fits_le a4, q _ _ (.same (.str _))⟩
theorem sem_tupleL : O1Sem X (.type "tuple") .tupleL := by
  refine ⟨_, call_tuple_of, fun x z e F G μ S H v R rx Q q => ?_⟩
  obtain ⟨xs, hi, e2⟩ := bind_some_out (a := asL x) e
  cases e2
  have e4 := asL_out hi
  subst e4
  obtain ⟨a, vs, rfl, h1, h2⟩ := rx.lst R.fr
  exact ⟨a, vs, rfl, .inl ⟨.inl (.inl h1), fun l hl => q _ _ (.tup hl h2)⟩⟩
theorem sem_tupleT : O1Sem X (.type "tuple") .tupleT := by
  refine ⟨_, call_tuple_of, fun x z e F G μ S H v R rx Q q => ?_⟩
  obtain ⟨xs, hi, e2⟩ := bind_some_out (a := asT x) e
  cases e2
  have e4 := asT_out hi
  subst e4
  cases rx with
  | p hx =>
    cases hx with
    | tup h1 h2 => exact ⟨_, _, rfl, .inr ⟨R.fr.sqT h1, q _ _ (.same (.tup h1 h2))⟩⟩
theorem listL_sem {xs : List D} (R : Rel X.K F G μ S H) {v : V} (rx : RepT X.K F H (.lst xs) v) {Q : VK} (q : ∀ u H', ResN X.K F H xs u H' → Q u H') : ∃ p ys, [v] = [.ref p] ∧ (SqL X.K H p ys ∨ SqT X.K H p ys) ∧ ∀ l, H l = none → Q (.ref l) (upd H l (.lst ys)) := by
  obtain ⟨a, vs, rfl, h1, h2⟩ := rx.lst R.fr
  exact ⟨a, vs, rfl, .inl (.inl (.inl h1)), fun l hl => q _ _ ⟨l, vs, hl, h2, rfl, rfl⟩⟩
theorem listT_sem {xs : List D} (R : Rel X.K F G μ S H) {v : V} (rx : RepT X.K F H (.tup xs) v) {Q : VK} (q : ∀ u H', ResN X.K F H xs u H' → Q u H') : ∃ p ys, [v] = [.ref p] ∧ (SqL X.K H p ys ∨ SqT X.K H p ys) ∧ ∀ l, H l = none → Q (.ref l) (upd H l (.lst ys)) := by
  obtain ⟨a, vs, rfl, h1, h2⟩ := rx.sqT R.fr
  exact ⟨a, vs, rfl, .inr h1, fun l hl => q _ _ ⟨l, vs, hl, h2, rfl, rfl⟩⟩
theorem sortI_eq {ns ns' : List Int} (hp : ns'.Perm ns) (hs : ns'.Pairwise (· ≤ ·)) : ns' = sortI ns := by
  have h1 : (sortI ns).Pairwise (· ≤ ·) := (List.pairwise_mergeSort (le := fun a b : Int => decide (a ≤ b)) (fun a b c h1 h2 => by
    simp only [decide_eq_true_eq] at *
    omega) (fun a b => by
    simp only [Bool.or_eq_true, decide_eq_true_eq]
    omega) ns).imp fun h => of_decide_eq_true h
  exact List.Perm.eq_of_pairwise (fun a b _ _ h1 h2 => Int.le_antisymm h1 h2) hs h1 (hp.trans (List.mergeSort_perm ns _).symm)
theorem sortedI_sem {xs : List D} {ns : List Int} (hn : intsOf xs = some ns) (R : Rel X.K F G μ S H) {v : V} (rx : RepT X.K F H (.lst xs) v) {Q : VK} (q : ∀ u H', ResN X.K F H ((sortI ns).map .int) u H' → Q u H') : rSortedI X.K [v] H Q := by
  obtain ⟨a, vs, rfl, h1, h2⟩ := rx.lst R.fr
  obtain ⟨h3, _⟩ := h2.isInts hn
  subst h3
  refine ⟨a, ns, rfl, .inl (.inl h1), fun ns' p hp hs hf => ?_⟩
  rw [sortI_eq hp hs]
  exact q _ _ ⟨p, _, hf, RepL.ofInts _, rfl, rfl⟩
theorem resN_res {xs : List D} {u : V} {H' : Hp} (h : ResN K F H xs u H') : Res K F H (.lst xs) u H' := by
  obtain ⟨p, vs, hp, rl, rfl, rfl⟩ := h
  exact .lst hp rl
theorem sem_listL : O1Sem X (.type "list") .listL := by
  refine ⟨_, call_list_of, fun x z e F G μ S H v R rx Q q => ?_⟩
  obtain ⟨xs, hi, e2⟩ := bind_some_out (a := asL x) e
  cases e2
  have e4 := asL_out hi
  subst e4
  exact listL_sem R rx fun u H' h => q u H' (resN_res h)
theorem sem_listT : O1Sem X (.type "list") .listT := by
  refine ⟨_, call_list_of, fun x z e F G μ S H v R rx Q q => ?_⟩
  obtain ⟨xs, hi, e2⟩ := bind_some_out (a := asT x) e
  cases e2
  have e4 := asT_out hi
  subst e4
  exact listT_sem R rx fun u H' h => q u H' (resN_res h)
theorem sem_sortedI : O1Sem X (.builtin "sorted") .sortedI := by
  refine ⟨_, cr_sortedI, fun x z e F G μ S H v R rx Q q => ?_⟩
  obtain ⟨xs, hi, e2⟩ := bind_some_out (a := asL x) e
  obtain ⟨ns, hn, e3⟩ := bind_some_out e2
  cases e3
  have e4 := asL_out hi
  subst e4
  exact sortedI_sem hn R rx fun u H' h => q u H' (resN_res h)
theorem prs_bs : ∀ {xs : List D} {vs : List V} {ps : List (Int × Int)}, RepL K F xs vs → prsOf xs = some ps → ∃ bs : List (V × Int × Int), vs = bs.map (fun b => b.1) ∧ ps = bs.map (fun b => b.2) ∧ ∀ b ∈ bs, RepP K F (prDt b.2) b.1
  | _, _, _, .nil, h => by
    cases h
    exact ⟨[], rfl, rfl, fun b hb => by cases hb⟩
  | x :: xs, v :: vs, ps, .cons h1 r, h => by
    obtain ⟨p, hp, h⟩ := bind_some_out (a := prOf x) h
    cases hq : prsOf xs with
    | none =>
      rw [hq] at h
      cases h
    | some pr =>
      rw [hq] at h
      cases h
      obtain ⟨bs, e1, e2, e3⟩ := prs_bs r hq
      have ex : x = prDt p := by
        unfold prOf at hp
        split at hp
        · cases hp
          rfl
        · cases hp
      refine ⟨(v, p) :: bs, by rw [e1]; rfl, by rw [e2]; rfl, fun b hb => ?_⟩
      cases hb with
      | head => rw [← ex]; exact h1
      | tail _ hb => exact e3 b hb
theorem repL_bs {bs : List (V × Int × Int)} (h : ∀ b ∈ bs, RepP K F (prDt b.2) b.1) : RepL K F (bs.map fun b => prDt b.2) (bs.map fun b => b.1) := by
  induction bs with
  | nil => exact .nil
  | cons b bs ih => exact .cons (h b List.mem_cons_self) (ih fun x hx => h x (List.mem_cons_of_mem _ hx))
theorem prDt_flat (p : Int × Int) : (prDt p).flat = true := by simp [prDt, D.flat, D.flats]
theorem prDt_py (p : Int × Int) : (prDt p).py = .tuple [.int p.1, .int p.2] := by simp [prDt, D.py, D.pys]
theorem sortedP_sem {xs : List D} {ps : List (Int × Int)} (hn : prsOf xs = some ps) (hl : ps.length < 1000000) (R : Rel X.K F G μ S H) {v : V} (rx : RepT X.K F H (.lst xs) v) {Q : VK} (q : ∀ u H', ResN X.K F H ((sortPr ps).map prDt) u H' → Q u H') : rPairs X.K [v] H Q := by
  obtain ⟨a, vs, rfl, h1, h2⟩ := rx.lst R.fr
  obtain ⟨bs, rfl, rfl, h3⟩ := prs_bs h2 hn
  refine ⟨a, bs, rfl, .inl (.inl h1), by simpa using hl, fun b hb => ?_, fun p hp => ?_⟩
  · have z := ((h3 b hb).mono R.fr).dp (prDt_flat b.2)
    rwa [prDt_py] at z
  · refine q _ _ ⟨p, _, hp, ?_, rfl, rfl⟩
    have e : sortPr (bs.map fun b => b.2) = (bs.mergeSort fun x y => leP x.2 y.2).map fun b => b.2 := by
      unfold sortPr
      exact (List.map_mergeSort (r := fun x y : V × Int × Int => leP x.2 y.2) (s := leP) (f := fun b : V × Int × Int => b.2) (l := bs) fun a _ b _ => rfl).symm
    rw [e, List.map_map]
    exact repL_bs fun b hb => h3 b (by simpa using hb)
theorem sem_sortedP (hu : X.A.units + 64 < cLine) : O1Sem X (.builtin "sorted") .sortedP := by
  refine ⟨_, cr_pairs hu, fun x z e F G μ S H v R rx Q q => ?_⟩
  obtain ⟨xs, hi, e2⟩ := bind_some_out (a := asL x) e
  obtain ⟨ps, hn, e3⟩ := bind_some_out e2
  obtain ⟨hl, e3⟩ := ite_some e3
  cases e3
  have e4 := asL_out hi
  subst e4
  exact sortedP_sem hn (of_decide_eq_true hl) R rx fun u H' h => q u H' (resN_res h)
theorem sem_minL (hc : X.calm = true) : O1Sem X (.builtin "min") .minL := by
  refine ⟨_, cr_min hc, fun x z e F G μ S H v R rx Q q => ?_⟩
  obtain ⟨xs, hi, e2⟩ := bind_some_out (a := asL x) e
  obtain ⟨ns, hn, e3⟩ := bind_some_out e2
  obtain ⟨m, hm, e5⟩ := bind_some_out e3
  cases e5
  have e4 := asL_out hi
  subst e4
  obtain ⟨a, vs, rfl, h1, h2⟩ := rx.lst R.fr
  obtain ⟨h3, _⟩ := h2.isInts hn
  subst h3
  obtain ⟨m1, m2⟩ := List.min?_eq_some_iff.mp hm
  refine ⟨a, ns, rfl, .inl (.inl h1), List.length_pos_of_mem m1, fun m' k1 k2 => ?_⟩
  have em : m' = m := Int.le_antisymm (k2 m m1) (m2 m' k1)
  rw [em]
  exact q _ _ (.same (.int _))
theorem sem_maxL (hc : X.calm = true) : O1Sem X (.builtin "max") .maxL := by
  refine ⟨_, cr_max hc, fun x z e F G μ S H v R rx Q q => ?_⟩
  obtain ⟨xs, hi, e2⟩ := bind_some_out (a := asL x) e
  obtain ⟨ns, hn, e3⟩ := bind_some_out e2
  obtain ⟨m, hm, e5⟩ := bind_some_out e3
  cases e5
  have e4 := asL_out hi
  subst e4
  obtain ⟨a, vs, rfl, h1, h2⟩ := rx.lst R.fr
  obtain ⟨h3, _⟩ := h2.isInts hn
  subst h3
  obtain ⟨m1, m2⟩ := List.max?_eq_some_iff.mp hm
  refine ⟨a, ns, rfl, .inl (.inl h1), List.length_pos_of_mem m1, fun m' k1 k2 => ?_⟩
  have em : m' = m := Int.le_antisymm (m2 m' k1) (k2 m m1)
  rw [em]
  exact q _ _ (.same (.int _))
/-- what stands in the builtins at these names -/
def valB : O1 → Value
  | .len => .builtin "len"
  | .sum => .builtin "sum"
  | .sumT => .builtin "sum"
  | .all => .builtin "all"
  | .any => .builtin "any"
  | .abs => .builtin "abs"
  | .int => .type "int"
  | .str => .type "str"
  | .repr => .builtin "repr"
  | .tupleL => .type "tuple"
  | .tupleT => .type "tuple"
  | .listL => .type "list"
  | .listT => .type "list"
  | .sortedI => .builtin "sorted"
  | .minL => .builtin "min"
  | .maxL => .builtin "max"
  | .sortedP => .builtin "sorted"
  | _ => .none
theorem o1_sem (hc : X.calm = true) (hg : X.A.guards = some []) (hu : X.A.units + 64 < cLine) {o : O1} {nm : String} {b : Bool} (h : o1Nm o = some (nm, b)) : O1Sem X (valB o) o := by
  cases o with
  | len => exact sem_len
  | sum => exact sem_sum hc
  | sumT => exact sem_sumT hc
  | all => exact sem_all hc
  | any => exact sem_any hc
  | abs => exact sem_abs
  | int => exact sem_int
  | str => exact sem_str
  | repr => exact sem_repr hg hu
  | tupleL => exact sem_tupleL
  | tupleT => exact sem_tupleT
  | listL => exact sem_listL
  | listT => exact sem_listT
  | sortedI => exact sem_sortedI
  | minL => exact sem_minL hc
  | maxL => exact sem_maxL hc
  | sortedP => exact sem_sortedP hu
  | neg => cases h
  | lenSetI => cases h
  | sortedSetI => cases h
theorem boots (nm : String) (h : nm ∈ ["len", "sum", "all", "any", "abs", "repr", "sorted", "min", "max", "isinstance"]) : bootBuiltins nm = some (.builtin nm) := by
  simp only [List.mem_cons, List.not_mem_nil, or_false] at h
  rcases h with rfl | rfl | rfl | rfl | rfl | rfl | rfl | rfl | rfl | rfl <;> decide +kernel
theorem bootTs (nm : String) (h : nm ∈ ["int", "str", "tuple", "list", "bool", "dict"]) : bootBuiltins nm = some (.type nm) := by
  simp only [List.mem_cons, List.not_mem_nil, or_false] at h
  rcases h with rfl | rfl | rfl | rfl | rfl | rfl <;> decide +kernel
/-! isinstance -/
theorem ty_of {x : D} {v : V} (h : RepP K H x v) : ∃ T, TyX K H v (.type T) ∧ ∀ k, kitB T (tyNm k) = some (isa k x) := by
  cases h with
  | non => exact ⟨"NoneType", .base .non, fun k => by cases k <;> decide +kernel⟩
  | bl b => exact ⟨"bool", .base (.bl b), fun k => by cases k <;> first | (show kitB _ _ = some true; decide +kernel) | (show kitB _ _ = some false; decide +kernel)⟩
  | int b => exact ⟨"int", .base (.int b), fun k => by cases k <;> first | (show kitB _ _ = some true; decide +kernel) | (show kitB _ _ = some false; decide +kernel)⟩
  | str b => exact ⟨"str", .base (.str b), fun k => by cases k <;> first | (show kitB _ _ = some true; decide +kernel) | (show kitB _ _ = some false; decide +kernel)⟩
  | tup h1 _ =>
    refine ⟨"tuple", ?_, fun k => by cases k <;> first | (show kitB "tuple" _ = some true; decide +kernel) | (show kitB "tuple" _ = some false; decide +kernel)⟩
    rcases h1 with (h1 | ⟨o, h1⟩) | ⟨o, its, n, hk, hc, _⟩
    · exact .base (.tup h1)
    · exact .fTuple h1
    · exact .kTuple hk hc
  | lst h1 _ => exact ⟨"list", .base (.lst h1), fun k => by cases k <;> first | (show kitB "list" _ = some true; decide +kernel) | (show kitB "list" _ = some false; decide +kernel)⟩
  | scr h1 _ =>
    refine ⟨"list", ?_, fun k => by cases k <;> first | (show kitB "list" _ = some true; decide +kernel) | (show kitB "list" _ = some false; decide +kernel)⟩
    rcases h1 with (h1 | ⟨o, h1⟩) | ⟨o, its, n, hk, hc, _⟩
    · exact .base (.lst h1)
    · exact .base (.frz h1)
    · exact .kList hk hc
  | dct h1 _ => exact ⟨"dict", .base (.dK h1), fun k => by cases k <;> first | (show kitB "dict" _ = some true; decide +kernel) | (show kitB "dict" _ = some false; decide +kernel)⟩
end
end DL
end

section
set_option autoImplicit false
set_option linter.all false
/-! Expressions: each form against what the tongue computes. -/
namespace DL
open PySem PySem.Spec PyProof.Rows L2
variable [TabI]

theorem u65 {k : Nat} {A : Around} (r : Room k A) : A.units + 65 < cLine := by have := r.un; omega
abbrev SndX (X : Cx) (g : Ev) (ck : Ck1) : Prop := ∀ (t : Tm) (e : Expr), ck t e = true → ∀ (ρ : Env) (S : Store) (x : E) (S' : Store), g t ρ S = some (x, S') → ∀ (F G : Hp) (μ : Nat → Addr) (σ : L2.St) (H : Hp), Rel X.K F G μ S H → RelEnv X.K F μ S ρ σ → sem X e σ H (Lift X.K F G μ S x S')
abbrev LiftA (K : PySem.W.Frag) (F G : Hp) (μ : Nat → Addr) (S : Store) (xs : List E) (S' : Store) : List V → Hp → Prop := fun vs H' => ∃ F' μ', Ext F μ S F' μ' S' ∧ Rel K F' G μ' S' H' ∧ RepEs K F' μ' S' xs vs
theorem Lift.of {K : PySem.W.Frag} {F G H : Hp} {μ : Nat → Addr} {S : Store} {x : E} {v : V} (R : Rel K F G μ S H) (h : RepE K F μ S x v) : Lift K F G μ S x S v H := ⟨F, μ, Ext.refl F μ S, R, h⟩
theorem Lift.trans {K : PySem.W.Frag} {F G H F1 : Hp} {μ μ1 : Nat → Addr} {S S1 S2 : Store} {x : E} {v : V} (e : Ext F μ S F1 μ1 S1) (h : Lift K F1 G μ1 S1 x S2 v H) : Lift K F G μ S x S2 v H := by
  obtain ⟨F2, μ2, e2, R, r⟩ := h
  exact ⟨F2, μ2, e.trans e2, R, r⟩
theorem LiftN.trans {K : PySem.W.Frag} {F G H F1 : Hp} {μ μ1 : Nat → Addr} {S S1 S2 : Store} {x : List D} {v : V} (e : Ext F μ S F1 μ1 S1) (h : LiftN K F1 G μ1 S1 x S2 v H) : LiftN K F G μ S x S2 v H := by
  obtain ⟨F2, μ2, H0, e2, R, r⟩ := h
  exact ⟨F2, μ2, H0, e.trans e2, R, r⟩
theorem and2 {a b : Bool} (h : (a && b) = true) : a = true ∧ b = true := by
  rw [Bool.and_eq_true] at h
  exact h
theorem not_t {b : Bool} (h : (!b) = true) : b = false := by
  cases b with
  | true => cases h
  | false => rfl
theorem asD_out {x : E} {d : D} (h : asD x = some d) : x = .d d := by
  cases x with
  | d x =>
    cases h
    rfl
  | r n => cases h
theorem isTrueD_out {x : E} {b : Bool} (h : isTrueD x = some b) : x = .d (.bl b) := by
  cases x with
  | d x => cases x <;> first | (cases h; rfl) | cases h
  | r n => cases h
section
variable {X : Cx} {g : Ev} {ck : Ck1} {ρ : Env} {S S' : Store} {x : E} {F G : Hp} {μ : Nat → Addr} {σ : L2.St} {H : Hp}
theorem two (h : SndX X g ck) {a b : Tm} {ea eb : Expr} (ca : ck a ea = true) (cb : ck b eb = true) {p q : E × Store} (ga : g a ρ S = some p) (gb : g b ρ p.2 = some q) (R : Rel X.K F G μ S H) (RE : RelEnv X.K F μ S ρ σ) {r : R2} {Q : VK}
    (hq : ∀ F' μ' v w H', Ext F μ S F' μ' q.2 → Rel X.K F' G μ' q.2 H' → RepE X.K F' μ' q.2 p.1 v → RepE X.K F' μ' q.2 q.1 w → r v w H' Q) : tOp r (sem X ea) (sem X eb) σ H Q := by
  refine sem_mono (h a ea ca ρ S p.1 p.2 ga F G μ σ H R RE) fun v H1 ⟨F1, μ1, e1, R1, r1⟩ => ?_
  refine sem_mono (h b eb cb ρ p.2 q.1 q.2 gb F1 G μ1 σ H1 R1 (RE.mono e1)) fun w H2 ⟨F2, μ2, e2, R2, r2⟩ => ?_
  exact hq F2 μ2 v w H2 (e1.trans e2) R2 (r1.mono e2) r2
theorem args (h : SndX X g ck) : ∀ (as : List Tm) (es : List Expr), (∀ t e, ck t e = true → okHead e = true) → chkAll ck as es = true → ∀ (ρ : Env) (S : Store) (xs : List E) (S' : Store), evs g as ρ S = some (xs, S') → ∀ (F : Hp) (μ : Nat → Addr) (H : Hp), Rel X.K F G μ S H → RelEnv X.K F μ S ρ σ → semA X es σ H (LiftA X.K F G μ S xs S')
  | [], [], _, _, ρ, S, xs, S', e, F, μ, H, R, RE => by
    cases e
    exact to_semA pa_nil ⟨F, μ, Ext.refl F μ S, R, .nil⟩
  | [], _ :: _, _, c, _, _, _, _, _, _, _, _, _, _ => by cases c
  | _ :: _, [], _, c, _, _, _, _, _, _, _, _, _, _ => by cases c
  | t :: ts, e :: es, hk, c, ρ, S, xs, S', ev, F, μ, H, R, RE => by
    obtain ⟨c1, c2⟩ := and2 c
    obtain ⟨p, ga, ev⟩ := bind_some_out ev
    obtain ⟨q, gb, ev⟩ := bind_some_out ev
    cases ev
    refine to_semA (pa_cons pe_sem pa_sem (star_of (hk t e c1))) ?_
    refine sem_mono (h t e c1 ρ S p.1 p.2 ga F G μ σ H R RE) fun v H1 ⟨F1, μ1, e1, R1, r1⟩ => ?_
    refine semA_mono (args h ts es hk c2 ρ p.2 q.1 q.2 gb F1 μ1 H1 R1 (RE.mono e1)) fun vs H2 ⟨F2, μ2, e2, R2, r2⟩ => ?_
    exact ⟨F2, μ2, e1.trans e2, R2, .cons (r1.mono e2) r2⟩
theorem vis_of {sc : Scope} {x : Str} (h : visC sc x = true) : Vis sc x := by
  unfold visC at h
  split at h
  · exact .inl (by assumption)
  · exact .inr (.inl (by assumption))
  · exact .inr (.inr (by assumption))
  · cases h
theorem gl_of {sc : Scope} {x : Str} (h : glC sc x = true) (hs : X.env.scope = sc) : Gl X x := by
  unfold glC at h
  split at h
  · unfold Gl Env.kindOf
    rw [hs]
    assumption
  · cases h
theorem okName_of {x : Str} (h : okName x = true) : (x == ("__debug__" : Str)) = false ∧ (x == ("__classdict__" : Str)) = false ∧ x ≠ "__name__" := by
  obtain ⟨h1, h3⟩ := and2 h
  obtain ⟨h1, h2⟩ := and2 h1
  exact ⟨not_t h1, not_t h2, of_decide_eq_true h3⟩
structure Bi (X : Cx) (x : Str) (nm : String) : Prop where
  nm : x = (nm : Str)
  m : X.mg x = none
  g : Gl X x
  d : (x == ("__debug__" : Str)) = false
  n : x ≠ "__name__"
theorem bi_of {P : Prm} {sc : Scope} {x : Str} {nm : String} (h : biC P sc x nm = true) (hs : X.env.scope = sc) (hb : ∀ x, P.bi.contains x = true → X.mg x = none) : Bi X x nm := by
  obtain ⟨h, h4⟩ := and2 h
  obtain ⟨h, h3⟩ := and2 h
  obtain ⟨h1, h2⟩ := and2 h
  obtain ⟨k1, k2, k3⟩ := okName_of h4
  exact ⟨of_decide_eq_true h1, hb x h2, gl_of h3 hs, k1, k3⟩
end
section
variable {X : Cx} {g : Ev} {ck : Ck1} {ρ : Env} {S S' : Store} {x : E} {F G : Hp} {μ : Nat → Addr} {σ : L2.St} {H : Hp} {P : Prm} {k : Nat} {N : List Str} {sc s0 : Scope} {e : Expr}
theorem s_var (gd : Good P k N sc s0 X) {i : Nat} (c : ckVar N sc i e = true) {y : E} (hy : ρ[i]? = some (some y)) (R : Rel X.K F G μ S H) (RE : RelEnv X.K F μ S ρ σ) : sem X e σ H (Lift X.K F G μ S y S) := by
  unfold ckVar at c
  split at c
  · obtain ⟨c, c3⟩ := and2 c
    obtain ⟨c1, c2⟩ := and2 c
    obtain ⟨k1, k2, k3⟩ := okName_of c3
    obtain ⟨v, h1, h2⟩ := RE.at_ i y hy
    exact to_sem (pe_var (by rw [gd.hN]; exact of_decide_eq_true c1) (by rw [gd.hsc]; exact vis_of c2) k1 k2) ⟨v, h1, .of R h2⟩
  · cases c
theorem s_cst {d : D} (c : ckCst d e = true) (R : Rel X.K F G μ S H) : sem X e σ H (Lift X.K F G μ S (.d d) S) := by
  unfold ckCst at c
  split at c
  · rename_i cc _ _
    unfold cstIs at c
    split at c
    · exact to_sem pe_non (.of R .non)
    · rw [eq_of_beq c]
      exact to_sem pe_bl (.of R (.bl _))
    · rw [of_decide_eq_true c]
      exact to_sem pe_int (.of R (.int _))
    · rw [of_decide_eq_true c]
      exact to_sem pe_str (.of R (.str _))
    · cases c
  · cases c
theorem s_glob (gd : Good P k N sc s0 X) {y : Str} {d : D} (c : ckGlob P sc y d e = true) (R : Rel X.K F G μ S H) : sem X e σ H (Lift X.K F G μ S (.d d) S) := by
  unfold ckGlob at c
  split at c
  · obtain ⟨c, c4⟩ := and2 c
    obtain ⟨c, c3⟩ := and2 c
    obtain ⟨c1, c2⟩ := and2 c
    obtain ⟨k1, k2, k3⟩ := okName_of c3
    rw [List.any_eq_true] at c4
    obtain ⟨p, hp, c4⟩ := c4
    obtain ⟨c4, c5⟩ := and2 c4
    obtain ⟨e5, l5⟩ := leafIs_eq c5
    obtain ⟨u, v, h1, h2, h3⟩ := gd.cst p hp l5
    rw [of_decide_eq_true c4] at h1
    rw [e5]
    exact to_sem (pe_glob (gl_of c2 gd.hsc) h1 h2 k1) (.of R (h3 F))
  · cases c
/-- comparisons, both ways -/
structure Both (X : Cx) (e : Expr) (σ : L2.St) (H : Hp) (L : VK) : Prop where
  out : ∃ t : TE, PE X e t ∧ PT X e (tB t) ∧ ∀ Q : VK, (∀ v H', L v H' → Q v H') → t σ H Q
theorem Both.sem {L : VK} (b : Both X e σ H L) : sem X e σ H L := by
  obtain ⟨t, h, _, q⟩ := b.out
  exact to_sem h (q L fun _ _ h => h)
theorem Both.test {L : VK} (b : Both X e σ H L) {Q : Bool → Hp → Prop} (hq : ∀ v H', L v H' → ∃ c, v = .bl c ∧ Q c H') : semT X e σ H Q := by
  obtain ⟨t, _, h, q⟩ := b.out
  exact to_semT h (q _ hq)
theorem s_o2 (gd : Good P k N sc s0 X) (h : SndX X g ck) {o : O2} {a b : Tm} (c : ckO2 ck o a b e = true) {p q : E × Store} (ga : g a ρ S = some p) (gb : g b ρ p.2 = some q) {x y z : D} (dx : deref q.2 p.1 = some x) (dy : deref q.2 q.1 = some y) (dz : DL.o2 o x y = some z) (R : Rel X.K F G μ S H) (RE : RelEnv X.K F μ S ρ σ) :
    (∃ ea op eb pos, e = .BinOp ea op eb pos ∧ sem X e σ H (Lift X.K F G μ S (.d z) q.2)) ∨ Both X e σ H (Lift X.K F G μ S (.d z) q.2) := by
  unfold ckO2 at c
  split at c
  · obtain ⟨c, c3⟩ := and2 c
    obtain ⟨c1, c2⟩ := and2 c
    obtain ⟨r, hr, sp⟩ := bin_sem (X := X) c1
    exact .inl ⟨_, _, _, _, rfl, to_sem (pe_op hr pe_sem pe_sem) (two h c2 c3 ga gb R RE fun F' μ' v w H' e1 R' r1 r2 => sp x y z dz F' G μ' q.2 H' v w R' (deref_rep R' r1 dx) (deref_rep R' r2 dy) _ fun u H2 rs => rs.lift e1 R')⟩
  · obtain ⟨c, c4⟩ := and2 c
    obtain ⟨c, c3⟩ := and2 c
    obtain ⟨c1, c2⟩ := and2 c
    obtain ⟨r, hr, sp⟩ := cmp_sem (X := X) (u65 gd.room) c1
    exact .inr ⟨_, pe_cmpR hr pe_sem pe_sem (not_t c4), pt_cmpR hr pe_sem pe_sem (not_t c4), fun Q hQ => two h c2 c3 ga gb R RE fun F' μ' v w H' e1 R' r1 r2 => sp x y z dz F' G μ' q.2 H' v w R' (deref_rep R' r1 dx) (deref_rep R' r2 dy) _ fun u H2 rs => hQ _ _ (rs.lift e1 R')⟩
  · cases c
theorem s_chain (gd : Good P k N sc s0 X) (h : SndX X g ck) {o o' : O2} {a b cc : Tm} (c : ckChain ck o o' a b cc e = true) {p q : E × Store} (ga : g a ρ S = some p) (gb : g b ρ p.2 = some q) {x y : D} {m : Bool} (dx : deref q.2 p.1 = some x) (dy : deref q.2 q.1 = some y) (dz : DL.o2 o x y = some (.bl m))
    {x' : E} {S' : Store} (hf : m = false → x' = .d (.bl false) ∧ S' = q.2)
    (ht : m = true → ∃ r y' w u, g cc ρ q.2 = some r ∧ deref r.2 q.1 = some y' ∧ deref r.2 r.1 = some w ∧ DL.o2 o' y' w = some u ∧ x' = .d u ∧ S' = r.2)
    (R : Rel X.K F G μ S H) (RE : RelEnv X.K F μ S ρ σ) : Both X e σ H (Lift X.K F G μ S x' S') := by
  unfold ckChain at c
  split at c
  · obtain ⟨c, c6⟩ := and2 c
    obtain ⟨c, c5⟩ := and2 c
    obtain ⟨c, c4⟩ := and2 c
    obtain ⟨c, c3⟩ := and2 c
    obtain ⟨c1, c2⟩ := and2 c
    obtain ⟨r, hr, sp⟩ := cmp_sem (X := X) (u65 gd.room) c1
    obtain ⟨r', hr', sp'⟩ := cmp_sem (X := X) (u65 gd.room) c2
    refine ⟨_, pe_chain hr hr' pe_sem pe_sem pe_sem (not_t c6), pt_chain hr hr' pe_sem pe_sem pe_sem (not_t c6), fun Q hQ => ?_⟩
    refine sem_mono (h a _ c3 ρ S p.1 p.2 ga F G μ σ H R RE) fun v H1 ⟨F1, μ1, e1, R1, r1⟩ => ?_
    refine sem_mono (h b _ c4 ρ p.2 q.1 q.2 gb F1 G μ1 σ H1 R1 (RE.mono e1)) fun w H2 ⟨F2, μ2, e2, R2, r2⟩ => ?_
    refine sp x y (.bl m) dz F2 G μ2 q.2 H2 v w R2 (deref_rep R2 (r1.mono e2) dx) (deref_rep R2 r2 dy) _ fun u H3 rs => ?_
    have e12 := e1.trans e2
    cases rs with
    | same hu =>
      cases hu
      refine ⟨m, rfl, ?_⟩
      cases m with
      | false =>
        obtain ⟨rfl, rfl⟩ := hf rfl
        exact hQ _ _ ⟨F2, μ2, e12, R2, .bl false⟩
      | true =>
        obtain ⟨rr, y', w', uu, gc, dy', dw, du, rfl, rfl⟩ := ht rfl
        refine sem_mono (h cc _ c5 ρ q.2 rr.1 rr.2 gc F2 G μ2 σ H2 R2 (RE.mono e12)) fun w2 H4 ⟨F3, μ3, e3, R3, r3⟩ => ?_
        exact sp' y' w' uu du F3 G μ3 rr.2 H4 w w2 R3 (deref_rep R3 (r2.mono e3) dy') (deref_rep R3 r3 dw) _ fun u H5 rs => hQ _ _ (rs.lift (e12.trans e3) R3)
  · cases c
theorem repE_non {x : E} {v : V} (h : RepE X.K F μ S x v) : decide (v = V.non) = isNonE x := by
  cases x with
  | d x => cases h <;> rfl
  | r n =>
    rw [h.2]
    rfl
theorem s_isN (h : SndX X g ck) {a : Tm} (c : ckIsN ck a e = true) {p : E × Store} (ga : g a ρ S = some p) (R : Rel X.K F G μ S H) (RE : RelEnv X.K F μ S ρ σ) : Both X e σ H (Lift X.K F G μ S (.d (.bl (isNonE p.1))) p.2) := by
  unfold ckIsN at c
  split at c
  · refine ⟨_, pe_cmp (pc_isN pe_sem), pt_cmp (pc_isN pe_sem), fun Q hQ => ?_⟩
    refine sem_mono (h a _ c ρ S p.1 p.2 ga F G μ σ H R RE) fun v H1 ⟨F1, μ1, e1, R1, r1⟩ => ?_
    rw [repE_non r1]
    exact hQ _ _ ⟨F1, μ1, e1, R1, .bl _⟩
  · cases c
theorem s_notN (h : SndX X g ck) {a : Tm} (c : ckNotN ck a e = true) {p : E × Store} (ga : g a ρ S = some p) (R : Rel X.K F G μ S H) (RE : RelEnv X.K F μ S ρ σ) : Both X e σ H (Lift X.K F G μ S (.d (.bl (!isNonE p.1))) p.2) := by
  unfold ckNotN at c
  split at c
  · refine ⟨_, pe_cmp (pc_notN pe_sem), pt_cmp (pc_notN pe_sem), fun Q hQ => ?_⟩
    refine sem_mono (h a _ c ρ S p.1 p.2 ga F G μ σ H R RE) fun v H1 ⟨F1, μ1, e1, R1, r1⟩ => ?_
    rw [repE_non r1]
    exact hQ _ _ ⟨F1, μ1, e1, R1, .bl _⟩
  · cases c
theorem s_isB (h : SndX X g ck) {b : Bool} {a : Tm} (c : ckIsB ck b a e = true) {p : E × Store} (ga : g a ρ S = some p) {m : Bool} (hm : p.1 = .d (.bl m)) (R : Rel X.K F G μ S H) (RE : RelEnv X.K F μ S ρ σ) : Both X e σ H (Lift X.K F G μ S (.d (.bl (decide (m = b)))) p.2) := by
  unfold ckIsB at c
  split at c
  · obtain ⟨c1, c2⟩ := and2 c
    have eb := eq_of_beq c1
    subst eb
    refine ⟨_, pe_cmpR op_is_bl pe_sem pe_bl (nomark _), pt_cmpR op_is_bl pe_sem pe_bl (nomark _), fun Q hQ => ?_⟩
    refine sem_mono (h a _ c2 ρ S p.1 p.2 ga F G μ σ H R RE) fun v H1 ⟨F1, μ1, e1, R1, r1⟩ => ?_
    rw [hm] at r1
    have r2 : RepP X.K F1 (.bl m) v := r1
    cases r2
    exact ⟨m, b, rfl, rfl, hQ _ _ ⟨F1, μ1, e1, R1, .bl _⟩⟩
  · cases c
theorem s_notB (h : SndX X g ck) {b : Bool} {a : Tm} (c : ckNotB ck b a e = true) {p : E × Store} (ga : g a ρ S = some p) {m : Bool} (hm : p.1 = .d (.bl m)) (R : Rel X.K F G μ S H) (RE : RelEnv X.K F μ S ρ σ) : Both X e σ H (Lift X.K F G μ S (.d (.bl (!decide (m = b)))) p.2) := by
  unfold ckNotB at c
  split at c
  · obtain ⟨c1, c2⟩ := and2 c
    have eb := eq_of_beq c1
    subst eb
    refine ⟨_, pe_cmpR op_isnot_bl pe_sem pe_bl (nomark _), pt_cmpR op_isnot_bl pe_sem pe_bl (nomark _), fun Q hQ => ?_⟩
    refine sem_mono (h a _ c2 ρ S p.1 p.2 ga F G μ σ H R RE) fun v H1 ⟨F1, μ1, e1, R1, r1⟩ => ?_
    rw [hm] at r1
    have r2 : RepP X.K F1 (.bl m) v := r1
    cases r2
    exact ⟨m, b, rfl, rfl, hQ _ _ ⟨F1, μ1, e1, R1, .bl _⟩⟩
  · cases c
end
end DL
end

section
set_option autoImplicit false
set_option linter.all false
/-! Expressions, second part: and, or, not, built-ins, calls, displays, subscripts, methods. -/
namespace DL
open PySem PySem.Spec PyProof.Rows L2
variable [TabI]

def semW (X : Cx) (e : Expr) : TT := fun σ H Q => ∀ (whole : Sem Value) (pins : List (Addr × Obj)) (s : Shared), Inv X pins σ H s → wpAny (model X.prog X.w) X.A (isTrue e X.env whole) (TP X pins σ Q) X.xe s
def semK (X : Cx) (kws : List Keyword) : TA := fun σ H Q => ∀ (pos : Pos) (pins : List (Addr × Obj)) (s : Shared), Inv X pins σ H s → wpAny (model X.prog X.w) X.A (evalAll ((backToKw pos (keywordEach kws X.env)).map (·.2))) (AP X pins σ Q) X.xe s
abbrev LT (K : PySem.W.Frag) (F G : Hp) (μ : Nat → Addr) (S : Store) (b0 : Bool) (S' : Store) : Bool → Hp → Prop := fun b H' => b = b0 ∧ ∃ F' μ', Ext F μ S F' μ' S' ∧ Rel K F' G μ' S' H'
def isBop : Expr → Bool
  | .BoolOp _ _ _ => true
  | _ => false
abbrev SndT (X : Cx) (g : Ev) (ck : Ck1) : Prop := ∀ (t : Tm) (e : Expr), ck t e = true → ∀ (ρ : Env) (S : Store) (x : E) (S' : Store) (b : Bool), g t ρ S = some (x, S') → isTrueD x = some b → ∀ (F G : Hp) (μ : Nat → Addr) (σ : L2.St) (H : Hp), Rel X.K F G μ S H → RelEnv X.K F μ S ρ σ →
  semT X e σ H (LT X.K F G μ S b S') ∧ (isBop e = true → semW X e σ H (LT X.K F G μ S b S'))
section
variable {X : Cx} {σ : L2.St} {H : Hp}
theorem pw_sem {e : Expr} : PW X e (semW X e) := ⟨fun wh pins s σ H Q I h => h wh pins s I⟩
theorem to_semW {e : Expr} {t : TT} (h : PW X e t) {Q : Bool → Hp → Prop} (q : t σ H Q) : semW X e σ H Q := fun wh pins s I => h.run wh pins s σ H Q I q
theorem semW_mono {e : Expr} {Q Q' : Bool → Hp → Prop} (h : semW X e σ H Q) (m : ∀ v H', Q v H' → Q' v H') : semW X e σ H Q' := fun wh pins s I => thn (h wh pins s I) fun u s' ⟨H', I', q⟩ => ⟨H', I', m u H' q⟩
theorem pk_sem {kws : List Keyword} : PK X kws (semK X kws) := ⟨fun pos pins s σ H Q I h => h pos pins s I⟩
theorem to_semK {kws : List Keyword} {t : TA} (h : PK X kws t) {Q : List V → Hp → Prop} (q : t σ H Q) : semK X kws σ H Q := fun pos pins s I => h.run pos pins s σ H Q I q
theorem semK_mono {kws : List Keyword} {Q Q' : List V → Hp → Prop} (h : semK X kws σ H Q) (m : ∀ v H', Q v H' → Q' v H') : semK X kws σ H Q' := fun pos pins s I => thn (h pos pins s I) fun u s' ⟨v, H', I', r, q⟩ => ⟨v, H', I', r, m v H' q⟩
theorem bop_pe {op : BoolOp} {eb : Expr} {es : List Expr} {pos : Pos} : PE X (.BoolOp op (eb :: es) pos) (sem X (bopE op (eb :: es) pos)) := by
  cases es with
  | nil => exact pe_one pe_sem
  | cons _ _ => exact pe_sem
end
section
variable {X : Cx} {g : Ev} {ck : Ck1} {ρ : Env} {S S' : Store} {x : E} {F G : Hp} {μ : Nat → Addr} {σ : L2.St} {H : Hp} {P : Prm} {k : Nat} {N : List Str} {sc s0 : Scope} {e : Expr}
theorem s_and (h : SndX X g ck) {a b : Tm} (c : ckAnd ck a b e = true) {p : E × Store} (ga : g a ρ S = some p) {m : Bool} (hm : isTrueD p.1 = some m) (he : (if m = true then g b ρ p.2 else some (.d (.bl false), p.2)) = some (x, S')) (R : Rel X.K F G μ S H) (RE : RelEnv X.K F μ S ρ σ) : sem X e σ H (Lift X.K F G μ S x S') := by
  unfold ckAnd at c
  split at c
  · obtain ⟨c1, c2⟩ := and2 c
    refine to_sem (pe_and pe_sem bop_pe) ?_
    refine sem_mono (h a _ c1 ρ S p.1 p.2 ga F G μ σ H R RE) fun v H1 ⟨F1, μ1, e1, R1, r1⟩ => ?_
    rw [isTrueD_out hm] at r1
    cases (show RepP X.K F1 (.bl m) v from r1)
    refine ⟨m, rfl, ?_⟩
    cases m with
    | true => exact sem_mono (h b _ c2 ρ p.2 x S' he F1 G μ1 σ H1 R1 (RE.mono e1)) fun w H2 l => l.trans e1
    | false =>
      cases he
      exact ⟨F1, μ1, e1, R1, .bl false⟩
  · cases c
theorem s_or (h : SndX X g ck) {a b : Tm} (c : ckOr ck a b e = true) {p : E × Store} (ga : g a ρ S = some p) {m : Bool} (hm : isTrueD p.1 = some m) (he : (if m = true then some (.d (.bl true), p.2) else g b ρ p.2) = some (x, S')) (R : Rel X.K F G μ S H) (RE : RelEnv X.K F μ S ρ σ) : sem X e σ H (Lift X.K F G μ S x S') := by
  unfold ckOr at c
  split at c
  · obtain ⟨c1, c2⟩ := and2 c
    refine to_sem (pe_or pe_sem bop_pe) ?_
    refine sem_mono (h a _ c1 ρ S p.1 p.2 ga F G μ σ H R RE) fun v H1 ⟨F1, μ1, e1, R1, r1⟩ => ?_
    rw [isTrueD_out hm] at r1
    cases (show RepP X.K F1 (.bl m) v from r1)
    refine ⟨m, rfl, ?_⟩
    cases m with
    | false => exact sem_mono (h b _ c2 ρ p.2 x S' he F1 G μ1 σ H1 R1 (RE.mono e1)) fun w H2 l => l.trans e1
    | true =>
      cases he
      exact ⟨F1, μ1, e1, R1, .bl true⟩
  · cases c
theorem s_not (h : SndX X g ck) {a : Tm} (c : ckNot ck a e = true) {p : E × Store} (ga : g a ρ S = some p) {m : Bool} (hm : isTrueD p.1 = some m) (R : Rel X.K F G μ S H) (RE : RelEnv X.K F μ S ρ σ) : sem X e σ H (Lift X.K F G μ S (.d (.bl (!m))) p.2) := by
  unfold ckNot at c
  split at c
  · refine to_sem (pe_not pe_sem) ?_
    refine sem_mono (h a _ c ρ S p.1 p.2 ga F G μ σ H R RE) fun v H1 ⟨F1, μ1, e1, R1, r1⟩ => ?_
    rw [isTrueD_out hm] at r1
    cases (show RepP X.K F1 (.bl m) v from r1)
    exact ⟨m, rfl, F1, μ1, e1, R1, .bl _⟩
  · cases c
theorem s_ite (h : SndX X g ck) (ht : SndT X g (chkT ck 20)) {cc a b : Tm} (c : ckIte ck cc a b e = true) {p : E × Store} (ga : g cc ρ S = some p) {m : Bool} (hm : isTrueD p.1 = some m) (he : (if m = true then g a ρ p.2 else g b ρ p.2) = some (x, S')) (R : Rel X.K F G μ S H) (RE : RelEnv X.K F μ S ρ σ) : sem X e σ H (Lift X.K F G μ S x S') := by
  unfold ckIte at c
  split at c
  · obtain ⟨c, c3⟩ := and2 c
    obtain ⟨c1, c2⟩ := and2 c
    refine to_sem (pe_ifExp pt_sem pe_sem pe_sem) ?_
    refine semT_mono (ht cc _ c1 ρ S p.1 p.2 m ga hm F G μ σ H R RE).1 fun v H1 ⟨em, F1, μ1, e1, R1⟩ => ?_
    subst em
    cases v with
    | true => exact sem_mono (h a _ c2 ρ p.2 x S' he F1 G μ1 σ H1 R1 (RE.mono e1)) fun w H2 l => l.trans e1
    | false => exact sem_mono (h b _ c3 ρ p.2 x S' he F1 G μ1 σ H1 R1 (RE.mono e1)) fun w H2 l => l.trans e1
  · cases c
/-- a built-in of one argument, called -/
theorem pe_o1 {o : O1} {nm : String} {b : Bool} {y : Str} {ea : Expr} {ta : TE} {p pos : Pos} {r : List V → Hp → VK → Prop} (ho : o1Nm o = some (nm, b)) (bi : Bi X y nm) (hr : CallR X (valB o) r) (hk : okHead ea = true) (he : PE X ea ta) : PE X (.Call (.Name y p) [ea] [] pos) (tCB r (tCons ta tNil)) := by
  obtain ⟨hn, hm, hg, hd, hnn⟩ := bi
  subst hn
  have sh := star_of (es := []) (env := X.env) hk
  have fin1 : ∀ i : String, valB o = .builtin i → i = nm → i ∈ ["len", "sum", "all", "any", "abs", "repr", "sorted", "min", "max", "isinstance"] → PE X (.Call (.Name (nm : Str) p) [ea] [] pos) (tCB r (tCons ta tNil)) := fun i ei en hi => by
    subst en
    rw [ei] at hr
    exact pe_callB hr hg hm (boots i hi) (pa_cons he pa_nil sh) hnn hd sh
  have fin2 : ∀ i : String, valB o = .type i → i = nm → i ∈ ["int", "str", "tuple", "list", "bool", "dict"] → PE X (.Call (.Name (nm : Str) p) [ea] [] pos) (tCB r (tCons ta tNil)) := fun i ei en hi => by
    subst en
    rw [ei] at hr
    exact pe_callTy hr hg hm (bootTs i hi) (pa_cons he pa_nil sh) hnn hd sh
  cases o with
  | len =>
    cases ho
    exact fin1 "len" rfl rfl (by decide)
  | sum =>
    cases ho
    exact fin1 "sum" rfl rfl (by decide)
  | sumT =>
    cases ho
    exact fin1 "sum" rfl rfl (by decide)
  | all =>
    cases ho
    exact fin1 "all" rfl rfl (by decide)
  | any =>
    cases ho
    exact fin1 "any" rfl rfl (by decide)
  | abs =>
    cases ho
    exact fin1 "abs" rfl rfl (by decide)
  | repr =>
    cases ho
    exact fin1 "repr" rfl rfl (by decide)
  | sortedI =>
    cases ho
    exact fin1 "sorted" rfl rfl (by decide)
  | sortedP =>
    cases ho
    exact fin1 "sorted" rfl rfl (by decide)
  | minL =>
    cases ho
    exact fin1 "min" rfl rfl (by decide)
  | maxL =>
    cases ho
    exact fin1 "max" rfl rfl (by decide)
  | int =>
    cases ho
    exact fin2 "int" rfl rfl (by decide)
  | str =>
    cases ho
    exact fin2 "str" rfl rfl (by decide)
  | tupleL =>
    cases ho
    exact fin2 "tuple" rfl rfl (by decide)
  | tupleT =>
    cases ho
    exact fin2 "tuple" rfl rfl (by decide)
  | listL =>
    cases ho
    exact fin2 "list" rfl rfl (by decide)
  | listT =>
    cases ho
    exact fin2 "list" rfl rfl (by decide)
  | neg => cases ho
  | lenSetI => cases ho
  | sortedSetI => cases ho
theorem s_o1 (gd : Good P k N sc s0 X) (h : SndX X g ck) (hk : ∀ t e, ck t e = true → okHead e = true) {o : O1} {a : Tm} (c : ckO1 P ck sc o a e = true) {p : E × Store} (ga : g a ρ S = some p) {y z : D} (dy : deref p.2 p.1 = some y) (dz : DL.o1 o y = some z) (R : Rel X.K F G μ S H) (RE : RelEnv X.K F μ S ρ σ) :
    sem X e σ H (Lift X.K F G μ S (.d z) p.2) := by
  unfold ckO1 at c
  split at c
  · obtain ⟨c1, c2⟩ := and2 c
    cases o with
    | neg =>
      obtain ⟨i, hi, e2⟩ := bind_some_out (a := asI y) dz
      cases e2
      have e4 := asI_out hi
      subst e4
      refine to_sem (pe_un un_neg pe_sem) ?_
      refine sem_mono (h a _ c2 ρ S p.1 p.2 ga F G μ σ H R RE) fun v H1 ⟨F1, μ1, e1, R1, r1⟩ => ?_
      exact ⟨i, (deref_rep R1 r1 dy).int, F1, μ1, e1, R1, .int _⟩
    | _ => cases c1
  · obtain ⟨c1, c2⟩ := and2 c
    split at c1
    · rename_i nm b ho
      obtain ⟨r, hr, sp⟩ := o1_sem (X := X) gd.calm gd.gd gd.room.units ho
      refine to_sem (pe_o1 ho (bi_of c1 gd.hsc gd.bi) hr (hk _ _ c2) pe_sem) ?_
      refine sem_mono (h a _ c2 ρ S p.1 p.2 ga F G μ σ H R RE) fun v H1 ⟨F1, μ1, e1, R1, r1⟩ => ?_
      exact sp y z dz F1 G μ1 p.2 H1 v R1 (deref_rep R1 r1 dy) _ fun u H2 rs => rs.lift e1 R1
    · cases c1
  · cases c
theorem s_m2 (gd : Good P k N sc s0 X) (h : SndX X g ck) (hk : ∀ t e, ck t e = true → okHead e = true) {a b : Tm} {nm : String} (hnm : nm = "max" ∨ nm = "min") (c : ckM2 P ck sc nm a b e = true) {p q : E × Store} (ga : g a ρ S = some p) (gb : g b ρ p.2 = some q) {i j m : Int} (hi : p.1 = .d (.int i)) (hj : q.1 = .d (.int j)) (hm : (nm = "max" → m = if j > i then j else i) ∧ (nm = "min" → m = if j < i then j else i))
    (R : Rel X.K F G μ S H) (RE : RelEnv X.K F μ S ρ σ) : sem X e σ H (Lift X.K F G μ S (.d (.int m)) q.2) := by
  unfold ckM2 at c
  split at c
  · obtain ⟨c, c3⟩ := and2 c
    obtain ⟨c1, c2⟩ := and2 c
    have bi := bi_of c1 gd.hsc gd.bi
    obtain ⟨hn, hm0, hg, hd, hnn⟩ := bi
    subst hn
    have h1 := hk _ _ c2
    have h2 := hk _ _ c3
    have body : ∀ (r : List V → Hp → VK → Prop), (∀ H' Q, Q (.int m) H' → r [.int i, .int j] H' Q) → (tCB r (tCons (sem X _) (tCons (sem X _) tNil))) σ H (Lift X.K F G μ S (.d (.int m)) q.2) := fun r hr => by
      refine sem_mono (h a _ c2 ρ S p.1 p.2 ga F G μ σ H R RE) fun v H1 ⟨F1, μ1, e1, R1, r1⟩ => ?_
      refine sem_mono (h b _ c3 ρ p.2 q.1 q.2 gb F1 G μ1 σ H1 R1 (RE.mono e1)) fun w H2 ⟨F2, μ2, e2, R2, r2⟩ => ?_
      have e12 := e1.trans e2
      rw [hi] at r1
      rw [hj] at r2
      cases (show RepP X.K F1 (.int i) v from r1)
      cases (show RepP X.K F2 (.int j) w from r2)
      exact hr _ _ ⟨F2, μ2, e12, R2, .int _⟩
    rcases hnm with rfl | rfl
    · refine to_sem (pe_callB (call_max2 gd.calm) hg hm0 (boots "max" (by decide)) (pa_cons pe_sem (pa_cons pe_sem pa_nil (star_of h2)) (star_of h1)) hnn hd (star_of h1) (stars_none fun x hx => by
        rw [List.mem_singleton] at hx
        rw [hx]
        exact h2)) (body _ fun H' Q q => ⟨i, j, rfl, by rw [← hm.1 rfl]; exact q⟩)
    · refine to_sem (pe_callB (call_min2 gd.calm) hg hm0 (boots "min" (by decide)) (pa_cons pe_sem (pa_cons pe_sem pa_nil (star_of h2)) (star_of h1)) hnn hd (star_of h1) (stars_none fun x hx => by
        rw [List.mem_singleton] at hx
        rw [hx]
        exact h2)) (body _ fun H' Q q => ⟨i, j, rfl, by rw [← hm.2 rfl]; exact q⟩)
  · cases c
theorem s_isa (gd : Good P k N sc s0 X) (h : SndX X g ck) (hk : ∀ t e, ck t e = true → okHead e = true) {a : Tm} {ty : Ty} (c : ckIsa P ck sc ty a e = true) {p : E × Store} (ga : g a ρ S = some p) {y : D} (dy : deref p.2 p.1 = some y)
    (R : Rel X.K F G μ S H) (RE : RelEnv X.K F μ S ρ σ) : sem X e σ H (Lift X.K F G μ S (.d (.bl (DL.isa ty y))) p.2) := by
  unfold ckIsa at c
  split at c
  · obtain ⟨c, c3⟩ := and2 c
    obtain ⟨c1, c2⟩ := and2 c
    obtain ⟨hn, hm0, hg, hd, hnn⟩ := bi_of c1 gd.hsc gd.bi
    obtain ⟨hn2, hm2, hg2, hd2, hnn2⟩ := bi_of c2 gd.hsc gd.bi
    subst hn hn2
    have h1 := hk _ _ c3
    have bt : bootBuiltins (tyNm ty : Str) = some (.type (tyNm ty)) := bootTs _ (by cases ty <;> decide)
    refine to_sem (pe_callB call_isi hg hm0 (boots "isinstance" (by decide)) (pa_cons pe_sem (pa_cons (pe_bltn (v := .ty (tyNm ty)) hg2 hm2 bt rfl hnn2 hd2) pa_nil rfl) (star_of h1)) hnn hd (star_of h1) (stars_none fun x hx => by
      rw [List.mem_singleton] at hx
      rw [hx]
      rfl)) ?_
    refine sem_mono (h a _ c3 ρ S p.1 p.2 ga F G μ σ H R RE) fun v H1 ⟨F1, μ1, e1, R1, r1⟩ => ?_
    obtain ⟨T, t1, t2⟩ := ty_of ((deref_rep R1 r1 dy).now R1)
    exact ⟨v, .ty (tyNm ty), .type T, .type (tyNm ty), DL.isa ty y, rfl, .ty _, t1, kit_ty (t2 ty), F1, μ1, e1, R1, .bl _⟩
  · cases c
theorem all_heads : ∀ {as : List Tm} {es : List Expr}, (∀ t e, ck t e = true → okHead e = true) → chkAll ck as es = true → ∀ e ∈ es, okHead e = true
  | [], [], _, _, _, h => nomatch h
  | [], _ :: _, _, c, _, _ => by cases c
  | _ :: _, [], _, c, _, _ => by cases c
  | t :: ts, e :: es, hk, c, e', h => by
    obtain ⟨c1, c2⟩ := and2 c
    cases h with
    | head => exact hk _ _ c1
    | tail _ h => exact all_heads hk c2 e' h
theorem s_call (gd : Good P k N sc s0 X) (h : SndX X g ck) (hk : ∀ t e, ck t e = true → okHead e = true) {f : Nat} {as : List Tm} (c : ckCall P ck sc f as e = true) {p : List E × Store} (ga : evs g as ρ S = some p) (hc : callD P.T k f p.1 p.2 = some (x, S')) (R : Rel X.K F G μ S H) (RE : RelEnv X.K F μ S ρ σ) : sem X e σ H (Lift X.K F G μ S x S') := by
  unfold ckCall at c
  split at c
  · rename_i y np es pos
    obtain ⟨c, c4⟩ := and2 c
    obtain ⟨c, c3⟩ := and2 c
    obtain ⟨c1, c2⟩ := and2 c
    obtain ⟨k1, k2, k3⟩ := okName_of c3
    unfold fnIs at c1
    split at c1
    · rename_i fn hfn
      obtain ⟨fa, fd, ff, fk⟩ := gd.fns f fn hfn
      have en := of_decide_eq_true c1
      have hm := ff.mg
      rw [en] at hm
      have hA := args (G := G) h as es hk c4 ρ S p.1 p.2 ga F μ H R RE
      have fin : ∀ {pins : List (Addr × Obj)} {us : List Value} {s1 : Shared} {vs : List V} {H1 : Hp}, Inv X pins σ H1 s1 → Vals vs us → LiftA X.K F G μ S p.1 p.2 vs H1 → wpAny (model X.prog X.w) X.A (call (.ref fa) us []) (EP X pins σ (Lift X.K F G μ S x S')) X.xe s1 := fun {pins us s1 vs H1} I1 r ⟨F1, μ1, e1, R1, rs⟩ => by
        have hsp : spD X.K P.T fn.ps.length k f vs H1 (Lift X.K F G μ S x S') E0 := by
          have hl : p.1.length = fn.ps.length := by
            cases k with
            | zero => cases hc
            | succ k =>
              unfold callD at hc
              simp only [hfn] at hc
              split at hc
              · assumption
              · cases hc
          exact ⟨F1, G, μ1, p.2, p.1, x, S', R1, rs, hl, hc, fun v H2 l => l.trans e1⟩
        have hl : us.length = fn.ps.length := by rw [← r.length]; exact fk.len _ _ _ _ hsp
        exact run_g fk gd.gd gd.room (.of_eq (ff.bp us hl)) I1 r hsp
      intro pins s I
      refine wpAny_Call_Name_kw (ld_glob I (gl_of c2 gd.hsc) hm ?_ k1)
      cases es with
      | nil =>
        cases as with
        | nil =>
          cases ga
          exact PySem.W.callWith_K0 I.kIn ff.kp (fin (us := []) I .nil ⟨F, μ, Ext.refl F μ S, R, .nil⟩)
        | cons _ _ => cases c4
      | cons e1 es =>
        have hh := all_heads hk c4
        refine PySem.W.callWith_K (h₀ := X.base) I.ok.mod.kin ff.kp (thn (hA pos pins s I) fun us s1 ⟨vs, H1, I1, r, q⟩ => ⟨I1.kIn, ?_⟩) (star_of (hh _ List.mem_cons_self)) (stars_none fun z hz => hh z (List.mem_cons_of_mem _ hz))
        exact fin I1 r q
    · cases c1
  · cases c
theorem argsK (h : SndX X g ck) : ∀ (as : List Tm) (kws : List Keyword), chkAll ck as (kws.map (·.value)) = true → ∀ (ρ : Env) (S : Store) (xs : List E) (S' : Store), evs g as ρ S = some (xs, S') → ∀ (F : Hp) (μ : Nat → Addr) (H : Hp), Rel X.K F G μ S H → RelEnv X.K F μ S ρ σ → semK X kws σ H (LiftA X.K F G μ S xs S')
  | [], [], _, ρ, S, xs, S', e, F, μ, H, R, RE => by
    cases e
    exact to_semK pk_nil ⟨F, μ, Ext.refl F μ S, R, .nil⟩
  | [], _ :: _, c, _, _, _, _, _, _, _, _, _, _ => by cases c
  | _ :: _, [], c, _, _, _, _, _, _, _, _, _, _ => by cases c
  | t :: ts, ⟨nm, e, kp⟩ :: es, c, ρ, S, xs, S', ev, F, μ, H, R, RE => by
    obtain ⟨c1, c2⟩ := and2 c
    obtain ⟨p, ga, ev⟩ := bind_some_out ev
    obtain ⟨q, gb, ev⟩ := bind_some_out ev
    cases ev
    refine to_semK (pk_cons pe_sem pk_sem) ?_
    refine sem_mono (h t e c1 ρ S p.1 p.2 ga F G μ σ H R RE) fun v H1 ⟨F1, μ1, e1, R1, r1⟩ => ?_
    refine semK_mono (argsK h ts es c2 ρ p.2 q.1 q.2 gb F1 μ1 H1 R1 (RE.mono e1)) fun vs H2 ⟨F2, μ2, e2, R2, r2⟩ => ?_
    exact ⟨F2, μ2, e1.trans e2, R2, .cons (r1.mono e2) r2⟩
theorem kw_names {env : PySem.Env} {pos : Pos} : ∀ {kws : List Keyword}, (backToKw pos (keywordEach kws env)).map (·.1) = kws.map (·.arg)
  | [] => rfl
  | ⟨nm, e, kp⟩ :: kws => congrArg (nm :: ·) (kw_names (kws := kws))
theorem kw_some {ps : List Str} : ∀ {l : List (Option Str × Sem Value)}, l.map (·.1) = ps.map some → l.all (·.1.isSome) = true ∧ l.any (·.1.isNone) = false ∧ l.filterMap (·.1) = ps := by
  intro l
  induction l generalizing ps with
  | nil =>
    intro h
    cases ps with
    | nil => exact ⟨rfl, rfl, rfl⟩
    | cons _ _ => cases h
  | cons a l ih =>
    intro h
    cases ps with
    | nil => cases h
    | cons q ps =>
      rw [List.map_cons, List.map_cons, List.cons.injEq] at h
      obtain ⟨h1, h2⟩ := h
      obtain ⟨i1, i2, i3⟩ := ih h2
      obtain ⟨n, t⟩ := a
      cases (show n = some q from h1)
      exact ⟨by rw [List.all_cons, i1]; rfl, by rw [List.any_cons, i2]; rfl, by simp only [List.filterMap_cons]; rw [i3]⟩
theorem s_callK (gd : Good P k N sc s0 X) (h : SndX X g ck) {f : Nat} {as : List Tm} (c : ckCallK P ck sc f as e = true) {p : List E × Store} (ga : evs g as ρ S = some p) (hc : callD P.T k f p.1 p.2 = some (x, S')) (R : Rel X.K F G μ S H) (RE : RelEnv X.K F μ S ρ σ) : sem X e σ H (Lift X.K F G μ S x S') := by
  unfold ckCallK at c
  split at c
  · rename_i y np kws pos
    obtain ⟨c, c5⟩ := and2 c
    obtain ⟨c, c4⟩ := and2 c
    obtain ⟨c, c3⟩ := and2 c
    obtain ⟨c1, c2⟩ := and2 c
    obtain ⟨k1, k2, k3⟩ := okName_of c4
    unfold fnIs at c1
    split at c1
    · rename_i fn hfn
      unfold fnKs at c2
      simp only [hfn] at c2
      have ek : kws.map (·.arg) = fn.ps.map some := of_decide_eq_true c2
      obtain ⟨fa, fd, ff, fk⟩ := gd.fns f fn hfn
      have en := of_decide_eq_true c1
      have hm := ff.mg
      rw [en] at hm
      have hA := argsK (G := G) h as kws c5 ρ S p.1 p.2 ga F μ H R RE
      obtain ⟨w1, w2, w3⟩ := kw_some ((kw_names (env := X.env) (pos := pos)).trans ek)
      intro pins s I
      refine wpAny_Call_Name_kw (ld_glob I (gl_of c3 gd.hsc) hm ?_ k1)
      refine PySem.W.callWith_KW0 (h₀ := X.base) I.ok.mod.kin ff.kp w1 (thn (hA pos pins s I) fun us s1 ⟨vs, H1, I1, r, ⟨F1, μ1, e1, R1, rs⟩⟩ => ⟨I1.kIn, ?_⟩) (by show (false || _) = false; rw [w2]; rfl)
      rw [w3]
      have hsp : spD X.K P.T fn.ps.length k f vs H1 (Lift X.K F G μ S x S') E0 := by
        have hl : p.1.length = fn.ps.length := by
          cases k with
          | zero => cases hc
          | succ k =>
            unfold callD at hc
            simp only [hfn] at hc
            split at hc
            · assumption
            · cases hc
        exact ⟨F1, G, μ1, p.2, p.1, x, S', R1, rs, hl, hc, fun v H2 l => l.trans e1⟩
      have hl : us.length = fn.ps.length := by rw [← r.length]; exact fk.len _ _ _ _ hsp
      exact run_g fk gd.gd gd.room (.of_eq (ff.bk us hl)) I1 r hsp
    · cases c1
  · cases c
end
end DL
end

section
set_option autoImplicit false
set_option linter.all false
/-! Expressions, third part: displays, subscripts, methods of lists, new lists. -/
namespace DL
open PySem PySem.Spec PyProof.Rows L2
variable [TabI]

theorem RepEs.asDs {K : PySem.W.Frag} {F : Hp} {μ : Nat → Addr} {S : Store} : ∀ {xs : List E} {vs : List V} {ds : List D}, RepEs K F μ S xs vs → asDs xs = some ds → RepL K F ds vs
  | _, _, _, .nil, h => by
    cases h
    exact .nil
  | .d x :: xs, _ :: _, ds, .cons h r, e => by
    have e2 : (DL.asDs xs).map (x :: ·) = some ds := e
    cases q : DL.asDs xs with
    | none =>
      rw [q] at e2
      cases e2
    | some ys =>
      rw [q] at e2
      cases e2
      exact .cons h (RepEs.asDs r q)
  | .r _ :: _, _ :: _, _, .cons _ _, e => by cases e
/-- a value that is a new list -/
abbrev FrX (X : Cx) (e : Expr) (σ : L2.St) (H F G : Hp) (μ : Nat → Addr) (S : Store) (x : E) (S' : Store) : Prop := ∃ xs, x = .d (.lst xs) ∧ sem X e σ H (LiftN X.K F G μ S xs S')
section
variable {X : Cx} {g : Ev} {ck : Ck1} {ρ : Env} {S S' : Store} {x : E} {F G : Hp} {μ : Nat → Addr} {σ : L2.St} {H : Hp} {P : Prm} {k : Nat} {N : List Str} {sc s0 : Scope} {e : Expr}
theorem FrX.sem (h : FrX X e σ H F G μ S x S') : sem X e σ H (Lift X.K F G μ S x S') := by
  obtain ⟨xs, rfl, h⟩ := h
  exact sem_mono h fun v H' l => l.lift
theorem FrX.open_ {xs : List D} (h : FrX X e σ H F G μ S (.d (.lst xs)) S') : DL.sem X e σ H (Lift X.K F G μ S (.r S'.length) (S' ++ [some xs])) := by
  obtain ⟨ys, e1, h⟩ := h
  cases e1
  exact sem_mono h fun v H' l => l.open_
theorem s_tup (h : SndX X g ck) (hk : ∀ t e, ck t e = true → okHead e = true) {as : List Tm} (c : ckTup ck as e = true) {p : List E × Store} (ga : evs g as ρ S = some p) {ds : List D} (hd : asDs p.1 = some ds) (hf : fits ds.length = true) (R : Rel X.K F G μ S H) (RE : RelEnv X.K F μ S ρ σ) :
    sem X e σ H (Lift X.K F G μ S (.d (.tup ds)) p.2) := by
  unfold ckTup at c
  split at c
  · refine to_sem (pe_tup pa_sem) ?_
    refine semA_mono (args (G := G) h as _ hk c ρ S p.1 p.2 ga F μ H R RE) fun vs H1 ⟨F1, μ1, e1, R1, rs⟩ => ?_
    have rl := rs.asDs hd
    exact ⟨by rw [← rl.length]; exact fits_le hf, fun q hq => (Res.tup hq rl).lift e1 R1⟩
  · cases c
theorem s_lst (h : SndX X g ck) (hk : ∀ t e, ck t e = true → okHead e = true) {as : List Tm} (c : ckLst ck as e = true) {p : List E × Store} (ga : evs g as ρ S = some p) {ds : List D} (hd : asDs p.1 = some ds) (hf : fits ds.length = true) (R : Rel X.K F G μ S H) (RE : RelEnv X.K F μ S ρ σ) :
    FrX X e σ H F G μ S (.d (.lst ds)) p.2 := by
  unfold ckLst at c
  split at c
  · refine ⟨ds, rfl, to_sem (pe_lst pa_sem) ?_⟩
    refine semA_mono (args (G := G) h as _ hk c ρ S p.1 p.2 ga F μ H R RE) fun vs H1 ⟨F1, μ1, e1, R1, rs⟩ => ?_
    have rl := rs.asDs hd
    exact ⟨by rw [← rl.length]; exact fits_le hf, fun q hq => ⟨F1, μ1, H1, e1, R1, q, vs, hq, rl, rfl, rfl⟩⟩
  · cases c
theorem at_rep {K : PySem.W.Frag} {xs : List D} {vs : List V} {i : Int} {z : D} (h : RepL K F xs vs) (e : atD xs i = some z) : ∃ v, atI vs i = some v ∧ RepP K F z v := by
  obtain ⟨j, h1, h2⟩ := bind_some_out (a := place xs.length i) e
  obtain ⟨v, h3, h4⟩ := h.get h2
  refine ⟨v, ?_, h4⟩
  show (ixN vs.length i).bind (fun j => vs[j]?) = some v
  rw [← h.length]
  show (place xs.length i).bind (fun j => vs[j]?) = some v
  rw [h1]
  exact h3
theorem cut_rep {K : PySem.W.Frag} {xs : List D} {vs : List V} (h : RepL K F xs vs) (lo hi : Option Int) : RepL K F (cutD xs lo hi) (cutV vs lo hi) := by
  unfold cutD cutV
  rw [h.length]
  exact (h.drop _).take _
theorem s_idxL (h : SndX X g ck) (hk : ∀ t e, ck t e = true → okHead e = true) {a b : Tm} (c : ckIdx ck a b e = true) {p q : E × Store} (ga : g a ρ S = some p) (gb : g b ρ p.2 = some q) {y z : D} {i : Int} (dy : deref q.2 p.1 = some y) (di : q.1 = .d (.int i)) (hz : (∃ xs, (y = .lst xs ∨ y = .scr xs) ∧ atD xs i = some z))
    (R : Rel X.K F G μ S H) (RE : RelEnv X.K F μ S ρ σ) : sem X e σ H (Lift X.K F G μ S (.d z) q.2) := by
  unfold ckIdx at c
  split at c
  · obtain ⟨c1, c2⟩ := and2 c
    refine to_sem (pe_ix ix_list pe_sem pe_sem (plainIx_of (hk _ _ c2))) (two h c1 c2 ga gb R RE fun F' μ' v w H' e1 R' r1 r2 => ?_)
    rw [di] at r2
    cases (show RepP X.K F' (.int i) w from r2)
    obtain ⟨xs, hy, hz⟩ := hz
    rcases hy with rfl | rfl
    · obtain ⟨a, vs, rfl, h1, h2⟩ := (deref_rep R' r1 dy).lst R'.fr
      obtain ⟨u, h3, h4⟩ := at_rep h2 hz
      exact ⟨a, vs, i, u, rfl, rfl, .of h1, h3, F', μ', e1, R', h4⟩
    · obtain ⟨a, vs, rfl, h1, h2⟩ := (deref_rep R' r1 dy).scr R'.fr
      obtain ⟨u, h3, h4⟩ := at_rep h2 hz
      exact ⟨a, vs, i, u, rfl, rfl, h1, h3, F', μ', e1, R', h4⟩
  · cases c
theorem s_idxT (h : SndX X g ck) (hk : ∀ t e, ck t e = true → okHead e = true) {a b : Tm} (c : ckIdx ck a b e = true) {p q : E × Store} (ga : g a ρ S = some p) (gb : g b ρ p.2 = some q) {xs : List D} {z : D} {i : Int} (dy : p.1 = .d (.tup xs)) (di : q.1 = .d (.int i)) (hz : atD xs i = some z)
    (R : Rel X.K F G μ S H) (RE : RelEnv X.K F μ S ρ σ) : sem X e σ H (Lift X.K F G μ S (.d z) q.2) := by
  unfold ckIdx at c
  split at c
  · obtain ⟨c1, c2⟩ := and2 c
    refine to_sem (pe_ix ix_tup pe_sem pe_sem (plainIx_of (hk _ _ c2))) (two h c1 c2 ga gb R RE fun F' μ' v w H' e1 R' r1 r2 => ?_)
    rw [di] at r2
    rw [dy] at r1
    cases (show RepP X.K F' (.int i) w from r2)
    obtain ⟨a, vs, rfl, h1, h2⟩ := (RepT.p (H := H') (show RepP X.K F' (.tup xs) v from r1)).sqT R'.fr
    obtain ⟨u, h3, h4⟩ := at_rep h2 hz
    exact ⟨a, vs, i, u, rfl, rfl, h1, h3, F', μ', e1, R', h4⟩
  · cases c
def semO (X : Cx) (e : Option Expr) : TO := fun σ H Q => ∀ (pins : List (Addr × Obj)) (s : Shared), Inv X pins σ H s → wpAny (model X.prog X.w) X.A (evalPart e X.env) (fun u s' => ∃ o H', Inv X pins σ H' s' ∧ IsPart u o ∧ Q o H') X.xe s
theorem po_sem {oe : Option Expr} : PO X oe (semO X oe) := ⟨fun pins s σ H Q I h => h pins s I⟩
theorem part (h : SndX X g ck) {ot : Option Tm} {oe : Option Expr} (c : chkO ck ot oe = true) {l : Option Int × Store} (hl : evO g ot ρ S = some l) (R : Rel X.K F G μ S H) (RE : RelEnv X.K F μ S ρ σ) {Q : Option Int → Hp → Prop}
    (q : ∀ F' μ' H', Ext F μ S F' μ' l.2 → Rel X.K F' G μ' l.2 H' → Q l.1 H') : semO X oe σ H Q := by
  cases ot with
  | none =>
    cases oe with
    | some _ => cases c
    | none =>
      cases hl
      exact fun pins s I => po_none.run pins s σ H Q I (q F μ H (Ext.refl F μ S) R)
  | some t =>
    cases oe with
    | none => cases c
    | some e =>
      obtain ⟨p, ga, hl⟩ := bind_some_out hl
      obtain ⟨y, hy, hl⟩ := bind_some_out hl
      obtain ⟨i, hi, hl⟩ := bind_some_out hl
      cases hl
      refine fun pins s I => (po_some pe_sem).run pins s σ H Q I ?_
      refine sem_mono (h t e c ρ S p.1 p.2 ga F G μ σ H R RE) fun v H1 ⟨F1, μ1, e1, R1, r1⟩ => ?_
      rw [asD_out hy, asI_out hi] at r1
      cases (show RepP X.K F1 (.int i) v from r1)
      exact ⟨i, rfl, q F1 μ1 H1 e1 R1⟩
theorem s_slL (h : SndX X g ck) {a : Tm} {lo hi : Option Tm} (c : ckSl ck a lo hi e = true) {p : E × Store} {l u : Option Int × Store} (ga : g a ρ S = some p) (gl : evO g lo ρ p.2 = some l) (gh : evO g hi ρ l.2 = some u) {y : D} {xs : List D} (dy : deref u.2 p.1 = some y) (hy : y = .lst xs ∨ y = .scr xs)
    (R : Rel X.K F G μ S H) (RE : RelEnv X.K F μ S ρ σ) : FrX X e σ H F G μ S (.d (.lst (cutD xs l.1 u.1))) u.2 := by
  unfold ckSl at c
  split at c
  · obtain ⟨c, c3⟩ := and2 c
    obtain ⟨c1, c2⟩ := and2 c
    refine ⟨_, rfl, to_sem (pe_slice sl_list pe_sem po_sem po_sem) ?_⟩
    refine sem_mono (h a _ c1 ρ S p.1 p.2 ga F G μ σ H R RE) fun v H1 ⟨F1, μ1, e1, R1, r1⟩ => ?_
    refine part h c2 gl R1 (RE.mono e1) fun F2 μ2 H2 e2 R2 => ?_
    refine part h c3 gh R2 (RE.mono (e1.trans e2)) fun F3 μ3 H3 e3 R3 => ?_
    have e123 := (e1.trans e2).trans e3
    have r3 := deref_rep R3 (r1.mono (e2.trans e3)) dy
    rcases hy with rfl | rfl
    · obtain ⟨b, vs, rfl, h1, h2⟩ := r3.lst R3.fr
      exact ⟨b, vs, rfl, .of h1, fun q hq => ⟨F3, μ3, H3, e123, R3, q, _, hq, cut_rep h2 _ _, rfl, rfl⟩⟩
    · obtain ⟨b, vs, rfl, h1, h2⟩ := r3.scr R3.fr
      exact ⟨b, vs, rfl, h1, fun q hq => ⟨F3, μ3, H3, e123, R3, q, _, hq, cut_rep h2 _ _, rfl, rfl⟩⟩
  · cases c
theorem s_slT (h : SndX X g ck) {a : Tm} {lo hi : Option Tm} (c : ckSl ck a lo hi e = true) {p : E × Store} {l u : Option Int × Store} (ga : g a ρ S = some p) (gl : evO g lo ρ p.2 = some l) (gh : evO g hi ρ l.2 = some u) {xs : List D} (dy : p.1 = .d (.tup xs))
    (R : Rel X.K F G μ S H) (RE : RelEnv X.K F μ S ρ σ) : sem X e σ H (Lift X.K F G μ S (.d (.tup (cutD xs l.1 u.1))) u.2) := by
  unfold ckSl at c
  split at c
  · obtain ⟨c, c3⟩ := and2 c
    obtain ⟨c1, c2⟩ := and2 c
    refine to_sem (pe_slice sl_tupA pe_sem po_sem po_sem) ?_
    refine sem_mono (h a _ c1 ρ S p.1 p.2 ga F G μ σ H R RE) fun v H1 ⟨F1, μ1, e1, R1, r1⟩ => ?_
    refine part h c2 gl R1 (RE.mono e1) fun F2 μ2 H2 e2 R2 => ?_
    refine part h c3 gh R2 (RE.mono (e1.trans e2)) fun F3 μ3 H3 e3 R3 => ?_
    have e123 := (e1.trans e2).trans e3
    rw [dy] at r1
    have r3 : RepP X.K F3 (.tup xs) v := RepP.mono (e2.trans e3).f r1
    cases r3 with
    | @tup b _ vs h1 h2 =>
      refine ⟨b, vs, rfl, R3.fr.sqT h1, fun hw => ?_, fun _ q hq => (Res.tup hq (cut_rep h2 _ _)).lift e123 R3⟩
      have ec : cutD xs l.1 u.1 = xs := by
        unfold cutD
        rw [h2.length, hw.1, hw.2, List.drop_zero, Nat.sub_zero, ← h2.length]
        exact List.take_length
      rw [ec]
      exact ⟨F3, μ3, e123, R3, .tup h1 h2⟩
  · cases c
theorem few {cpos : Pos} {eb : Expr} {env : PySem.Env} (h : okHead eb = true) : ((backTo cpos (starEach [eb] env)).all (fun x => !x.1) && (backToKw cpos (keywordEach [] env)).all (fun x => x.1.isSome)
      && decide ([eb].length + ([] : List Keyword).length + (if ([] : List Keyword).isEmpty then 0 else 1) < 30)) = true := by
  rw [star_of h]
  rfl
/-- the receiver, an open list; then its argument -/
theorem onto (h : SndX X g ck) {a b : Tm} {ea eb : Expr} (c1 : ck a ea = true) (c2 : ck b eb = true) {p q : E × Store} (ga : g a ρ S = some p) {y0 : D} (d0 : deref p.2 p.1 = some y0) (gb : g b ρ p.2 = some q) {m : Nat} (hm : p.1 = .r m) {y : D} (hy : q.1 = .d y)
    (R : Rel X.K F G μ S H) (RE : RelEnv X.K F μ S ρ σ) {r : V → List V → Hp → VK → Prop} {Q : VK} (hq : ∀ F' μ' w H', Ext F μ S F' μ' q.2 → Rel X.K F' G μ' q.2 H' → RepP X.K F' y w → r (.ref (μ' m)) [w] H' Q) :
    tBM X.K "list" r (sem X ea) (tCons (sem X eb) tNil) σ H Q := by
  refine sem_mono (h a _ c1 ρ S p.1 p.2 ga F G μ σ H R RE) fun v H1 ⟨F1, μ1, e1, R1, r1⟩ => ?_
  rw [hm] at r1 d0
  have hv := r1.2
  refine ⟨?_, ?_⟩
  · have t := deref_rep R1 r1 d0
    have d0' := d0
    unfold deref at d0'
    simp only at d0'
    split at d0'
    · cases d0'
      obtain ⟨l, vs, e2, e3, _⟩ := t.lst R1.fr
      rw [e2]
      exact .inl ⟨rfl, vs, .of e3⟩
    · cases d0'
  · refine sem_mono (h b _ c2 ρ p.2 q.1 q.2 gb F1 G μ1 σ H1 R1 (RE.mono e1)) fun w H2 ⟨F2, μ2, e2, R2, r2⟩ => ?_
    rw [hy] at r2
    have := hq F2 μ2 w H2 (e1.trans e2) R2 r2
    rw [e2.m m r1.1, ← hv] at this
    exact this
theorem fits_lt {n : Nat} (h : n < 10000000) : n < sizeLine := by
  rw [sizeLine_eq]
  omega
theorem s_app (h : SndX X g ck) (hk : ∀ t e, ck t e = true → okHead e = true) {a b : Tm} (c : ckMt ck "append" a b e = true) {p q : E × Store} (ga : g a ρ S = some p) {y0 : D} (d0 : deref p.2 p.1 = some y0) (gb : g b ρ p.2 = some q) {m : Nat} (hm : p.1 = .r m) {y : D} (hy : q.1 = .d y) {xs : List D} (hx : q.2[m]? = some (some xs)) (hl : xs.length < 10000000)
    (R : Rel X.K F G μ S H) (RE : RelEnv X.K F μ S ρ σ) : sem X e σ H (Lift X.K F G μ S (.d .non) (q.2.set m (some (xs ++ [y])))) := by
  unfold ckMt at c
  split at c
  · obtain ⟨c, c4⟩ := and2 c
    obtain ⟨c, c3⟩ := and2 c
    obtain ⟨c1, c2⟩ := and2 c
    have en := of_decide_eq_true c1
    subst en
    have h2 := hk _ _ c4
    refine to_sem (pe_bm PySem.F.plainAttrs_list PySem.F.slot_list_append PySem.F.type_list_append mt_append pe_sem (pa_cons pe_sem pa_nil (star_of h2)) (base_of (hk _ _ c3)) (few h2) c2 (star_of h2)) (onto h c3 c4 ga d0 gb hm hy R RE fun F' μ' w H' e1 R' r => ?_)
    obtain ⟨vs, h3, h4⟩ := R'.st m xs hx
    refine ⟨_, vs, w, rfl, rfl, h3, fits_lt (by rw [← h4.length]; exact hl), F', μ', e1.trans (Ext.set F' μ' q.2 m _), R'.write hx (h4.append (.cons r .nil)), .non⟩
  · cases c
theorem s_ext (h : SndX X g ck) (hk : ∀ t e, ck t e = true → okHead e = true) {a b : Tm} (c : ckMt ck "extend" a b e = true) {p q : E × Store} (ga : g a ρ S = some p) {y0 : D} (d0 : deref p.2 p.1 = some y0) (gb : g b ρ p.2 = some q) {m : Nat} (hm : p.1 = .r m) {ys : List D} (hy : q.1 = .d (.lst ys)) {xs : List D} (hx : q.2[m]? = some (some xs)) (hl : fits (xs.length + ys.length) = true)
    (R : Rel X.K F G μ S H) (RE : RelEnv X.K F μ S ρ σ) : sem X e σ H (Lift X.K F G μ S (.d .non) (q.2.set m (some (xs ++ ys)))) := by
  unfold ckMt at c
  split at c
  · obtain ⟨c, c4⟩ := and2 c
    obtain ⟨c, c3⟩ := and2 c
    obtain ⟨c1, c2⟩ := and2 c
    have en := of_decide_eq_true c1
    subst en
    have h2 := hk _ _ c4
    refine to_sem (pe_bm PySem.F.plainAttrs_list PySem.F.slot_list_extend PySem.F.type_list_extend mt_extend pe_sem (pa_cons pe_sem pa_nil (star_of h2)) (base_of (hk _ _ c3)) (few h2) c2 (star_of h2)) (onto h c3 c4 ga d0 gb hm hy R RE fun F' μ' w H' e1 R' r => ?_)
    obtain ⟨vs, h3, h4⟩ := R'.st m xs hx
    cases r with
    | @lst b _ ws h5 h6 =>
      refine ⟨_, b, vs, ws, rfl, rfl, h3, R'.fr _ _ h5, fits_le (by rw [← h4.length, ← h6.length]; exact hl), F', μ', e1.trans (Ext.set F' μ' q.2 m _), R'.write hx (h4.append h6), .non⟩
  · cases c
theorem s_popAt (h : SndX X g ck) (hk : ∀ t e, ck t e = true → okHead e = true) {a b : Tm} (c : ckMt ck "pop" a b e = true) {p q : E × Store} (ga : g a ρ S = some p) {y0 : D} (d0 : deref p.2 p.1 = some y0) (gb : g b ρ p.2 = some q) {m : Nat} (hm : p.1 = .r m) {i : Int} (hy : q.1 = .d (.int i)) {xs : List D} (hx : q.2[m]? = some (some xs)) (hi : 0 ≤ i ∧ i < (xs.length : Int) ∧ i < 10000000) {z : D} (hz : xs[i.toNat]? = some z)
    (R : Rel X.K F G μ S H) (RE : RelEnv X.K F μ S ρ σ) : sem X e σ H (Lift X.K F G μ S (.d z) (q.2.set m (some (xs.eraseIdx i.toNat)))) := by
  unfold ckMt at c
  split at c
  · obtain ⟨c, c4⟩ := and2 c
    obtain ⟨c, c3⟩ := and2 c
    obtain ⟨c1, c2⟩ := and2 c
    have en := of_decide_eq_true c1
    subst en
    have h2 := hk _ _ c4
    refine to_sem (pe_bm PySem.F.plainAttrs_list PySem.F.slot_list_pop PySem.F.type_list_pop mt_popAt pe_sem (pa_cons pe_sem pa_nil (star_of h2)) (base_of (hk _ _ c3)) (few h2) c2 (star_of h2)) (onto h c3 c4 ga d0 gb hm hy R RE fun F' μ' w H' e1 R' r => ?_)
    obtain ⟨vs, h3, h4⟩ := R'.st m xs hx
    cases r
    obtain ⟨u, h5, h6⟩ := h4.get hz
    have hix : ixN vs.length i = some i.toNat := by
      unfold ixN
      rw [if_pos hi.1, if_pos (by rw [← h4.length]; exact hi.2.1)]
    exact ⟨_, vs, i, i.toNat, u, rfl, rfl, h3, by omega, by omega, (ixN_seq hix).1, h5, F', μ', e1.trans (Ext.set F' μ' q.2 m _), R'.write hx (h4.erase i.toNat), h6⟩
  · cases c
/-! new lists by operators and built-ins -/
theorem f_o2 (gd : Good P k N sc s0 X) (h : SndX X g ck) {o : O2} {a b : Tm} (hf : isFresh (.o2 o a b) = true) (c : ckO2 ck o a b e = true) {p q : E × Store} (ga : g a ρ S = some p) (gb : g b ρ p.2 = some q) {x y z : D} (dx : deref q.2 p.1 = some x) (dy : deref q.2 q.1 = some y) (dz : DL.o2 o x y = some z) (R : Rel X.K F G μ S H) (RE : RelEnv X.K F μ S ρ σ) :
    FrX X e σ H F G μ S (.d z) q.2 := by
  have cases2 : o = .catL ∨ o = .repL := by cases o <;> first | exact .inl rfl | exact .inr rfl | cases hf
  unfold ckO2 at c
  split at c
  · rename_i ea op eb pos
    obtain ⟨c, c3⟩ := and2 c
    obtain ⟨c1, c2⟩ := and2 c
    rcases cases2 with rfl | rfl
    · have eo : op = .Add := by cases op <;> first | rfl | cases c1
      subst eo
      obtain ⟨xs, ys, zs, rfl, rfl, rfl⟩ := catL_out dz
      exact ⟨zs, rfl, to_sem (pe_op op_cat pe_sem pe_sem) (two h c2 c3 ga gb R RE fun F' μ' v w H' e1 R' r1 r2 => catL_sem dz R' (deref_rep R' r1 dx) (deref_rep R' r2 dy) fun u H2 rn => ⟨F', μ', H', e1, R', rn⟩)⟩
    · have eo : op = .Mult := by cases op <;> first | rfl | cases c1
      subst eo
      obtain ⟨xs, n, zs, rfl, rfl, rfl⟩ := repL_out dz
      exact ⟨zs, rfl, to_sem (pe_op op_rep pe_sem pe_sem) (two h c2 c3 ga gb R RE fun F' μ' v w H' e1 R' r1 r2 => repL_sem dz R' (deref_rep R' r1 dx) (deref_rep R' r2 dy) fun u H2 rn => ⟨F', μ', H', e1, R', rn⟩)⟩
  · rename_i ea op eb pos
    obtain ⟨c, c4⟩ := and2 c
    obtain ⟨c, c3⟩ := and2 c
    obtain ⟨c1, c2⟩ := and2 c
    rcases cases2 with rfl | rfl <;> cases op <;> cases c1
  · cases c
theorem f_o1 (gd : Good P k N sc s0 X) (h : SndX X g ck) (hk : ∀ t e, ck t e = true → okHead e = true) {o : O1} {a : Tm} (hf : isFresh (.o1 o a) = true) (c : ckO1 P ck sc o a e = true) {p : E × Store} (ga : g a ρ S = some p) {y z : D} (dy : deref p.2 p.1 = some y) (dz : DL.o1 o y = some z) (R : Rel X.K F G μ S H) (RE : RelEnv X.K F μ S ρ σ) :
    FrX X e σ H F G μ S (.d z) p.2 := by
  have cases3 : o = .listL ∨ o = .listT ∨ o = .sortedI ∨ o = .sortedP := by cases o <;> first | exact .inl rfl | exact .inr (.inl rfl) | exact .inr (.inr (.inl rfl)) | exact .inr (.inr (.inr rfl)) | cases hf
  unfold ckO1 at c
  split at c
  · obtain ⟨c1, c2⟩ := and2 c
    rcases cases3 with rfl | rfl | rfl | rfl <;> cases c1
  · obtain ⟨c1, c2⟩ := and2 c
    split at c1
    · rename_i nm b ho
      have bi := bi_of c1 gd.hsc gd.bi
      have h0 := hk _ _ c2
      rcases cases3 with rfl | rfl | rfl | rfl
      · obtain ⟨xs, hi, e2⟩ := bind_some_out (a := asL y) dz
        cases e2
        have e4 := asL_out hi
        subst e4
        refine ⟨xs, rfl, to_sem (pe_o1 ho bi call_list_of h0 pe_sem) ?_⟩
        refine sem_mono (h a _ c2 ρ S p.1 p.2 ga F G μ σ H R RE) fun v H1 ⟨F1, μ1, e1, R1, r1⟩ => ?_
        exact listL_sem R1 (deref_rep R1 r1 dy) fun u H2 rn => ⟨F1, μ1, H1, e1, R1, rn⟩
      · obtain ⟨xs, hi, e2⟩ := bind_some_out (a := asT y) dz
        cases e2
        have e4 := asT_out hi
        subst e4
        refine ⟨xs, rfl, to_sem (pe_o1 ho bi call_list_of h0 pe_sem) ?_⟩
        refine sem_mono (h a _ c2 ρ S p.1 p.2 ga F G μ σ H R RE) fun v H1 ⟨F1, μ1, e1, R1, r1⟩ => ?_
        exact listT_sem R1 (deref_rep R1 r1 dy) fun u H2 rn => ⟨F1, μ1, H1, e1, R1, rn⟩
      · obtain ⟨xs, hi, e2⟩ := bind_some_out (a := asL y) dz
        obtain ⟨ns, hn, e3⟩ := bind_some_out e2
        cases e3
        have e4 := asL_out hi
        subst e4
        refine ⟨_, rfl, to_sem (pe_o1 ho bi cr_sortedI h0 pe_sem) ?_⟩
        refine sem_mono (h a _ c2 ρ S p.1 p.2 ga F G μ σ H R RE) fun v H1 ⟨F1, μ1, e1, R1, r1⟩ => ?_
        exact sortedI_sem hn R1 (deref_rep R1 r1 dy) fun u H2 rn => ⟨F1, μ1, H1, e1, R1, rn⟩
      · obtain ⟨xs, hi, e2⟩ := bind_some_out (a := asL y) dz
        obtain ⟨ps, hn, e3⟩ := bind_some_out e2
        obtain ⟨hl, e3⟩ := ite_some e3
        cases e3
        have e4 := asL_out hi
        subst e4
        refine ⟨_, rfl, to_sem (pe_o1 ho bi (cr_pairs gd.room.units) h0 pe_sem) ?_⟩
        refine sem_mono (h a _ c2 ρ S p.1 p.2 ga F G μ σ H R RE) fun v H1 ⟨F1, μ1, e1, R1, r1⟩ => ?_
        exact sortedP_sem hn (of_decide_eq_true hl) R1 (deref_rep R1 r1 dy) fun u H2 rn => ⟨F1, μ1, H1, e1, R1, rn⟩
    · cases c1
  · cases c
end
end DL
end

section
set_option Elab.async false
set_option autoImplicit false
set_option linter.all false
set_option maxRecDepth 100000
set_option maxHeartbeats 4000000
/-! t[::-1] of a tuple. -/
namespace DL
open PySem PySem.Spec PyProof.Rows L2 HT
section
variable {prog : Program} {w : World} {A : Around} {E : Value → Shared → Prop} {s : Shared}
theorem cut_back {sl : Addr} {u : Tok} {n : Nat} {Q : Int × Int × Nat → Shared → Prop} (hs : s.heap.IsSliceOf sl .none .none (.int (-1) u)) (h : Q ((n : Int) - 1, -1, n) s) :
    wpAny (model prog w) A (Builtin.Slice.sliceApplied (.ref sl) (pure (n : Int))) Q E s := by
  obtain ⟨o, ho, hc, hd⟩ := id hs
  unfold Builtin.Slice.sliceApplied Builtin.Slice.sliceFields
  refine wpAny_bind (wpAny_bind (wpAny_field ho hd (x := .none) rfl (wpAny_bind (wpAny_field ho hd (x := .none) rfl (wpAny_bind (wpAny_field ho hd (x := .int (-1) u) rfl (wpAny_pure ?_)))))))
  refine wpAny_bind (slicePart_int ?_)
  show wpAny _ _ (if ((-1 : Int) == 0) = true then _ else _) _ _ s
  rw [if_neg (by decide)]
  refine wpAny_bind (slicePart_none (wpAny_bind (slicePart_none (wpAny_bind (wpAny_pure ?_)))))
  have e1 : Builtin.Slice.sliceAdjust none none (-1) (n : Int) = ((n : Int) - 1, -1) := rfl
  have e2 : Builtin.Slice.slicePlaces ((n : Int) - 1) (-1) (-1) = n := by
    unfold Builtin.Slice.slicePlaces
    rw [if_neg (by decide)]
    by_cases h0 : 0 < n
    · rw [if_pos (by omega)]
      have : ((n : Int) - 1 - -1 - 1) / (- -1) + 1 = (n : Int) := by
        rw [Int.neg_neg, Int.ediv_one]
        omega
      rw [this]
      rfl
    · rw [if_neg (by omega)]
      omega
  show wpAny _ _ (match Builtin.Slice.sliceAdjust none none (-1) (n : Int) with | (lo, hi) => pure (lo, (-1 : Int), Builtin.Slice.slicePlaces lo hi (-1))) _ _ s
  rw [e1]
  show wpAny _ _ (pure ((n : Int) - 1, (-1 : Int), Builtin.Slice.slicePlaces ((n : Int) - 1) (-1) (-1))) _ _ s
  rw [e2]
  exact wpAny_pure h
theorem fm_congr {α β : Type} {f g : α → Option β} : ∀ l : List α, (∀ x ∈ l, f x = g x) → l.filterMap f = l.filterMap g
  | [], _ => rfl
  | x :: l, h => by
    rw [List.filterMap_cons, List.filterMap_cons, h x List.mem_cons_self, fm_congr l fun y hy => h y (List.mem_cons_of_mem _ hy)]
theorem picked_back (xs : Array Value) : ((List.range xs.size).filterMap fun (k : Nat) => xs[((xs.size : Int) - 1 + (k : Int) * -1).toNat]?).toArray = xs.toList.reverse.toArray := by
  congr 1
  apply List.ext_getElem?
  intro i
  have e : (List.range xs.size).filterMap (fun (k : Nat) => xs[((xs.size : Int) - 1 + (k : Int) * -1).toNat]?) = (List.range xs.size).map fun k => xs.toList.reverse.getD k .none := by
    rw [← List.filterMap_eq_map]
    refine fm_congr _ fun k hk => ?_
    rw [List.mem_range] at hk
    have e1 : ((xs.size : Int) - 1 + (k : Int) * -1).toNat = xs.size - 1 - k := by omega
    have e2 : xs.toList.reverse[k]? = xs[xs.size - 1 - k]? := by
      rw [List.getElem?_reverse (by simpa using hk)]
      simp
    rw [e1, ← e2]
    show _ = some (xs.toList.reverse.getD k .none)
    rw [List.getD_eq_getElem?_getD, List.getElem?_eq_getElem (by simpa using hk)]
    rfl
  rw [e]
  by_cases hi : i < xs.size
  · rw [List.getElem?_map, List.getElem?_range hi]
    show some (xs.toList.reverse.getD i .none) = _
    rw [List.getD_eq_getElem?_getD, List.getElem?_eq_getElem (by simpa using hi)]
    rfl
  · rw [List.getElem?_eq_none (by simp; omega), List.getElem?_eq_none (by simp; omega)]
theorem item_back {t sl : Addr} {items : Array Value} {u : Tok} {Q : Value → Shared → Prop} (ht : IsTup s.heap t items) (hs : s.heap.IsSliceOf sl .none .none (.int (-1) u))
    (h : Q (.ref s.heap.objs.size) { s with heap := s.heap.push { cls := .type "tuple", data := .seq items.toList.reverse.toArray } }) (hz : items.size ≤ sizeLine) : wpAny (model prog w) A (getItem (.ref t) (.ref sl)) Q E s := by
  have okS : sizeOk (.seq items.toList.reverse.toArray) := by
    show items.toList.reverse.toArray.size ≤ sizeLine
    simpa using hz
  obtain ⟨o, ho, hc, hd⟩ := id hs
  have isS : s.TypeIs (.ref sl) "slice" := ⟨o, ho, hc⟩
  unfold getItem
  try with_reducible refine wpAny_holding ?_
  first | refine wpAny_bind (wpAny_pure ?_) | skip
  refine wpAny_bind (wpAny_sequenceKey ht.typeIs (by decide) ?_)
  have q := slot_tuple_getitem
  refine wpAny_bind (wpAny_callSpecial?_slot (name := Str.ofString "__getitem__") ht.typeIs q (wpAny_call_entry q ht.typeIs entry_tuple_getitem ?_ (args_tuple_getitem _ _)))
  show wpAny _ _ (Builtin.Tuple.tupleItemsOf (.ref t) >>= _) _ _ s
  refine wpAny_bind (tupleItemsOf_ ht ?_)
  refine wpAny_bind (wpAny_typeOf isS ?_)
  rw [if_pos (by decide)]
  refine wpAny_bind (cut_back hs ?_)
  show wpAny _ _ (if (((items.size : Int) - 1) == 0 && (-1 : Int) == 1 && items.size == items.size) = true then _ else _) _ _ s
  rw [if_neg (by simp), picked_back]
  exact wpAny_bind (m := Builtin.Tuple.tupleExact _) (wpAny_newObj_type (wpAny_bind (wpAny_pure (wpAny_pure ⟨_, rfl, wpAny_pure h⟩))) okS)
end
section
variable {X : Cx}
def tRevT (K : PySem.W.Frag) (te : TE) : TE := fun σ H Q => te σ H fun x H1 => ∃ a xs, x = .ref a ∧ SqT K H1 a xs ∧ ∀ p, H1 p = none → Q (.ref p) (upd H1 p (.tup xs.reverse))
theorem pe_revT {e : Expr} {te : TE} {j : Nat} {u1 u2 u3 pos : Pos} (he : PE X e te) : PE X (.Subscript e (.Slice none none (some (.UnaryOp .USub (.Constant (.int 1) j u1) u2)) u3) pos) (tRevT X.K te) := by
  refine ⟨fun pins s σ H Q Iv hq => ?_⟩
  refine Subscript_ (thn (he.run pins s σ H _ Iv hq) fun o s1 ⟨x, H1, I1, r1, q1⟩ => ?_)
  obtain ⟨a, xs, rfl, hx, q⟩ := q1
  cases r1
  have stp : PO X (some (.UnaryOp .USub (.Constant (.int 1) j u1) u2)) (tPart (tUn (rU fun i => .int (-i)) (tC (.int 1)))) := po_some (pe_un un_neg pe_int)
  refine wpAny_Slice (thn (po_none.run pins s1 σ H1 (fun z G => z = none ∧ G = H1) I1 ⟨rfl, rfl⟩) fun v1 s2 ⟨z1, G1, I2, d1, y1, y2⟩ => ?_)
  subst y1 y2
  refine thn (po_none.run pins s2 σ G1 (fun z G => z = none ∧ G = G1) I2 ⟨rfl, rfl⟩) fun v2 s3 ⟨z2, G2, I3, d2, y3, y4⟩ => ?_
  subst y3 y4
  refine thn (stp.run pins s3 σ G2 (fun z G => z = some (-1) ∧ G = G2) I3 ⟨1, rfl, -1, rfl, rfl, rfl⟩) fun v3 s4 ⟨z3, G3, I4, d3, y5, y6⟩ => ?_
  subst y5 y6
  have I5 : Inv X pins σ G3 { s4 with heap := s4.heap.push { cls := .type "slice", data := .fields #[v1, v2, v3] } } := I4.kept (t' := s4.toks) fun b ob z => Heap.get?_push_of_some _ z
  obtain ⟨its, r, ht, hz⟩ := I5.tuple hx
  have ll := r.length
  cases d1
  cases d2
  cases d3 with
  | int i tk =>
    show wpAny (model X.prog X.w) X.A (subscriptTail e (.Slice none none (some (.UnaryOp .USub (.Constant (.int 1) j u1) u2)) u3) (.ref a) (.ref s4.heap.objs.size)) (EP X pins σ Q) X.xe _
    refine tail_any (ops := [.ref a, .ref s4.heap.objs.size]) ht.typeIs slot_tuple_getitem.lookup ?_ (by with_unfolding_all rfl)
    refine item_back ht (Heap.IsSliceOf.new _ _ _ _) ?_ (by rw [List.size_toArray]; omega)
    refine ⟨.ref _, _, I5.laid (t' := s4.toks) (o := .tup xs.reverse) (fun b ob z => Heap.get?_push_of_some _ z) (Nat.le_refl _) ?_, rfl, q _ (I5.hok.fresh (Nat.le_refl _))⟩
    exact ⟨by rw [List.length_reverse]; exact hz, _, r.reverse, IsTup.new _ _⟩
end
end DL
end

section
set_option Elab.async false
set_option autoImplicit false
set_option linter.all false
set_option maxRecDepth 100000
set_option maxHeartbeats 4000000
/-! zip of a tuple and a list. -/
namespace DL
open PySem PySem.Spec PyProof.Rows L2
/-- the tuple at a and the list at b, item by item -/
def ItzM (K : PySem.W.Frag) (a b : Addr) : It where
  go i H := ∃ (xs ys : List V) (x y : V), SqT K H a xs ∧ SqL K H b ys ∧ xs[i]? = some x ∧ ys[i]? = some y
  yld i H v H' := ∃ T x y, v = .ref T ∧ H T = none ∧ H' = upd H T (.tup [x, y]) ∧ (∀ xs, SqT K H a xs → xs[i]? = some x) ∧ ∀ ys, SqL K H b ys → ys[i]? = some y
  stop i H := ∃ xs ys : List V, SqT K H a xs ∧ SqL K H b ys ∧ i = xs.length ∧ i = ys.length
theorem turn_zipM {P : Program} {w : World} {K : PySem.W.Frag} {elts : List Expr} {kk : Nat} {tpos : Pos} {a b z TI TO i1 i2 : Addr} (D : ZipSep2 z TI TO i1 i2 [i1, a] [i2, b]) :
    Turn P w K (.Tuple elts kk tpos) (ItzM K a b) [z, TI, TO, i1, i2] z (fun i h => IsZip h z TI TO .none ∧ IsTupOf2 h TI (.ref i1) (.ref i2) ∧ (∃ x y, IsTupOf2 h TO x y) ∧ h.IsTupleIter i1 a i ∧ h.IsListIter i2 b i ∧ a ≠ i1 ∧ b ≠ i2) where
  mem := by simp
  obj := fun i h st c hc => by
    obtain ⟨hz, hTI, ⟨x, y, hTO⟩, ⟨o1, e1, _, d1⟩, ⟨o2, e2, _, d2⟩, _⟩ := st
    have hc2 : c = z ∨ c = TI ∨ c = TO ∨ c = i1 ∨ c = i2 := by simpa using hc
    rcases hc2 with rfl | rfl | rfl | rfl | rfl
    · exact ⟨_, hz, fun v y => nomatch y⟩
    · exact ⟨_, hTI, fun v y => nomatch y⟩
    · exact ⟨_, hTO, fun v y => nomatch y⟩
    · exact ⟨o1, e1, fun v y => by
        rw [d1] at y
        cases y⟩
    · exact ⟨o2, e2, fun v y => by
        rw [d2] at y
        cases y⟩
  keep := fun i h h' st k => by
    obtain ⟨hz, hTI, ⟨x, y, hTO⟩, h1, h2, ne⟩ := st
    exact ⟨k z (by simp) _ hz, k TI (by simp) _ hTI, ⟨x, y, k TO (by simp) _ hTO⟩, h1.at fun o y => k i1 (by simp) o y, h2.at fun o y => k i2 (by simp) o y, ne⟩
  item := by
    intro X hP hw hK hc i pins s σ H E Iv hf st hg
    subst hP hw hK
    obtain ⟨hz, hTI, ⟨x0, y0, hTO⟩, h1, h2, na, nb⟩ := st
    obtain ⟨xs, ys, x, y, hqx, hqy, hx, hy⟩ := hg
    obtain ⟨its, rv, p1, _⟩ := Iv.tuple hqx
    obtain ⟨its2, rv2, p2, _⟩ := Iv.list hqy
    obtain ⟨u, hu, ru⟩ := rv.get hx
    obtain ⟨u2, hu2, ru2⟩ := rv2.get hy
    have zLt : z < s.heap.objs.size := Heap.lt_size hz
    have t1 : s.heap.IsTuple a its.toArray := p1
    have lt1 : i < its.toArray.size := by
      have := (List.getElem?_eq_some_iff.mp hu).1
      simpa using this
    have lt2 : i < its2.toArray.size := by
      have := (List.getElem?_eq_some_iff.mp hu2).1
      simpa using this
    refine wpAny_pyNext_zipD2_item D (Draws.tuple (A := X.A.in1) (Iv.ok.hd hc) i1 a na its.toArray) (Draws.list (A := X.A.in1) (Iv.ok.hd hc) i2 b nb its2.toArray) hz hTI hTO ⟨h1, t1⟩ ⟨h2, p2.isList⟩ lt1 lt2 fun v1 v2 h' tk e1 e2 z' TO' st1 st2 hT hsz hk => ?_
    have ev1 : v1 = u := by
      rw [← Array.getElem?_toList] at e1
      have e1 : its[i]? = some v1 := e1
      rw [hu] at e1
      exact (Option.some.inj e1).symm
    have ev2 : v2 = u2 := by
      rw [← Array.getElem?_toList] at e2
      have e2 : its2[i]? = some v2 := e2
      rw [hu2] at e2
      exact (Option.some.inj e2).symm
    subst ev1 ev2
    refine ⟨_, rfl, wpAny_letOwnedTupleGo_zip (s := { s with heap := h', toks := tk }) z' fun h3 z3 sb => ?_⟩
    have hT3 : h3.get? s.heap.objs.size = some { cls := .type "tuple", data := .seq #[v1, v2] } := (sb.2 _ (Nat.ne_of_gt zLt)).trans hT
    have new : ObjOk X.prog X.w (upd H s.heap.objs.size (.tup [x, y])) h3 s.heap.objs.size (.tup [x, y]) :=
      ⟨by show 2 ≤ sizeLine; decide, [v1, v2], .cons ru (.cons ru2 .nil), ⟨_, hT3, rfl, _, rfl⟩⟩
    have J : Inv X pins σ (upd H s.heap.objs.size (.tup [x, y])) { s with heap := h3, toks := tk } :=
      Iv.turnedNew (ch := [z, TI, TO, i1, i2]) (fun c o hb y => (sb.2 c (fun w => hb (by simp [w]))).trans (hk c o (fun w => hb (by simp [w])) (fun w => hb (by simp [w])) (fun w => hb (by simp [w])) (fun w => hb (by simp [w])) y)) hf (Nat.le_refl _) new
    refine ⟨.ref s.heap.objs.size, _, J, rfl, ⟨_, x, y, rfl, Iv.hok.fresh (Nat.le_refl _), rfl, fun l hl => by rw [Iv.tuple_inj hl hqx]; exact hx, fun l hl => by rw [Iv.list_inj hl hqy]; exact hy⟩, ⟨z3, ?_, ⟨v1, v2, ?_⟩, ?_, ?_, na, nb⟩, fun c hb => ?_⟩
    · exact (sb.2 _ D.TIz).trans (hk _ _ D.TIz D.TITO D.TIi1 D.TIi2 hTI)
    · exact (sb.2 _ D.TOz).trans TO'
    · exact st1.1.at fun o y => (sb.2 _ D.zi1.symm).trans y
    · exact st2.1.at fun o y => (sb.2 _ D.zi2.symm).trans y
    · have cLt : c < s.heap.objs.size := by
        have hc2 : c = z ∨ c = TI ∨ c = TO ∨ c = i1 ∨ c = i2 := by simpa using hb
        obtain ⟨_, e1, _⟩ := h1
        obtain ⟨_, e2, _⟩ := h2
        rcases hc2 with rfl | rfl | rfl | rfl | rfl
        · exact zLt
        · exact Heap.lt_size hTI
        · exact Heap.lt_size hTO
        · exact Heap.lt_size e1
        · exact Heap.lt_size e2
      rw [upd_ne (Nat.ne_of_lt cLt)]
      exact (hf c hb).1
  done := by
    intro X hP hw hK hc i pins s σ H E Iv hf st hg
    subst hP hw hK
    obtain ⟨hz, hTI, ⟨x0, y0, hTO⟩, h1, h2, na, nb⟩ := st
    obtain ⟨xs, ys, hqx, hqy, hx, hy⟩ := hg
    obtain ⟨its, rv, p1, _⟩ := Iv.tuple hqx
    obtain ⟨its2, rv2, p2, _⟩ := Iv.list hqy
    have l1 := rv.length
    have l2 := rv2.length
    have t1 : s.heap.IsTuple a its.toArray := p1
    have s1 : its.toArray.size = i := by
      rw [List.size_toArray, ← l1, hx]
    have s2 : its2.toArray.size = i := by
      rw [List.size_toArray, ← l2, hy]
    exact wpAny_pyNext_zipD2_end D (Draws.tuple (A := X.A.in1) (Iv.ok.hd hc) i1 a na its.toArray) (Draws.list (A := X.A.in1) (Iv.ok.hd hc) i2 b nb its2.toArray) hz hTI hTO ⟨h1, t1⟩ ⟨h2, p2.isList⟩ (by omega) (by omega) (.inl s1.symm) fun h' tk hk => ⟨rfl, Iv.turnedL (t' := tk) (ch := [z, TI, TO, i1, i2]) (fun c o hb y =>
      hk c o (fun w => hb (by simp [w])) (fun w => hb (by simp [w])) (fun w => hb (by simp [w])) (fun w => hb (by simp [w])) y) hf⟩
  self := fun A i s Q E st h => wpAny_pyIter_zip st.1 h
def iZipM (K : PySem.W.Frag) (ta : TA) : TI := fun σ H R => ta σ H fun vs H1 => ∃ a b xs ys, vs = [.ref a, .ref b] ∧ SqT K H1 a xs ∧ SqL K H1 b ys ∧ R (ItzM K a b) H1
end DL
end

section
set_option Elab.async false
set_option autoImplicit false
set_option linter.all false
set_option maxRecDepth 100000
set_option maxHeartbeats 4000000
/-! len(set(..)) of a tuple or a list of ints. -/
namespace DL
open PySem PySem.Spec PyProof.Rows L2
theorem mem_insS (n x : Int) : ∀ l : List Int, x ∈ insS n l ↔ x = n ∨ x ∈ l
  | [] => by simp [insS]
  | m :: r => by
    unfold insS
    split
    · simp
    · split
      · rename_i h
        subst h
        simp
      · rw [List.mem_cons, mem_insS n x r, List.mem_cons]
        constructor
        · rintro (h | h | h) <;> simp [h]
        · rintro (h | h | h) <;> simp [h]
theorem mem_setS (x : Int) : ∀ l : List Int, x ∈ sortSet l ↔ x ∈ l
  | [] => by simp [sortSet]
  | n :: r => by
    unfold sortSet
    rw [mem_insS, mem_setS x r, List.mem_cons]
theorem insS_up (n : Int) : ∀ l : List Int, l.Pairwise (· < ·) → (insS n l).Pairwise (· < ·)
  | [], _ => by simp [insS]
  | m :: r, h => by
    rw [List.pairwise_cons] at h
    unfold insS
    split
    · rename_i hlt
      rw [List.pairwise_cons, List.pairwise_cons]
      refine ⟨fun y hy => ?_, h⟩
      rw [List.mem_cons] at hy
      rcases hy with rfl | hy
      · exact hlt
      · exact Int.lt_trans hlt (h.1 y hy)
    · split
      · rw [List.pairwise_cons]
        exact h
      · rename_i h1 h2
        rw [List.pairwise_cons]
        refine ⟨fun y hy => ?_, insS_up n r h.2⟩
        rw [mem_insS] at hy
        rcases hy with rfl | hy
        · omega
        · exact h.1 y hy
theorem setS_up : ∀ l : List Int, (sortSet l).Pairwise (· < ·)
  | [] => .nil
  | n :: r => by
    unfold sortSet
    exact insS_up n _ (setS_up r)
theorem setS_nodup (l : List Int) : (sortSet l).Nodup := (setS_up l).imp fun h e => by
  rw [e] at h
  exact absurd h (Int.lt_irrefl _)
theorem setS_len {l K : List Int} (h1 : K.Nodup) (h2 : ∀ x, x ∈ K ↔ x ∈ l) : K.length = (sortSet l).length := by
  have p : K.Perm (sortSet l) := (List.perm_ext_iff_of_nodup h1 (setS_nodup l)).mpr fun x => (h2 x).trans (mem_setS x l).symm
  exact p.length_eq
def tLenT (K : PySem.W.Frag) (ta : TE) : TE := fun σ H Q => ta σ H fun x H1 => ∃ (l : Addr) (ns : List Int), x = .ref l ∧ SqT K H1 l (ns.map V.int) ∧ ns.length ≤ 1000 ∧ Q (.int (sortSet ns).length) H1
theorem pe_lenT {X : Cx} {a : Expr} {ta : TE} {p p2 q pos : Pos} (hg : Gl X "len") (hm : X.mg "len" = none) (hg2 : Gl X "set") (hm2 : X.mg "set" = none) (ha : PE X a ta) (hc : X.calm = true) (na : starEach [a] X.env = (false, eval a X.env) :: starEach [] X.env) :
    PE X (.Call (.Name "len" p) [.Call (.Name "set" p2) [a] [] q] [] pos) (tLenT X.K ta) := by
  refine ⟨fun pins s σ H Q Iv h => ?_⟩
  refine Call_ (ld_blt Iv hg hm boot_len ?_)
  refine PyProof.Rows.callWith_builtin1 (PyProof.Rows.args_cons ?_ rfl) rfl rfl
  refine Call_ (ld_blt Iv hg2 hm2 boot_set ?_)
  refine PyProof.Rows.callWith_type1 (PyProof.Rows.args_cons (thn (ha.run pins s σ H _ Iv h) fun v s1 ⟨x, H1, I1, r1, q1⟩ => PyProof.Rows.args_nil ?_) na) na rfl
  obtain ⟨l, ns, rfl, hq, hl, q1⟩ := q1
  cases r1
  obtain ⟨items, r, pt, hz⟩ := I1.tuple hq
  refine call_set_tupI ns (I1.ok.hd hc) (show s1.heap.IsTuple l items.toArray from pt) (by simpa using r.ints) (by unfold scanBound; omega) fun h' tk c hS hcl hk => ?_
  refine PyProof.Rows.args_nil ?_
  obtain ⟨o, es, ep, t, ho, hex, hd, _, hnd, hmem, _, hf, hn, _⟩ := hS
  have I2 : Inv X pins σ H1 { s1 with heap := h', toks := tk } := I1.kept hk
  have e : es.size = (sortSet ns).length := by
    rw [← setS_len hnd fun x => ((hmem x).symm.trans decide_eq_true_iff)]
    simp
  exact call_len_set ho hex hd hf (by omega) ⟨.int (sortSet ns).length, H1, I2.tok _, ⟨_, by rw [e]⟩, q1⟩
theorem met_nodup (val : Nat → Int) : ∀ i, (firstMet val i).Nodup
  | 0 => by
    rw [firstMet_zero]
    exact .nil
  | i + 1 => by
    rw [firstMet_succ]
    unfold step_dedup
    split
    · exact met_nodup val i
    · rename_i h
      rw [List.nodup_append]
      refine ⟨met_nodup val i, by simp, fun x hx y hy e => ?_⟩
      rw [List.mem_singleton] at hy
      subst hy e
      exact h (List.any_eq_true.mpr ⟨_, hx, by simp⟩)
theorem met_mem (ns : List Int) (x : Int) : x ∈ firstMet (fun i => ns.getD i 0) ns.length ↔ x ∈ ns := by
  have e : ((List.range ns.length).map fun i => ns.getD i 0) = ns := by
    apply List.ext_getElem
    · simp
    · intro i h1 h2
      simp [List.getD_eq_getElem?_getD, h2]
  have h := firstMet_any (fun i => ns.getD i 0) ns.length x
  rw [e] at h
  have b : ∀ l : List Int, l.any (· == x) = true ↔ x ∈ l := fun l => by
    rw [List.any_eq_true]
    constructor
    · rintro ⟨y, hy, e⟩
      rw [beq_iff_eq] at e
      rw [← e]
      exact hy
    · exact fun hx => ⟨x, hx, by simp⟩
  rw [← b, h, b]
def tLenL (K : PySem.W.Frag) (ta : TE) : TE := fun σ H Q => ta σ H fun x H1 => ∃ (l : Addr) (ns : List Int), x = .ref l ∧ SqL K H1 l (ns.map V.int) ∧ ns.length ≤ 1000 ∧ Q (.int (sortSet ns).length) H1
theorem pe_lenL {X : Cx} {a : Expr} {ta : TE} {p p2 q pos : Pos} (hg : Gl X "len") (hm : X.mg "len" = none) (hg2 : Gl X "set") (hm2 : X.mg "set" = none) (ha : PE X a ta) (hc : X.calm = true) (na : starEach [a] X.env = (false, eval a X.env) :: starEach [] X.env) :
    PE X (.Call (.Name "len" p) [.Call (.Name "set" p2) [a] [] q] [] pos) (tLenL X.K ta) := by
  refine ⟨fun pins s σ H Q Iv h => ?_⟩
  refine Call_ (ld_blt Iv hg hm boot_len ?_)
  refine PyProof.Rows.callWith_builtin1 (PyProof.Rows.args_cons ?_ rfl) rfl rfl
  refine Call_ (ld_blt Iv hg2 hm2 boot_set ?_)
  refine PyProof.Rows.callWith_type1 (PyProof.Rows.args_cons (thn (ha.run pins s σ H _ Iv h) fun v s1 ⟨x, H1, I1, r1, q1⟩ => PyProof.Rows.args_nil ?_) na) na rfl
  obtain ⟨l, ns, rfl, hq, hl, q1⟩ := q1
  cases r1
  obtain ⟨items, r, pl, hz⟩ := I1.list hq
  have ll : items.toArray.size = ns.length := by rw [List.size_toArray, ← r.length, List.length_map]
  refine call_set_list (I1.ok.hd hc) pl.isList (by simpa using r.ints) (by rw [ll]; unfold scanBound; omega) fun h' tk hS hk => ?_
  refine PyProof.Rows.args_nil ?_
  obtain ⟨o, es, ep, t, ho, hex, hd, _, _, hb, hf, hn⟩ := hS
  unfold scanBound at hb
  have I2 : Inv X pins σ H1 { s1 with heap := h', toks := tk } := I1.kept fun b o e => hk b o (Heap.lt_size e) e
  have e : es.size = (sortSet ns).length := by
    rw [hn, ll]
    exact setS_len (met_nodup _ _) (met_mem ns)
  exact call_len_set ho hex hd hf (by omega) ⟨.int (sortSet ns).length, H1, I2.tok _, ⟨_, by rw [e]⟩, q1⟩
end DL
end

section
set_option Elab.async false
set_option autoImplicit false
set_option linter.all false
set_option maxRecDepth 100000
set_option maxHeartbeats 4000000
/-! zip's next when what it handed out is gone; enumerate(zip(t, u)) of two tuples. -/
namespace DL
open PySem PySem.Spec PyProof.Rows L2
section
variable {prog : Program} {w : World} {A : Around} {E : Value → Shared → Prop} {s : Shared} {z TI TO T i1 i2 : Addr} {fp1 fp2 : List Addr} {n1 n2 i : Nat} {P1 P2 : Nat → Value → Prop} {St1 St2 : Nat → Heap → Prop} {f : Bool} {b1 b2 : Value}
theorem gone_free {Q : Bool → Shared → Prop} (hz : IsZipHeld s.heap z TI TO T f) (hT : s.heap.get? T = none) (q : Q true s) : wpAny (model prog w) A (Builtin.SmallTypes.ownedTupleIsFree (.ref z)) Q E s := by
  unfold Builtin.SmallTypes.ownedTupleIsFree
  refine wpAny_bind (wpAny_field hz rfl (x := rawInt T) rfl ?_)
  show wpAny _ _ (loadIfAlive ((T : Int).toNat) >>= _) _ _ _
  rw [Int.toNat_natCast]
  have dead : ∀ {R : Option Obj → Shared → Prop}, R none s → wpAny (model prog w) A (loadIfAlive T) R E s := fun {R} r => by
    have r' : R (s.heap.get? T) s := by
      rw [hT]
      exact r
    exact fun _ _ _ => r'
  refine wpAny_bind (dead ?_)
  simp only [Option.isNone_none, if_true]
  exact wpAny_pure q
theorem goneD_item {Q : Value → Shared → Prop} (S : ZipSep2 z TI TO i1 i2 fp1 fp2) (D1 : Draws prog w A i1 fp1 n1 P1 St1) (D2 : Draws prog w A i2 fp2 n2 P2 St2)
    (hz : IsZipHeld s.heap z TI TO T f) (hT : s.heap.get? T = none) (hTI : IsPair s.heap TI (.ref i1) (.ref i2)) (hTO : IsPair s.heap TO b1 b2) (st1 : St1 i s.heap) (st2 : St2 i s.heap) (lt1 : i < n1) (lt2 : i < n2)
    (q : ∀ x y h' tk, P1 i x → P2 i y → IsZip h' z TI TO (rawInt s.heap.objs.size) → IsPair h' TO x y → St1 (i + 1) h' → St2 (i + 1) h' → IsPair h' s.heap.objs.size x y → h'.objs.size = s.heap.objs.size + 1 →
      (∀ c o, c ≠ z → c ≠ TO → c ≠ i1 → c ≠ i2 → s.heap.get? c = some o → h'.get? c = some o) → Q (.ref s.heap.objs.size) { s with heap := h', toks := tk }) :
    wpAny (model prog w) A (Builtin.«zip.__next__» ⟨[.ref z], []⟩) (fun fin s' => ∃ v, fin = .done (.ret v) ∧ Q v s') E s := by
  obtain ⟨hp, gs, dr, tk0, os⟩ := s
  show wpAny _ _ (field (.ref z) 2 >>= _) _ _ _
  refine wpAny_bind (wpAny_field hz rfl (x := .bool false) rfl ?_)
  show wpAny _ _ (field (.ref z) 3 >>= _) _ _ _
  refine wpAny_bind (wpAny_field hz rfl (x := .ref TI) rfl ?_)
  refine wpAny_bind (wpAny_seqItems hTI rfl ?_)
  show wpAny _ _ (Builtin.SmallTypes.ownedTupleIsFree (.ref z) >>= _) _ _ _
  refine wpAny_bind (gone_free hz hT ?_)
  simp only [if_true]
  refine wpAny_bind (wpAny_rule ?_)
  refine wpAny_bind (wpAny_field hz rfl (x := .ref TO) rfl ?_)
  refine wpAny_bind (wpAny_setField_rec hz (by simp) fun g0 hz0 hs0 => ?_)
  have hz1 : g0.get? z = some { cls := .type "zip", dict := none, data := .fields #[.ellipsis, .bool f, .bool false, .ref TI, .ref TO], slots := #[] } := hz0
  replace hs0 : Heap.SameBut z hp g0 := hs0
  refine wpAny_bind ?_
  simp only [List.zipIdx_cons, List.zipIdx_nil, List.forIn_cons, List.forIn_nil]
  refine wpAny_bind (wpAny_bind (wpAny_onRaise ?_))
  show wpAny _ _ (Builtin.SmallTypes.nextOf (.ref i1) >>= _) _ _ ⟨g0, gs, dr, tk0, os⟩
  refine wpAny_bind (D1.item i _ _ _ lt1 (D1.over st1 hs0 S.zf1) fun x p1 tk1 hx sn1 hp1 => wpAny_pure ?_)
  replace hp1 : Heap.SameBut i1 g0 p1 := hp1
  have u1 : IsPair p1 TO b1 b2 := hp1.extBut _ _ S.Ti1 (hs0.extBut _ _ S.TOz hTO)
  refine wpAny_bind (wpAny_seqItems (s := ⟨p1, gs, dr, tk1, os⟩) u1 rfl ?_)
  refine wpAny_bind (updateSeq_IsTupOf2 (s := ⟨p1, gs, dr, tk1, os⟩) u1 fun g1 w1 hs1 => ?_)
  replace w1 : IsPair g1 TO x b2 := w1
  replace hs1 : Heap.SameBut TO p1 g1 := hs1
  refine wpAny_bind (wpAny_letGo (wpAny_pure ?_))
  refine wpAny_bind (wpAny_bind (wpAny_onRaise ?_))
  show wpAny _ _ (Builtin.SmallTypes.nextOf (.ref i2) >>= _) _ _ ⟨g1, gs, dr, tk1, os⟩
  refine wpAny_bind (D2.item i _ _ _ lt2 (D2.over (D2.over (D2.over st2 hs0 S.zf2) hp1 S.sep1_2) hs1 S.Tf2) fun y p2 tk2 hy sn2 hp2 => wpAny_pure ?_)
  replace hp2 : Heap.SameBut i2 g1 p2 := hp2
  have u2 : IsPair p2 TO x b2 := hp2.extBut _ _ S.Ti2 w1
  refine wpAny_bind (wpAny_seqItems (s := ⟨p2, gs, dr, tk2, os⟩) u2 rfl ?_)
  refine wpAny_bind (updateSeq_IsTupOf2 (s := ⟨p2, gs, dr, tk2, os⟩) u2 fun g2 w2 hs2 => ?_)
  replace w2 : IsPair g2 TO x y := w2
  replace hs2 : Heap.SameBut TO p2 g2 := hs2
  refine wpAny_bind (wpAny_letGo (wpAny_pure (wpAny_pure ?_)))
  refine wpAny_bind (wpAny_seqItems (s := ⟨g2, gs, dr, tk2, os⟩) w2 rfl ?_)
  refine wpAny_bind (wpAny_newTuple ?_)
  have sz : g2.objs.size = hp.objs.size := by rw [hs2.1, hp2.1, hs1.1, hp1.1, hs0.1]
  have hz2 : g2.get? z = some { cls := .type "zip", dict := none, data := .fields #[.ellipsis, .bool f, .bool false, .ref TI, .ref TO], slots := #[] } := hs2.extBut _ _ S.TOz.symm (hp2.extBut _ _ S.zi2 (hs1.extBut _ _ S.TOz.symm (hp1.extBut _ _ S.zi1 hz1)))
  have kk : ∀ c o, c ≠ z → c ≠ TO → c ≠ i1 → c ≠ i2 → hp.get? c = some o → g2.get? c = some o := fun c o c0 c1 c2 c3 e => hs2.extBut _ _ c1 (hp2.extBut _ _ c3 (hs1.extBut _ _ c1 (hp1.extBut _ _ c2 (hs0.extBut _ _ c0 e))))
  have m1 : St1 (i + 1) g2 := D1.over (D1.over (D1.over sn1 hs1 S.Tf1) hp2 S.sep2_1) hs2 S.Tf1
  have m2 : St2 (i + 1) g2 := D2.over sn2 hs2 S.Tf2
  have zl : z < g2.objs.size := Heap.lt_size hz2
  show wpAny _ _ (Builtin.SmallTypes.ownedTupleHandOut (.ref z) (.ref g2.objs.size) >>= _) _ _ ⟨g2.push { cls := .type "tuple", data := .seq #[x, y] }, gs, dr, tk2, os⟩
  refine wpAny_bind ?_
  unfold Builtin.SmallTypes.ownedTupleHandOut
  have hz3 : (g2.push { cls := .type "tuple", data := .seq #[x, y] }).get? z = some { cls := .type "zip", dict := none, data := .fields #[.ellipsis, .bool f, .bool false, .ref TI, .ref TO], slots := #[] } := Heap.get?_push_of_some _ hz2
  refine wpAny_bind (wpAny_setField_rec hz3 (by simp) fun g3 hz4 hs3 => ?_)
  have hz5 : g3.get? z = some { cls := .type "zip", dict := none, data := .fields #[rawInt g2.objs.size, .bool f, .bool false, .ref TI, .ref TO], slots := #[] } := hz4
  refine wpAny_setField_rec hz5 (by simp) fun g4 hz6 hs4 => ?_
  have hz7 : IsZip g4 z TI TO (rawInt g2.objs.size) := hz6
  replace hs3 : Heap.SameBut z (g2.push { cls := .type "tuple", data := .seq #[x, y] }) g3 := hs3
  replace hs4 : Heap.SameBut z g3 g4 := hs4
  have up : ∀ c o, c ≠ z → g2.get? c = some o → g4.get? c = some o := fun c o c1 e => hs4.extBut _ _ c1 (hs3.extBut _ _ c1 (Heap.get?_push_of_some _ e))
  have pr : IsPair g4 g2.objs.size x y := hs4.extBut _ _ (Nat.ne_of_gt zl) (hs3.extBut _ _ (Nat.ne_of_gt zl) (Heap.get?_push_size _ rfl))
  have sz4 : g4.objs.size = g2.objs.size + 1 := by rw [hs4.1, hs3.1, Heap.size_push]
  rw [sz] at hz7 pr sz4
  refine wpAny_pure ⟨_, rfl, ?_⟩
  show Q (.ref g2.objs.size) ⟨g4, gs, dr, tk2, os⟩
  rw [sz]
  exact q x y g4 tk2 hx hy hz7 (up _ _ S.TOz w2) (D1.frame _ _ _ m1 fun b hb o e => up b o (fun y => S.zf1 (y ▸ hb)) e) (D2.frame _ _ _ m2 fun b hb o e => up b o (fun y => S.zf2 (y ▸ hb)) e) pr sz4 fun c o c0 c1 c2 c3 e => up c o c0 (kk c o c0 c1 c2 c3 e)
theorem goneD_end {Q : Fin → Shared → Prop} (S : ZipSep2 z TI TO i1 i2 fp1 fp2) (D1 : Draws prog w A i1 fp1 n1 P1 St1)
    (hz : IsZipHeld s.heap z TI TO T f) (hT : s.heap.get? T = none) (hTI : IsPair s.heap TI (.ref i1) (.ref i2)) (hTO : IsPair s.heap TO b1 b2) (st1 : St1 i s.heap) (en : i = n1)
    (hE : ∀ h' tk e, (∀ c o, c ≠ z → c ≠ TO → c ≠ i1 → c ≠ i2 → s.heap.get? c = some o → h'.get? c = some o) → (∃ o, h'.get? e = some o ∧ o.cls = .type "StopIteration") → E (.ref e) { s with heap := h', toks := tk }) :
    wpAny (model prog w) A (Builtin.«zip.__next__» ⟨[.ref z], []⟩) Q E s := by
  obtain ⟨hp, gs, dr, tk0, os⟩ := s
  show wpAny _ _ (field (.ref z) 2 >>= _) _ _ _
  refine wpAny_bind (wpAny_field hz rfl (x := .bool false) rfl ?_)
  show wpAny _ _ (field (.ref z) 3 >>= _) _ _ _
  refine wpAny_bind (wpAny_field hz rfl (x := .ref TI) rfl ?_)
  refine wpAny_bind (wpAny_seqItems hTI rfl ?_)
  show wpAny _ _ (Builtin.SmallTypes.ownedTupleIsFree (.ref z) >>= _) _ _ _
  refine wpAny_bind (gone_free hz hT ?_)
  simp only [if_true]
  refine wpAny_bind (wpAny_rule ?_)
  refine wpAny_bind (wpAny_field hz rfl (x := .ref TO) rfl ?_)
  refine wpAny_bind (wpAny_setField_rec hz (by simp) fun g0 hz0 hs0 => ?_)
  have hz1 : g0.get? z = some { cls := .type "zip", dict := none, data := .fields #[.ellipsis, .bool f, .bool false, .ref TI, .ref TO], slots := #[] } := hz0
  replace hs0 : Heap.SameBut z hp g0 := hs0
  refine wpAny_bind ?_
  simp only [List.zipIdx_cons, List.zipIdx_nil, List.forIn_cons, List.forIn_nil]
  refine wpAny_bind (wpAny_bind (wpAny_onRaise ?_))
  show wpAny _ _ (Builtin.SmallTypes.nextOf (.ref i1) >>= _) _ _ ⟨g0, gs, dr, tk0, os⟩
  refine wpAny_bind (D1.done ⟨g0, gs, dr, tk0, os⟩ _ _ (by rw [← en]; exact D1.over st1 hs0 S.zf1) fun g1 e hq he => ?_)
  replace hq : Heap.ExtBut i1 g0 g1 := hq
  obtain ⟨oe, ho, hc⟩ := he
  replace ho : g1.get? e = some oe := ho
  have hz2 : g1.get? z = some { cls := .type "zip", dict := none, data := .fields #[.ellipsis, .bool f, .bool false, .ref TI, .ref TO], slots := #[] } := hq _ _ S.zi1 hz1
  have ez : e ≠ z := fun y => by
    subst y
    rw [hz2] at ho
    cases ho
    simp at hc
  refine wpAny_setField_rec (s := ⟨g1, gs, dr, tk0, os⟩) hz2 (by simp) fun g2 _ hs2 => ?_
  replace hs2 : Heap.SameBut z g1 g2 := hs2
  exact hE g2 tk0 e (fun c o c0 _ c2 _ x => hs2.extBut _ _ c0 (hq _ _ c2 (hs0.extBut _ _ c0 x))) ⟨oe, hs2.extBut _ _ ez ho, hc⟩
/-- a zip of the tuples t1, t2 behind i turns -/
structure ZS (h : Heap) (z TI TO i1 i2 t1 t2 : Addr) (i : Nat) : Prop where
  ti : IsPair h TI (.ref i1) (.ref i2)
  to : ∃ a b, IsPair h TO a b
  j1 : h.IsTupleIter i1 t1 i
  j2 : h.IsTupleIter i2 t2 i
  out : IsZip h z TI TO .none ∨ ∃ T f, IsZipHeld h z TI TO T f
theorem ZS.ty {t1 t2 : Addr} {s : Shared} (st : ZS s.heap z TI TO i1 i2 t1 t2 i) : s.TypeIs (.ref z) "zip" := by
  rcases st.out with h | ⟨T, f, h⟩
  · exact ⟨_, h, rfl⟩
  · exact ⟨_, h, rfl⟩
theorem zs_next {t1 t2 : Addr} {xs ys : Array Value} {Q : Value → Shared → Prop} (hh : A.handled = none) (S : ZipSep2 z TI TO i1 i2 [i1, t1] [i2, t2]) (e1 : t1 ≠ i1) (e2 : t2 ≠ i2) (st : ZS s.heap z TI TO i1 i2 t1 t2 i) (u1 : s.heap.IsTuple t1 xs) (u2 : s.heap.IsTuple t2 ys) (lt1 : i < xs.size) (lt2 : i < ys.size)
    (q : ∀ h' tk, ZS h' z TI TO i1 i2 t1 t2 (i + 1) → IsPair h' s.heap.objs.size xs[i] ys[i] → h'.objs.size = s.heap.objs.size + 1 → (∀ c o, c ≠ z → c ≠ TO → c ≠ i1 → c ≠ i2 → s.heap.get? c = some o → h'.get? c = some o) → Q (.ref s.heap.objs.size) { s with heap := h', toks := tk }) :
    wpAny (model prog w) A (Builtin.SmallTypes.nextOf (.ref z)) Q E s := by
  have D1 := Draws.tuple (prog := prog) (w := w) (A := A.in1) hh i1 t1 e1 xs
  have D2 := Draws.tuple (prog := prog) (w := w) (A := A.in1) hh i2 t2 e2 ys
  have got : ∀ {x y : Value}, xs[i]? = some x → ys[i]? = some y → x = xs[i] ∧ y = ys[i] := fun {x y} h1 h2 => by
    rw [Array.getElem?_eq_getElem lt1] at h1
    rw [Array.getElem?_eq_getElem lt2] at h2
    exact ⟨(Option.some.inj h1).symm, (Option.some.inj h2).symm⟩
  have ty := st.ty
  obtain ⟨a, b, hTO⟩ := st.to
  unfold Builtin.SmallTypes.nextOf
  refine wpAny_bind (wpAny_callSpecial?_slot (name := Str.ofString "__next__") ty F.slot_zip_next (wpAny_call_entry F.slot_zip_next ty F.entry_zip_next ?_ (F.args_zip_next_1 _)))
  rcases st.out with hz | ⟨T, f, hz⟩
  · refine zipD2_next_item S D1 D2 hz st.ti hTO ⟨st.j1, u1⟩ ⟨st.j2, u2⟩ lt1 lt2 fun x y h' tk hx hy hz' hTO' s1 s2 pr sz kk => wpAny_pure ?_
    obtain ⟨rfl, rfl⟩ := got hx hy
    exact q h' tk ⟨kk _ _ S.TIz S.TITO S.TIi1 S.TIi2 st.ti, ⟨_, _, hTO'⟩, s1.1, s2.1, .inr ⟨_, false, hz'⟩⟩ pr sz kk
  · cases hT : s.heap.get? T with
    | none =>
      refine goneD_item S D1 D2 hz hT st.ti hTO ⟨st.j1, u1⟩ ⟨st.j2, u2⟩ lt1 lt2 fun x y h' tk hx hy hz' hTO' s1 s2 pr sz kk => wpAny_pure ?_
      obtain ⟨rfl, rfl⟩ := got hx hy
      exact q h' tk ⟨kk _ _ S.TIz S.TITO S.TIi1 S.TIi2 st.ti, ⟨_, _, hTO'⟩, s1.1, s2.1, .inr ⟨_, false, hz'⟩⟩ pr sz kk
    | some oT =>
      refine heldD_item S D1 D2 hz hT st.ti ⟨st.j1, u1⟩ ⟨st.j2, u2⟩ lt1 lt2 fun x y h' tk hx hy hz' s1 s2 pr sz kk => wpAny_pure ?_
      obtain ⟨rfl, rfl⟩ := got hx hy
      exact q h' tk ⟨kk _ _ S.TIz S.TIi1 S.TIi2 st.ti, ⟨a, b, kk _ _ S.TOz S.Ti1 S.Ti2 hTO⟩, s1.1, s2.1, .inr ⟨T, true, hz'⟩⟩ pr sz fun c o c0 _ c2 c3 e => kk c o c0 c2 c3 e
theorem zs_stop {t1 t2 : Addr} {xs ys : Array Value} {Q : Value → Shared → Prop} (hh : A.handled = none) (S : ZipSep2 z TI TO i1 i2 [i1, t1] [i2, t2]) (e1 : t1 ≠ i1) (e2 : t2 ≠ i2) (st : ZS s.heap z TI TO i1 i2 t1 t2 i) (u1 : s.heap.IsTuple t1 xs) (u2 : s.heap.IsTuple t2 ys) (en : i = xs.size) (le2 : i ≤ ys.size)
    (q : ∀ h' tk e, (∀ c o, c ≠ z → c ≠ TO → c ≠ i1 → c ≠ i2 → s.heap.get? c = some o → h'.get? c = some o) → (∃ o, h'.get? e = some o ∧ o.cls = .type "StopIteration") → E (.ref e) { s with heap := h', toks := tk }) :
    wpAny (model prog w) A (Builtin.SmallTypes.nextOf (.ref z)) Q E s := by
  have D1 := Draws.tuple (prog := prog) (w := w) (A := A.in1) hh i1 t1 e1 xs
  have D2 := Draws.tuple (prog := prog) (w := w) (A := A.in1) hh i2 t2 e2 ys
  have ty := st.ty
  obtain ⟨a, b, hTO⟩ := st.to
  unfold Builtin.SmallTypes.nextOf
  refine wpAny_bind (wpAny_callSpecial?_slot (name := Str.ofString "__next__") ty F.slot_zip_next (wpAny_call_entry F.slot_zip_next ty F.entry_zip_next ?_ (F.args_zip_next_1 _)))
  rcases st.out with hz | ⟨T, f, hz⟩
  · exact zipD2_next_end S D1 D2 hz st.ti hTO ⟨st.j1, u1⟩ ⟨st.j2, u2⟩ (Nat.le_of_eq en) le2 (.inl en) q
  · cases hT : s.heap.get? T with
    | none => exact goneD_end S D1 hz hT st.ti hTO ⟨st.j1, u1⟩ en q
    | some oT => exact heldD_end S D1 D2 hz hT st.ti ⟨st.j1, u1⟩ ⟨st.j2, u2⟩ le2 en fun h' tk e kk he => q h' tk e (fun c o c0 _ c2 c3 x => kk c o c0 c2 c3 x) he
end
section
variable {prog : Program} {w : World} {A : Around} {E : Value → Shared → Prop} {s : Shared} {z TI TO i1 i2 t1 t2 e : Addr} {i : Nat} {xs ys : Array Value}
theorem ez_item {old : Value} {Q : Value → Shared → Prop} (hh : A.handled = none) (S : ZipSep2 z TI TO i1 i2 [i1, t1] [i2, t2]) (n1 : t1 ≠ i1) (n2 : t2 ≠ i2) (he : IsEnum s.heap e z ((i : Nat) : Int) old) (st : ZS s.heap z TI TO i1 i2 t1 t2 i) (u1 : s.heap.IsTuple t1 xs) (u2 : s.heap.IsTuple t2 ys) (lt1 : i < xs.size) (lt2 : i < ys.size)
    (ne : e ≠ z ∧ e ≠ TO ∧ e ≠ i1 ∧ e ≠ i2 ∧ e ≠ TI)
    (q : ∀ h1 tk1 h' tk, ZS h1 z TI TO i1 i2 t1 t2 (i + 1) → IsPair h1 s.heap.objs.size xs[i] ys[i] → h1.objs.size = s.heap.objs.size + 1 → (∀ c o, c ≠ z → c ≠ TO → c ≠ i1 → c ≠ i2 → s.heap.get? c = some o → h1.get? c = some o) →
      IsEnumOut h' e z ((i : Int) + 1) (.ref s.heap.objs.size) (s.heap.objs.size + 1) → h'.get? (s.heap.objs.size + 1) = some { cls := .type "tuple", data := .seq #[.int i tk1, .ref s.heap.objs.size] } → h'.objs.size = s.heap.objs.size + 2 →
      (∀ c o, c ≠ e → h1.get? c = some o → h'.get? c = some o) → Q (.ref (s.heap.objs.size + 1)) { s with heap := h', toks := tk }) :
    wpAny (model prog w) A (Builtin.«enumerate.__next__» ⟨[.ref e], []⟩) (fun fin s' => ∃ v, fin = .done (.ret v) ∧ Q v s') E s := by
  obtain ⟨hp, gs, dr, tk0, os⟩ := s
  show wpAny _ _ (field (.ref e) 2 >>= _) _ _ _
  refine wpAny_bind (wpAny_field he rfl (x := .ref z) rfl ?_)
  refine wpAny_bind (zs_next hh S n1 n2 st u1 u2 lt1 lt2 fun h1 tk1 st1 pr sz1 kk => ?_)
  have en1 : IsEnum h1 e z ((i : Nat) : Int) old := kk e _ ne.1 ne.2.1 ne.2.2.1 ne.2.2.2.1 he
  show wpAny _ _ (field (.ref e) 3 >>= _) _ _ ⟨h1, gs, dr, tk1, os⟩
  refine wpAny_bind (wpAny_field en1 rfl (x := rawInt (i : Int)) rfl ?_)
  show wpAny _ _ (field (.ref e) 4 >>= _) _ _ ⟨h1, gs, dr, tk1, os⟩
  refine wpAny_bind (wpAny_field en1 rfl (x := .none) rfl ?_)
  show wpAny _ _ (mkInt (i : Int) >>= _) _ _ ⟨h1, gs, dr, tk1, os⟩
  refine wpAny_bind (wpAny_mkInt ?_)
  show wpAny _ _ (setField (.ref e) 3 (rawInt ((i : Int) + 1)) >>= _) _ _ ⟨h1, gs, dr, tk1 + 1, os⟩
  refine wpAny_bind (wpAny_setField_rec en1 (by simp) fun h2 en2 sb2 => ?_)
  replace sb2 : Heap.SameBut e h1 h2 := sb2
  replace en2 : IsEnum h2 e z ((i : Int) + 1) old := en2
  show wpAny _ _ (setField (.ref e) 4 .none >>= _) _ _ ⟨h2, gs, dr, tk1 + 1, os⟩
  refine wpAny_bind (wpAny_setField_rec en2 (by simp) fun h3 en3 sb3 => ?_)
  replace sb3 : Heap.SameBut e h2 h3 := sb3
  replace en3 : IsEnum h3 e z ((i : Int) + 1) old := en3
  show wpAny _ _ (newTuple [.int i tk1, .ref hp.objs.size] >>= _) _ _ ⟨h3, gs, dr, tk1 + 1, os⟩
  refine wpAny_bind (wpAny_newTuple ?_)
  have sz3 : h3.objs.size = hp.objs.size + 1 := by rw [sb3.1, sb2.1, sz1]
  have en4 : IsEnum (h3.push { cls := .type "tuple", data := .seq #[.int i tk1, .ref hp.objs.size] }) e z ((i : Int) + 1) old := Heap.get?_push_of_some _ en3
  have t4 : (h3.push { cls := .type "tuple", data := .seq #[.int i tk1, .ref hp.objs.size] }).get? (hp.objs.size + 1) = some { cls := .type "tuple", data := .seq #[.int i tk1, .ref hp.objs.size] } := by
    rw [← sz3]
    exact Heap.get?_push_size _ rfl
  have sz4 : (h3.push { cls := .type "tuple", data := .seq #[.int i tk1, .ref hp.objs.size] }).objs.size = hp.objs.size + 2 := by rw [Heap.size_push, sz3]
  have k4 : ∀ c o, c ≠ e → h1.get? c = some o → (h3.push { cls := .type "tuple", data := .seq #[.int i tk1, .ref hp.objs.size] }).get? c = some o := fun c o c1 x => Heap.get?_push_of_some _ (sb3.extBut c o c1 (sb2.extBut c o c1 x))
  generalize h3.push { cls := .type "tuple", data := .seq #[.int i tk1, .ref hp.objs.size] } = h4 at en4 t4 sz4 k4
  show wpAny _ _ (Builtin.SmallTypes.ownedTupleIsFree (.ref e) >>= _) _ _ ⟨h4, gs, dr, tk1 + 1, os⟩
  rw [sz3]
  have el : e < hp.objs.size := Heap.lt_size he
  refine wpAny_bind ?_
  unfold Builtin.SmallTypes.ownedTupleIsFree
  refine wpAny_bind (wpAny_field en4 rfl (x := .none) rfl (wpAny_pure ?_))
  simp only [if_true]
  refine wpAny_bind (wpAny_rule ?_)
  refine wpAny_bind (wpAny_field en4 rfl (x := old) rfl ?_)
  refine wpAny_bind (wpAny_setField_rec en4 (by simp) fun h5 en5 sb5 => ?_)
  replace sb5 : Heap.SameBut e h4 h5 := sb5
  replace en5 : IsEnum h5 e z ((i : Int) + 1) (.ref hp.objs.size) := en5
  show wpAny _ _ (Builtin.SmallTypes.ownedTupleHandOut (.ref e) (.ref (hp.objs.size + 1)) >>= _) _ _ ⟨h5, gs, dr, tk1 + 1, os⟩
  refine wpAny_bind ?_
  unfold Builtin.SmallTypes.ownedTupleHandOut
  refine wpAny_bind (wpAny_setField_rec en5 (by simp) fun h6 en6 sb6 => ?_)
  replace sb6 : Heap.SameBut e h5 h6 := sb6
  replace en6 : IsEnumOut h6 e z ((i : Int) + 1) (.ref hp.objs.size) (hp.objs.size + 1) := en6
  refine wpAny_setField_rec en6 (by simp) fun h7 en7 sb7 => ?_
  replace sb7 : Heap.SameBut e h6 h7 := sb7
  replace en7 : IsEnumOut h7 e z ((i : Int) + 1) (.ref hp.objs.size) (hp.objs.size + 1) := en7
  have up : ∀ c o, c ≠ e → h4.get? c = some o → h7.get? c = some o := fun c o c1 x => sb7.extBut c o c1 (sb6.extBut c o c1 (sb5.extBut c o c1 x))
  refine wpAny_bind (wpAny_letGo (wpAny_pure ⟨_, rfl, q h1 tk1 h7 _ st1 pr sz1 kk en7 (up _ _ (Nat.ne_of_gt (Nat.lt_succ_of_lt el)) t4) ?_ fun c o c1 x => up c o c1 (k4 c o c1 x)⟩))
  rw [sb7.1, sb6.1, sb5.1, sz4]
theorem ez_next {old : Value} {Q : Option Value → Shared → Prop} (hh : A.handled = none) (S : ZipSep2 z TI TO i1 i2 [i1, t1] [i2, t2]) (n1 : t1 ≠ i1) (n2 : t2 ≠ i2) (he : IsEnum s.heap e z ((i : Nat) : Int) old) (st : ZS s.heap z TI TO i1 i2 t1 t2 i) (u1 : s.heap.IsTuple t1 xs) (u2 : s.heap.IsTuple t2 ys) (lt1 : i < xs.size) (lt2 : i < ys.size)
    (ne : e ≠ z ∧ e ≠ TO ∧ e ≠ i1 ∧ e ≠ i2 ∧ e ≠ TI)
    (q : ∀ h1 tk1 h' tk, ZS h1 z TI TO i1 i2 t1 t2 (i + 1) → IsPair h1 s.heap.objs.size xs[i] ys[i] → h1.objs.size = s.heap.objs.size + 1 → (∀ c o, c ≠ z → c ≠ TO → c ≠ i1 → c ≠ i2 → s.heap.get? c = some o → h1.get? c = some o) →
      IsEnumOut h' e z ((i : Int) + 1) (.ref s.heap.objs.size) (s.heap.objs.size + 1) → h'.get? (s.heap.objs.size + 1) = some { cls := .type "tuple", data := .seq #[.int i tk1, .ref s.heap.objs.size] } → h'.objs.size = s.heap.objs.size + 2 →
      (∀ c o, c ≠ e → h1.get? c = some o → h'.get? c = some o) → Q (some (.ref (s.heap.objs.size + 1))) { s with heap := h', toks := tk }) :
    wpAny (model prog w) A (pyNext (.ref e)) Q E s := by
  have ty : s.TypeIs (.ref e) "enumerate" := ⟨_, he, rfl⟩
  unfold pyNext
  exact wpAny_bind (wpAny_attempt (wpAny_callSpecial?_slot (name := Str.ofString "__next__") ty F.slot_enumerate_next (wpAny_call_entry F.slot_enumerate_next ty F.entry_enumerate_next
    (ez_item (A := A.in1) hh S n1 n2 he st u1 u2 lt1 lt2 ne fun h1 tk1 h' tk y1 y2 y3 y4 y5 y6 y7 y8 => wpAny_pure (q h1 tk1 h' tk y1 y2 y3 y4 y5 y6 y7 y8)) (F.args_enumerate_next_1 _))))
theorem ez_stop {old : Value} {Q : Option Value → Shared → Prop} (hh : A.handled = none) (S : ZipSep2 z TI TO i1 i2 [i1, t1] [i2, t2]) (n1 : t1 ≠ i1) (n2 : t2 ≠ i2) (he : IsEnum s.heap e z ((i : Nat) : Int) old) (st : ZS s.heap z TI TO i1 i2 t1 t2 i) (u1 : s.heap.IsTuple t1 xs) (u2 : s.heap.IsTuple t2 ys) (en : i = xs.size) (le2 : i ≤ ys.size)
    (q : ∀ h' tk, (∀ c o, c ≠ z → c ≠ TO → c ≠ i1 → c ≠ i2 → s.heap.get? c = some o → h'.get? c = some o) → Q none { s with heap := h', toks := tk }) :
    wpAny (model prog w) A (pyNext (.ref e)) Q E s := by
  have ty : s.TypeIs (.ref e) "enumerate" := ⟨_, he, rfl⟩
  unfold pyNext
  refine wpAny_bind (wpAny_attempt (wpAny_callSpecial?_slot (name := Str.ofString "__next__") ty F.slot_enumerate_next (wpAny_call_entry F.slot_enumerate_next ty F.entry_enumerate_next ?_ (F.args_enumerate_next_1 _))))
  show wpAny _ _ (field (.ref e) 2 >>= _) _ _ _
  refine wpAny_bind (wpAny_field he rfl (x := .ref z) rfl ?_)
  refine wpAny_bind (zs_stop (A := A.in1) hh S n1 n2 st u1 u2 en le2 fun h' tk x kk hx => ?_)
  obtain ⟨o, ho, hc⟩ := hx
  refine wpAny_bind (wpAny_isInstance (T := "StopIteration") (b := true) ⟨o, ho, hc⟩ isSubtype_stop ?_)
  exact wpAny_pure (q h' tk kk)
end
end DL
end

section
set_option Elab.async false
set_option autoImplicit false
set_option linter.all false
set_option maxRecDepth 100000
set_option maxHeartbeats 4000000
/-! walks over enumerate(zip(t, u)) and zip(t, l). -/
namespace DL
open PySem PySem.Spec PyProof.Rows L2
theorem meets_enumZ (z TI TO : Addr) :
    Meets (Builtin.«enumerate.__new__» ⟨[.type "enumerate", .ref z], []⟩) (fun _ R s => IsZip s.heap z TI TO .none ∧
      R (.ok (.ret (.ref s.heap.objs.size))) { s with heap := s.heap.push { cls := .type "enumerate", data := .fields #[.none, .bool false, .ref z, rawInt 0, .none, .none] } }) :=
  .of_wp fun prog w A R s hh => by
    obtain ⟨hp, gs, dr, tk, os⟩ := s
    obtain ⟨hz, hR⟩ := hh
    have sbt := sub_enumerate
    have begin_ : ∀ {A' : Around} {E : Value → Shared → Prop} {Q : Value → Shared → Prop}, Q (.ref z) ⟨hp, gs, dr, tk, os⟩ → wpAny (model prog w) A' (pyIter (.ref z)) Q E ⟨hp, gs, dr, tk, os⟩ := fun q => wpAny_pyIter_zip hz q
    wp_walk using begin_
    refine wpAny_stack_any fun st => wpAny_pure ?_
    split
    · rename_i cc _ _ _ _ _
      cases (cc == Value.type "enumerate")
      · wp_walk using begin_
        exact ⟨_, rfl, hR⟩
      · wp_walk using begin_
        exact ⟨_, rfl, hR⟩
    · wp_walk using begin_
      exact ⟨_, rfl, hR⟩
section
variable {prog : Program} {w : World} {A : Around} {E : Value → Shared → Prop} {s : Shared}
theorem enumZ {z TI TO : Addr} {Q : Value → Shared → Prop} (hz : IsZip s.heap z TI TO .none)
    (q : ∀ h', IsEnum h' s.heap.objs.size z 0 .none → (∀ b u, s.heap.get? b = some u → h'.get? b = some u) → Q (.ref s.heap.objs.size) { s with heap := h' }) : wpAny (model prog w) A (call (.type "enumerate") [.ref z]) Q E s := by
  refine callType_new F.called_enumerate (by decide) (F.typeCall_enumerate_1 _) (F.newCall_enumerate_1 _) (fun obj => F.args_object_init_2 obj _) F.entry_enumerate_new (meets_enumZ z TI TO) ⟨hz, ?_⟩
  have he : IsEnum (s.heap.push { cls := .type "enumerate", data := .fields #[.none, .bool false, .ref z, rawInt 0, .none, .none] }) s.heap.objs.size z 0 .none := Heap.get?_push_size _ rfl
  exact ⟨⟨_, he, rfl⟩, q _ he fun b u x => Heap.get?_push_of_some _ x⟩
end
/-- the tuples at a and b, item by item, with the count -/
def IteZ (K : PySem.W.Frag) (a b : Addr) : It where
  go i H := ∃ (xs ys : List V) (x y : V), SqT K H a xs ∧ SqT K H b ys ∧ xs[i]? = some x ∧ ys[i]? = some y
  yld i H v H' := ∃ T0 T x y, v = .ref T ∧ H T0 = none ∧ H T = none ∧ T ≠ T0 ∧ H' = upd (upd H T0 (.tup [x, y])) T (.tup [.int (i : Nat), .ref T0]) ∧ (∀ xs, SqT K H a xs → xs[i]? = some x) ∧ ∀ ys, SqT K H b ys → ys[i]? = some y
  stop i H := ∃ xs ys : List V, SqT K H a xs ∧ SqT K H b ys ∧ i = xs.length ∧ i ≤ ys.length
theorem turn_enumZ {P : Program} {w : World} {K : PySem.W.Frag} {elts : List Expr} {kk : Nat} {tpos : Pos} {a b e z TI TO i1 i2 : Addr} (D : ZipSep2 z TI TO i1 i2 [i1, a] [i2, b]) (na : a ≠ i1) (nb : b ≠ i2) (ne : e ≠ z ∧ e ≠ TO ∧ e ≠ i1 ∧ e ≠ i2 ∧ e ≠ TI) (ab : a ≠ e ∧ b ≠ e ∧ a ≠ i2 ∧ b ≠ i1 ∧ a ≠ z ∧ b ≠ z ∧ a ≠ TO ∧ b ≠ TO) :
    Turn P w K (.Tuple elts kk tpos) (IteZ K a b) [e, z, TI, TO, i1, i2] e (fun i h => (∃ old, IsEnum h e z ((i : Nat) : Int) old) ∧ ZS h z TI TO i1 i2 a b i) where
  mem := by simp
  obj := fun i h st c hc => by
    obtain ⟨⟨old, he⟩, zs⟩ := st
    obtain ⟨a1, b1, hTO⟩ := zs.to
    have hc2 : c = e ∨ c = z ∨ c = TI ∨ c = TO ∨ c = i1 ∨ c = i2 := by simpa using hc
    rcases hc2 with rfl | rfl | rfl | rfl | rfl | rfl
    · exact ⟨_, he, fun v y => nomatch y⟩
    · rcases zs.out with h | ⟨T, f, h⟩
      · exact ⟨_, h, fun v y => nomatch y⟩
      · exact ⟨_, h, fun v y => nomatch y⟩
    · exact ⟨_, zs.ti, fun v y => nomatch y⟩
    · exact ⟨_, hTO, fun v y => nomatch y⟩
    · obtain ⟨o1, e1, _, d1⟩ := zs.j1
      exact ⟨o1, e1, fun v y => by
        rw [d1] at y
        cases y⟩
    · obtain ⟨o1, e1, _, d1⟩ := zs.j2
      exact ⟨o1, e1, fun v y => by
        rw [d1] at y
        cases y⟩
  keep := fun i h h' st k => by
    obtain ⟨⟨old, he⟩, zs⟩ := st
    obtain ⟨a1, b1, hTO⟩ := zs.to
    refine ⟨⟨old, k e (by simp) _ he⟩, k TI (by simp) _ zs.ti, ⟨a1, b1, k TO (by simp) _ hTO⟩, zs.j1.at fun o y => k i1 (by simp) o y, zs.j2.at fun o y => k i2 (by simp) o y, ?_⟩
    rcases zs.out with h | ⟨T, f, h⟩
    · exact .inl (k z (by simp) _ h)
    · exact .inr ⟨T, f, k z (by simp) _ h⟩
  item := by
    intro X hP hw hK hc i pins s σ H E Iv hf st hg
    subst hP hw hK
    obtain ⟨⟨old, he⟩, zs⟩ := st
    obtain ⟨xs, ys, x, y, hqx, hqy, hx, hy⟩ := hg
    obtain ⟨its, rv, p1, _⟩ := Iv.tuple hqx
    obtain ⟨its2, rv2, p2, _⟩ := Iv.tuple hqy
    obtain ⟨u, hu, ru⟩ := rv.get hx
    obtain ⟨u2, hu2, ru2⟩ := rv2.get hy
    have t1 : s.heap.IsTuple a its.toArray := p1
    have t2 : s.heap.IsTuple b its2.toArray := p2
    have lt1 : i < its.toArray.size := by
      have := (List.getElem?_eq_some_iff.mp hu).1
      simpa using this
    have lt2 : i < its2.toArray.size := by
      have := (List.getElem?_eq_some_iff.mp hu2).1
      simpa using this
    have g1 : its.toArray[i] = u := by
      have := (List.getElem?_eq_some_iff.mp hu).2
      simpa using this
    have g2 : its2.toArray[i] = u2 := by
      have := (List.getElem?_eq_some_iff.mp hu2).2
      simpa using this
    have low : ∀ c, c ∈ [e, z, TI, TO, i1, i2] → c < s.heap.objs.size := fun c hb => by
      obtain ⟨a1, b1, hTO⟩ := zs.to
      have hc2 : c = e ∨ c = z ∨ c = TI ∨ c = TO ∨ c = i1 ∨ c = i2 := by simpa using hb
      rcases hc2 with rfl | rfl | rfl | rfl | rfl | rfl
      · exact Heap.lt_size he
      · rcases zs.out with h | ⟨T, f, h⟩
        · exact Heap.lt_size h
        · exact Heap.lt_size h
      · exact Heap.lt_size zs.ti
      · exact Heap.lt_size hTO
      · obtain ⟨o1, e1, _⟩ := zs.j1
        exact Heap.lt_size e1
      · obtain ⟨o1, e1, _⟩ := zs.j2
        exact Heap.lt_size e1
    refine ez_next (Iv.ok.hd hc) D na nb he zs t1 t2 lt1 lt2 ne fun h1 tk1 h' tk zs1 pr sz1 k1 eo tT sz2 k2 => ?_
    rw [g1, g2] at pr
    refine ⟨_, rfl, wpAny_letOwnedTupleGo_enum (s := { s with heap := h', toks := tk }) eo fun h3 he3 sb => ?_⟩
    replace sb : Heap.SameBut e h' h3 := sb
    have new1 : ObjOk X.prog X.w (upd H s.heap.objs.size (.tup [x, y])) h1 s.heap.objs.size (.tup [x, y]) :=
      ⟨by show 2 ≤ sizeLine; decide, [u, u2], .cons ru (.cons ru2 .nil), ⟨_, pr, rfl, _, rfl⟩⟩
    have J1 : Inv X pins σ (upd H s.heap.objs.size (.tup [x, y])) { s with heap := h1, toks := tk1 } :=
      Iv.turnedNew (ch := [e, z, TI, TO, i1, i2]) (fun c o hb w => k1 c o (fun v => hb (by simp [v])) (fun v => hb (by simp [v])) (fun v => hb (by simp [v])) (fun v => hb (by simp [v])) w) hf (Nat.le_refl _) new1
    have hf1 : ∀ c ∈ [e, z, TI, TO, i1, i2], FpOk X pins (upd H s.heap.objs.size (.tup [x, y])) c := fun c hb => by
      obtain ⟨y1, y2⟩ := hf c hb
      exact ⟨by rw [upd_ne (Nat.ne_of_lt (low c hb))]; exact y1, y2⟩
    have tT3 : h3.get? (s.heap.objs.size + 1) = some { cls := .type "tuple", data := .seq #[.int i tk1, .ref s.heap.objs.size] } := sb.extBut _ _ (Nat.ne_of_gt (Nat.lt_succ_of_lt (low e (by simp)))) tT
    have new2 : ObjOk X.prog X.w (upd (upd H s.heap.objs.size (.tup [x, y])) (s.heap.objs.size + 1) (.tup [.int (i : Nat), .ref s.heap.objs.size])) h3 (s.heap.objs.size + 1) (.tup [.int (i : Nat), .ref s.heap.objs.size]) :=
      ⟨by show 2 ≤ sizeLine; decide, [.int i tk1, .ref s.heap.objs.size], .cons ⟨_, rfl⟩ (.cons rfl .nil), ⟨_, tT3, rfl, _, rfl⟩⟩
    have up : ∀ c o, c ≠ e → h1.get? c = some o → h3.get? c = some o := fun c o hc w => sb.extBut c o hc (k2 c o hc w)
    have J2 := J1.turnedNew (h' := h3) (t' := tk) (ch := [e, z, TI, TO, i1, i2]) (fun c o hb w => up c o (fun v => hb (by simp [v])) w) hf1 (Nat.le_of_eq sz1) new2
    have fr1 : H (s.heap.objs.size + 1) = none := Iv.hok.fresh (Nat.le_succ _)
    refine ⟨.ref (s.heap.objs.size + 1), _, J2, rfl, ⟨s.heap.objs.size, s.heap.objs.size + 1, x, y, rfl, Iv.hok.fresh (Nat.le_refl _), fr1, Nat.succ_ne_self _, rfl, fun l hl => by rw [Iv.tuple_inj hl hqx]; exact hx, fun l hl => by rw [Iv.tuple_inj hl hqy]; exact hy⟩, ⟨⟨.ref s.heap.objs.size, ?_⟩, ?_⟩, fun c hb => ?_⟩
    · have e1 : ((i + 1 : Nat) : Int) = (i : Int) + 1 := by omega
      rw [e1]
      exact he3
    · obtain ⟨a1, b1, hTO⟩ := zs1.to
      refine ⟨up _ _ ne.2.2.2.2.symm zs1.ti, ⟨a1, b1, up _ _ ne.2.1.symm hTO⟩, zs1.j1.at fun o y => up _ _ ne.2.2.1.symm y, zs1.j2.at fun o y => up _ _ ne.2.2.2.1.symm y, ?_⟩
      rcases zs1.out with h | ⟨T, f, h⟩
      · exact .inl (up _ _ ne.1.symm h)
      · exact .inr ⟨T, f, up _ _ ne.1.symm h⟩
    · have lc := low c hb
      rw [upd_ne (Nat.ne_of_lt (Nat.lt_succ_of_lt lc)), upd_ne (Nat.ne_of_lt lc)]
      exact (hf c hb).1
  done := by
    intro X hP hw hK hc i pins s σ H E Iv hf st hg
    subst hP hw hK
    obtain ⟨⟨old, he⟩, zs⟩ := st
    obtain ⟨xs, ys, hqx, hqy, hx, hy⟩ := hg
    obtain ⟨its, rv, p1, _⟩ := Iv.tuple hqx
    obtain ⟨its2, rv2, p2, _⟩ := Iv.tuple hqy
    have l1 := rv.length
    have l2 := rv2.length
    have t1 : s.heap.IsTuple a its.toArray := p1
    have t2 : s.heap.IsTuple b its2.toArray := p2
    exact ez_stop (Iv.ok.hd hc) D na nb he zs t1 t2 (by rw [List.size_toArray]; omega) (by rw [List.size_toArray]; omega) fun h' tk hk => ⟨rfl, Iv.turnedL (t' := tk) (ch := [e, z, TI, TO, i1, i2]) (fun c o hb y =>
      hk c o (fun w => hb (by simp [w])) (fun w => hb (by simp [w])) (fun w => hb (by simp [w])) (fun w => hb (by simp [w])) y) hf⟩
  self := fun A i s Q E st h => let ⟨⟨_, he⟩, _⟩ := st; wpAny_pyIter_enum he h
def iEnumZ (K : PySem.W.Frag) (ta : TA) : TI := fun σ H R => ta σ H fun vs H1 => ∃ a b xs ys, vs = [.ref a, .ref b] ∧ SqT K H1 a xs ∧ SqT K H1 b ys ∧ R (IteZ K a b) H1
theorem five {N b : Nat} {P : Nat → Prop} (h : b = N + 4 ∨ b = N + 2 ∨ b = N + 3 ∨ b = N ∨ b = N + 1) : N ≤ b := by omega
theorem pi_zipM {X : Cx} {e e2 : Expr} {ta : TA} {p pos tpos : Pos} {elts : List Expr} {kk : Nat} (hg : Gl X "zip") (hm : X.mg "zip" = none) (ha : PA X [e, e2] ta)
    (hs : starEach [e, e2] X.env = (false, eval e X.env) :: starEach [e2] X.env) (hpl : (backTo pos (starEach [e2] X.env)).any (·.1) = false) :
    PI X (.Tuple elts kk tpos) (.Call (.Name "zip" p) [e, e2] [] pos) (iZipM X.K ta) := by
  refine ⟨fun pins s σ H R Iv h => ?_⟩
  refine Call_ (ld_blt Iv hg hm PyProof.Rows.boot_zip (PyProof.Rows.callWith_type1 (thn (ha.run pos pins s σ H _ Iv h) fun us s1 ⟨vs, H1, I1, r1, q1⟩ => ?_) hs hpl))
  obtain ⟨a, b, xs, ys, ex, hqx, hqy, q⟩ := q1
  subst ex
  cases r1 with
  | cons r rr =>
    cases rr with
    | cons r' rr =>
      cases rr
      cases r
      cases r'
      obtain ⟨its, rv, p1, _⟩ := I1.tuple hqx
      obtain ⟨its2, rv2, p2, _⟩ := I1.list hqy
      have t1 : s1.heap.IsTuple a its.toArray := p1
      have aL : a < s1.heap.objs.size := by
        obtain ⟨_, y, _⟩ := t1
        exact Heap.lt_size y
      have bL : b < s1.heap.objs.size := p2.lt
      refine zip_begins2 (begins_tuple a its.toArray) (begins_list b its2.toArray) t1 p2.isList fun h' hz hTI hTO g1 g2 sz hk => wpAny_pyIter_zip hz ?_
      have J : Inv X pins σ H1 { s1 with heap := h' } := I1.kept (t' := s1.toks) hk
      have D := zip_sep2 (N := s1.heap.objs.size) (fp1 := [a]) (fp2 := [b]) (fun c hc => by
        rw [List.mem_singleton] at hc
        rw [hc]
        exact aL) (fun c hc => by
        rw [List.mem_singleton] at hc
        rw [hc]
        exact bL)
      refine ⟨s1.heap.objs.size + 4, [s1.heap.objs.size + 4, s1.heap.objs.size + 2, s1.heap.objs.size + 3, s1.heap.objs.size, s1.heap.objs.size + 1], _, _, H1, rfl, J, turn_zipM D, ⟨hz, hTI, ⟨_, _, hTO⟩, ⟨_, g1, rfl, rfl⟩, ⟨_, g2, rfl, rfl⟩, Nat.ne_of_lt aL, Nat.ne_of_lt (Nat.lt_succ_of_lt bL)⟩, fun c hb => ?_, q⟩
      have ge : s1.heap.objs.size ≤ c := by
        have hc2 : c = s1.heap.objs.size + 4 ∨ c = s1.heap.objs.size + 2 ∨ c = s1.heap.objs.size + 3 ∨ c = s1.heap.objs.size ∨ c = s1.heap.objs.size + 1 := by simpa using hb
        exact five (P := fun _ => True) hc2
      exact I1.fpOk ge (I1.hok.fresh ge)
theorem pi_enumZ {X : Cx} {e e2 : Expr} {ta : TA} {p p2 pos pos2 tpos : Pos} {elts : List Expr} {kk : Nat} (hg : Gl X "zip") (hm : X.mg "zip" = none) (hg2 : Gl X "enumerate") (hm2 : X.mg "enumerate" = none) (ha : PA X [e, e2] ta)
    (hs : starEach [e, e2] X.env = (false, eval e X.env) :: starEach [e2] X.env) (hpl : (backTo pos (starEach [e2] X.env)).any (·.1) = false) :
    PI X (.Tuple elts kk tpos) (.Call (.Name "enumerate" p2) [.Call (.Name "zip" p) [e, e2] [] pos] [] pos2) (iEnumZ X.K ta) := by
  refine ⟨fun pins s σ H R Iv h => ?_⟩
  refine Call_ (ld_blt Iv hg2 hm2 boot_enumerate (PyProof.Rows.callWith_type1 (args_cons ?_ rfl) rfl rfl))
  refine Call_ (ld_blt Iv hg hm PyProof.Rows.boot_zip (PyProof.Rows.callWith_type1 (thn (ha.run pos pins s σ H _ Iv h) fun us s1 ⟨vs, H1, I1, r1, q1⟩ => ?_) hs hpl))
  obtain ⟨a, b, xs, ys, ex, hqx, hqy, q⟩ := q1
  subst ex
  cases r1 with
  | cons r rr =>
    cases rr with
    | cons r' rr =>
      cases rr
      cases r
      cases r'
      obtain ⟨its, rv, p1, _⟩ := I1.tuple hqx
      obtain ⟨its2, rv2, p2, _⟩ := I1.tuple hqy
      have t1 : s1.heap.IsTuple a its.toArray := p1
      have t2 : s1.heap.IsTuple b its2.toArray := p2
      have aL : a < s1.heap.objs.size := by
        obtain ⟨_, y, _⟩ := t1
        exact Heap.lt_size y
      have bL : b < s1.heap.objs.size := by
        obtain ⟨_, y, _⟩ := t2
        exact Heap.lt_size y
      refine zip_begins2 (begins_tuple a its.toArray) (begins_tuple b its2.toArray) t1 t2 fun h' hz hTI hTO g1 g2 sz hk => args_nil ?_
      refine enumZ (s := { s1 with heap := h' }) hz fun h2 he hk2 => wpAny_pyIter_enum he ?_
      have J : Inv X pins σ H1 { s1 with heap := h2 } := I1.kept (t' := s1.toks) fun c o y => hk2 c o (hk c o y)
      have D := zip_sep2 (N := s1.heap.objs.size) (fp1 := [a]) (fp2 := [b]) (fun c hc => by
        rw [List.mem_singleton] at hc
        rw [hc]
        exact aL) (fun c hc => by
        rw [List.mem_singleton] at hc
        rw [hc]
        exact bL)
      have sz' : h'.objs.size = s1.heap.objs.size + 5 := sz
      replace he : IsEnum h2 (s1.heap.objs.size + 5) (s1.heap.objs.size + 4) 0 .none := by
        have y : IsEnum h2 h'.objs.size (s1.heap.objs.size + 4) 0 .none := he
        rw [sz'] at y
        exact y
      have aN : ∀ c, c < s1.heap.objs.size → c ≠ s1.heap.objs.size + 5 ∧ c ≠ s1.heap.objs.size + 4 ∧ c ≠ s1.heap.objs.size + 3 ∧ c ≠ s1.heap.objs.size + 1 ∧ c ≠ s1.heap.objs.size := fun c hc => by
        have hc : (c : Nat) < s1.heap.objs.size := hc
        refine ⟨fun y => ?_, fun y => ?_, fun y => ?_, fun y => ?_, fun y => ?_⟩ <;> (have y : (c : Nat) = _ := y; omega)
      obtain ⟨a5, a4, a3, a1, a0⟩ := aN a aL
      obtain ⟨b5, b4, b3, b1, b0⟩ := aN b bL
      have ge6 : ∀ c, c ∈ [s1.heap.objs.size + 5, s1.heap.objs.size + 4, s1.heap.objs.size + 2, s1.heap.objs.size + 3, s1.heap.objs.size, s1.heap.objs.size + 1] → s1.heap.objs.size ≤ c := fun c hb => by
        have hc2 : c = s1.heap.objs.size + 5 ∨ c = s1.heap.objs.size + 4 ∨ c = s1.heap.objs.size + 2 ∨ c = s1.heap.objs.size + 3 ∨ c = s1.heap.objs.size ∨ c = s1.heap.objs.size + 1 := by simpa using hb
        rcases hc2 with y | y
        · rw [y]
          exact Nat.le_add_right _ _
        · exact five (P := fun _ => True) y
      rw [sz']
      refine ⟨s1.heap.objs.size + 5, [s1.heap.objs.size + 5, s1.heap.objs.size + 4, s1.heap.objs.size + 2, s1.heap.objs.size + 3, s1.heap.objs.size, s1.heap.objs.size + 1], _, _, H1, rfl, J, turn_enumZ D a0 b1 ⟨?_, ?_, ?_, ?_, ?_⟩ ⟨a5, b5, a1, b0, a4, b4, a3, b3⟩,
        ⟨⟨.none, he⟩, hk2 _ _ hTI, ⟨_, _, hk2 _ _ hTO⟩, ⟨_, hk2 _ _ g1, rfl, rfl⟩, ⟨_, hk2 _ _ g2, rfl, rfl⟩, .inl (hk2 _ _ hz)⟩, fun c hb => I1.fpOk (ge6 c hb) (I1.hok.fresh (ge6 c hb)), q⟩
      · exact Nat.succ_ne_self _
      · exact (show (s1.heap.objs.size + 5 : Nat) ≠ s1.heap.objs.size + 3 by omega)
      · exact (show (s1.heap.objs.size + 5 : Nat) ≠ s1.heap.objs.size by omega)
      · exact (show (s1.heap.objs.size + 5 : Nat) ≠ s1.heap.objs.size + 1 by omega)
      · exact (show (s1.heap.objs.size + 5 : Nat) ≠ s1.heap.objs.size + 2 by omega)
end DL
end

section
set_option autoImplicit false
set_option linter.all false
/-! Targets, walks, comprehensions. -/
namespace DL
open PySem PySem.Spec PyProof.Rows L2
variable [TabI]

mutual
def gT (K : PySem.W.Frag) : Tg → TG
  | .nm i => gName i
  | .tp ts => gTup K ts.length (gTs K ts)
def gTs (K : PySem.W.Frag) : List Tg → TGs
  | [] => gNil
  | t :: ts => gCons (gT K t) (gTs K ts)
end
/-- what the stores ask of the context -/
structure Sto (N : List Str) (sc s0 : Scope) (X : Cx) : Prop where
  hN : X.N = N
  nd : N.Nodup
  hsc : X.env.scope = sc
  own : ∀ x, s0.names.lookup x = some .cell → X.fn x = true
  calm : X.calm = true
theorem sto_of {P : Prm} {k : Nat} {N : List Str} {sc s0 : Scope} {X : Cx} (gd : Good P k N sc s0 X) : Sto N sc s0 X := ⟨gd.hN, gd.nd, gd.hsc, gd.own, gd.calm⟩
theorem loc_of {N : List Str} {sc s0 : Scope} {X : Cx} (gd : Sto N sc s0 X) {x : Str} (h : stoC sc s0 x = true) : Loc X.env.scope x ∧ (X.fn x = true ∨ X.env.scope.names.lookup x = some .local) := by
  rw [gd.hsc]
  unfold stoC at h
  rw [Bool.or_eq_true] at h
  rcases h with h | h
  · unfold isLoc at h
    split at h
    · rename_i e
      exact ⟨.inl e, .inr e⟩
    · cases h
  · obtain ⟨h1, h2⟩ := and2 h
    unfold isCell at h1 h2
    split at h1
    · rename_i e1
      split at h2
      · rename_i e2
        exact ⟨.inr e1, .inl (gd.own x e2)⟩
      · cases h2
    · cases h1
theorem assignEach_of {N : List Str} {sc s0 : Scope} {t : Tg} {e : Expr} {es : List Expr} {env : PySem.Env} (h : chkG N sc s0 t e = true) : assignEach (e :: es) env = (false, assign e env) :: assignEach es env := by
  cases t with
  | nm i =>
    cases e <;> first | rfl | (simp [chkG] at h)
  | tp ts =>
    cases e <;> first | rfl | (simp [chkG] at h)
theorem assignEach_all {N : List Str} {sc s0 : Scope} {env : PySem.Env} : ∀ {ts : List Tg} {es : List Expr}, chkGs N sc s0 ts es = true → (assignEach es env).length = ts.length ∧ (assignEach es env).findIdx? (·.1) = none
  | [], [], _ => ⟨rfl, rfl⟩
  | [], _ :: _, h => by simp [chkGs] at h
  | _ :: _, [], h => by simp [chkGs] at h
  | t :: ts, e :: es, h => by
    have h2 : chkG N sc s0 t e = true ∧ chkGs N sc s0 ts es = true := by
      cases e <;> simpa [chkGs] using h
    obtain ⟨i1, i2⟩ := assignEach_all (env := env) h2.2
    rw [assignEach_of h2.1]
    refine ⟨by rw [List.length_cons, List.length_cons, i1], ?_⟩
    rw [List.findIdx?_cons, i2]
    rfl
mutual
theorem pg_of {N : List Str} {sc s0 : Scope} {X : Cx} (gd : Sto N sc s0 X) : ∀ {t : Tg} {e : Expr}, chkG N sc s0 t e = true → PG X e (gT X.K t)
  | .nm i, e, h => by
    cases e with
    | Name x p =>
      have h' : (decide (N[i]? = some x) && stoC sc s0 x) = true := by simpa [chkG] using h
      obtain ⟨h1, h2⟩ := and2 h'
      obtain ⟨l1, l2⟩ := loc_of gd h2
      unfold gT
      exact pg_name (by rw [gd.hN]; exact gd.nd) (by rw [gd.hN]; exact of_decide_eq_true h1) l1 l2
    | _ => simp [chkG] at h
  | .tp ts, e, h => by
    cases e with
    | Tuple es kk p =>
      have h' : chkGs N sc s0 ts es = true := by simpa [chkG] using h
      obtain ⟨a1, a2⟩ := assignEach_all (env := X.env) h'
      unfold gT
      exact pg_tup gd.calm (pgs_of gd h') a1 a2
    | _ => simp [chkG] at h
theorem pgs_of {N : List Str} {sc s0 : Scope} {X : Cx} (gd : Sto N sc s0 X) : ∀ {ts : List Tg} {es : List Expr}, chkGs N sc s0 ts es = true → PGs X es (gTs X.K ts)
  | [], [], _ => by
    unfold gTs
    exact pgs_nil
  | [], _ :: _, h => by simp [chkGs] at h
  | _ :: _, [], h => by simp [chkGs] at h
  | t :: ts, e :: es, h => by
    have h2 : chkG N sc s0 t e = true ∧ chkGs N sc s0 ts es = true := by
      cases e <;> simpa [chkGs] using h
    unfold gTs
    exact pgs_cons (pg_of gd h2.1) (pgs_of gd h2.2) (by rw [assignEach_of h2.1]; rfl)
end
section
variable {K : PySem.W.Frag} {F G H : Hp} {μ : Nat → Addr} {S : Store}
theorem wipe_get {σ : L2.St} : ∀ {vs : List Nat} {i : Nat}, i ∈ vs → i < σ.length → (L2.wipe σ vs)[i]? = some none
  | v :: vs, i, h, hl => by
    unfold L2.wipe
    by_cases e : v = i
    · subst e
      exact List.getElem?_set_self (by rw [wipe_length]; exact hl)
    · rw [List.getElem?_set_ne e]
      cases h with
      | head => exact absurd rfl e
      | tail _ h => exact wipe_get h hl
theorem wipe_ne {σ : L2.St} : ∀ {vs : List Nat} {i : Nat}, i ∉ vs → (L2.wipe σ vs)[i]? = σ[i]?
  | [], i, _ => rfl
  | v :: vs, i, h => by
    unfold L2.wipe
    rw [List.getElem?_set_ne (fun e => h (by rw [e]; exact List.mem_cons_self))]
    exact wipe_ne fun z => h (List.mem_cons_of_mem _ z)
theorem wipe_set {σ : L2.St} {vs : List Nat} {i : Nat} {x : Option V} (h : i ∈ vs) : L2.wipe (σ.set i x) vs = L2.wipe σ vs := by
  refine List.ext_getElem? fun j => ?_
  by_cases hj : j ∈ vs
  · by_cases hl : j < σ.length
    · rw [wipe_get hj hl, wipe_get hj (by rw [List.length_set]; exact hl)]
    · rw [List.getElem?_eq_none (by rw [wipe_length, List.length_set]; omega), List.getElem?_eq_none (by rw [wipe_length]; omega)]
  · rw [wipe_ne hj, wipe_ne hj, List.getElem?_set_ne fun e => hj (by rw [← e]; exact h)]
theorem wipe_wipe {σ : L2.St} {vs : List Nat} : L2.wipe (L2.wipe σ vs) vs = L2.wipe σ vs := by
  refine List.ext_getElem? fun j => ?_
  by_cases hj : j ∈ vs
  · by_cases hl : j < σ.length
    · rw [wipe_get hj hl, wipe_get hj (by rw [wipe_length]; exact hl)]
    · rw [List.getElem?_eq_none (by rw [wipe_length, wipe_length]; omega), List.getElem?_eq_none (by rw [wipe_length]; omega)]
  · rw [wipe_ne hj]
theorem binds_len : ∀ {ts : List Tg} {xs : List D} {ρ ρ1 : Env}, bindTs ts xs ρ = some ρ1 → xs.length = ts.length
  | [], [], _, _, _ => rfl
  | [], _ :: _, _, _, h => by simp [bindTs] at h
  | _ :: _, [], _, _, h => by simp [bindTs] at h
  | t :: ts, x :: xs, ρ, ρ1, h => by
    have h' : ((bindT t x ρ).bind fun ρ1 => bindTs ts xs ρ1) = some ρ1 := by simpa [bindTs] using h
    obtain ⟨ρ2, b1, b2⟩ := bind_some_out h'
    rw [List.length_cons, List.length_cons, binds_len b2]
mutual
theorem bind_ok (R : Rel K F G μ S H) : ∀ {t : Tg} {x : D} {v : V} {ρ ρ1 : Env} {σ : L2.St} {Q : L2.St → Hp → Prop}, bindT t x ρ = some ρ1 → RepP K F x v → RelEnv K F μ S ρ σ →
    (∀ σ1, RelEnv K F μ S ρ1 σ1 → (∀ (n : Nat) (own : List Nat), tgIn n t own = true → L2.wipe σ1 own = L2.wipe σ own) → Q σ1 H) → gT K t v σ H Q
  | .nm i, x, v, ρ, ρ1, σ, Q, h, r, RE, q => by
    have h' : (if i < ρ.length then some (ρ.set i (some (.d x))) else none) = some ρ1 := by
      unfold bindT at h
      exact h
    split at h'
    · cases h'
      unfold gT
      refine q _ (RE.set (x := .d x) r i) fun n own ho => wipe_set ?_
      have ho' : own.contains i = true := by
        cases n <;> (unfold tgIn at ho; exact ho)
      exact List.contains_iff_mem.mp ho'
    · cases h'
  | .tp ts, x, v, ρ, ρ1, σ, Q, h, r, RE, q => by
    cases r with
    | @tup a xs vs h1 h2 =>
      have h' : bindTs ts xs ρ = some ρ1 := by
        unfold bindT at h
        exact h
      unfold gT
      refine ⟨a, vs, rfl, R.fr.sqT h1, by rw [← h2.length, binds_len h'], binds_ok R h' h2 RE fun σ1 r1 w => q σ1 r1 fun n own ho => ?_⟩
      cases n with
      | zero =>
        unfold tgIn at ho
        cases ho
      | succ n =>
        refine w n own fun t ht => ?_
        unfold tgIn at ho
        rw [List.all_eq_true] at ho
        exact ho t ht
    | _ =>
      unfold bindT at h
      cases h
theorem binds_ok (R : Rel K F G μ S H) : ∀ {ts : List Tg} {xs : List D} {vs : List V} {ρ ρ1 : Env} {σ : L2.St} {Q : L2.St → Hp → Prop}, bindTs ts xs ρ = some ρ1 → RepL K F xs vs → RelEnv K F μ S ρ σ →
    (∀ σ1, RelEnv K F μ S ρ1 σ1 → (∀ (n : Nat) (own : List Nat), (∀ t ∈ ts, tgIn n t own = true) → L2.wipe σ1 own = L2.wipe σ own) → Q σ1 H) → gTs K ts vs σ H Q
  | [], xs, vs, ρ, ρ1, σ, Q, h, r, RE, q => by
    cases r with
    | nil =>
      have e : some ρ = some ρ1 := by
        unfold bindTs at h
        exact h
      cases e
      unfold gTs
      exact ⟨rfl, q σ RE fun n own _ => rfl⟩
    | cons _ _ =>
      unfold bindTs at h
      cases h
  | t :: ts, xs, vs, ρ, ρ1, σ, Q, h, r, RE, q => by
    cases r with
    | nil =>
      unfold bindTs at h
      cases h
    | @cons x xs v vs h1 h2 =>
      have h' : ((bindT t x ρ).bind fun ρ1 => bindTs ts xs ρ1) = some ρ1 := by
        unfold bindTs at h
        exact h
      obtain ⟨ρ2, b1, b2⟩ := bind_some_out h'
      unfold gTs
      exact ⟨v, vs, rfl, bind_ok R b1 h1 RE fun σ1 r1 w1 => binds_ok R b2 h2 r1 fun σ2 r2 w2 => q σ2 r2 fun n own ho => (w2 n own fun t ht => ho t (List.mem_cons_of_mem _ ht)).trans (w1 n own (ho t List.mem_cons_self))⟩
end
end
/-! ### walks -/
/-- the walk over J hands out ds, whatever comes to stand beside -/
def Wk (K : PySem.W.Frag) (J : It) (ds : List D) (F : Hp) : Prop := ∀ (F' G : Hp) (μ : Nat → Addr) (S : Store) (H : Hp) (i : Nat), Sub F F' → Rel K F' G μ S H →
  (∀ d, ds[i]? = some d → J.go i H ∧ ∀ v H', J.yld i H v H' → ∃ F2, Ext F' μ S F2 μ S ∧ Rel K F2 G μ S H' ∧ RepP K F2 d v) ∧ (ds.length = i → J.stop i H)
section
variable {K : PySem.W.Frag} {F : Hp}
theorem wk_list {a : Addr} {xs : List D} {vs : List V} (h : F a = some (.lst vs)) (r : RepL K F xs vs) : Wk K (Itl K a) xs F := by
  intro F' G μ S H i sb R
  have hq : SqL K H a vs := .of (R.fr _ _ (sb _ _ h))
  refine ⟨fun d hd => ?_, fun hl => ⟨vs, hq, by rw [← r.length]; exact Nat.le_of_eq hl⟩⟩
  obtain ⟨u, h1, h2⟩ := r.get hd
  refine ⟨⟨vs, u, hq, h1⟩, fun v H' ⟨e, y⟩ => ?_⟩
  subst e
  have e2 := y vs hq
  rw [h1] at e2
  cases e2
  exact ⟨F', Ext.refl _ _ _, R, h2.mono sb⟩
theorem wk_tup {a : Addr} {xs : List D} {vs : List V} (h : SqT K F a vs) (r : RepL K F xs vs) : Wk K (Itt K a) xs F := by
  intro F' G μ S H i sb R
  have hq : SqT K H a vs := R.fr.sqT (sb.sqT h)
  refine ⟨fun d hd => ?_, fun hl => ⟨vs, hq, by rw [← r.length]; exact Nat.le_of_eq hl⟩⟩
  obtain ⟨u, h1, h2⟩ := r.get hd
  refine ⟨⟨vs, u, hq, h1⟩, fun v H' ⟨e, y⟩ => ?_⟩
  subst e
  have e2 := y vs hq
  rw [h1] at e2
  cases e2
  exact ⟨F', Ext.refl _ _ _, R, h2.mono sb⟩
theorem wk_range {lo : Int} {n : Nat} : Wk K (Itr lo n) ((List.range n).map fun (i : Nat) => D.int (lo + (i : Int))) F := by
  intro F' G μ S H i sb R
  refine ⟨fun d hd => ?_, fun hl => (show n ≤ i from Nat.le_of_eq (by simpa using hl))⟩
  rw [List.getElem?_map, Option.map_eq_some_iff] at hd
  obtain ⟨j, h1, h2⟩ := hd
  have hi : i < n ∧ j = i := by
    have hl := (List.getElem?_eq_some_iff.mp h1).1
    rw [List.length_range] at hl
    rw [List.getElem?_range hl] at h1
    exact ⟨hl, (Option.some.inj h1).symm⟩
  refine ⟨hi.1, fun v H' ⟨e, y⟩ => ?_⟩
  subst e
  rw [y, ← h2, hi.2]
  exact ⟨F', Ext.refl _ _ _, R, .int _⟩
theorem enumD_get : ∀ {xs : List D} {k i : Nat} {d : D}, (enumD k xs)[i]? = some d → ∃ x, xs[i]? = some x ∧ d = .tup [.int ((k + i : Nat) : Int), x]
  | [], _, _, _, h => by simp [enumD] at h
  | x :: xs, k, 0, d, h => by
    have e : d = .tup [.int (k : Int), x] := by
      unfold enumD at h
      exact (Option.some.inj h).symm
    exact ⟨x, rfl, e⟩
  | x :: xs, k, i + 1, d, h => by
    have h' : (enumD (k + 1) xs)[i]? = some d := by
      unfold enumD at h
      exact h
    obtain ⟨y, h1, h2⟩ := enumD_get h'
    refine ⟨y, h1, ?_⟩
    rw [h2, show k + 1 + i = k + (i + 1) by omega]
theorem enumD_length : ∀ {xs : List D} {k : Nat}, (enumD k xs).length = xs.length
  | [], _ => rfl
  | x :: xs, k => congrArg (· + 1) enumD_length
theorem pair_rep {F' G : Hp} {μ : Nat → Addr} {S : Store} {H : Hp} {T : Addr} {x y : D} {v w : V} (R : Rel K F' G μ S H) (hT : H T = none) (h1 : RepP K F' x v) (h2 : RepP K F' y w) : ∃ F2, Ext F' μ S F2 μ S ∧ Rel K F2 G μ S (upd H T (.tup [v, w])) ∧ RepP K F2 (.tup [x, y]) (.ref T) := by
  have e := Ext.shut (o := .tup [v, w]) (R.free hT) S μ
  exact ⟨_, e, R.shut hT, .tup (.inl (.inl upd_same)) (.cons (h1.mono e.f) (.cons (h2.mono e.f) .nil))⟩
theorem wk_enum {a : Addr} {xs : List D} {vs : List V} (h : F a = some (.lst vs)) (r : RepL K F xs vs) : Wk K (Ite K a) (enumD 0 xs) F := by
  intro F' G μ S H i sb R
  have hq : SqL K H a vs := .of (R.fr _ _ (sb _ _ h))
  refine ⟨fun d hd => ?_, fun hl => ⟨vs, hq, by rw [← r.length]; rw [enumD_length] at hl; exact Nat.le_of_eq hl⟩⟩
  obtain ⟨x, h0, rfl⟩ := enumD_get hd
  obtain ⟨u, h1, h2⟩ := r.get h0
  refine ⟨⟨vs, u, hq, h1⟩, fun v H' ⟨T, z, e1, hT, e2, y⟩ => ?_⟩
  subst e1 e2
  have e3 := y vs hq
  rw [h1] at e3
  cases e3
  rw [Nat.zero_add]
  exact pair_rep R hT (.int _) (h2.mono sb)
theorem zipD_get : ∀ {xs ys : List D} {i : Nat} {d : D}, (zipD xs ys)[i]? = some d → ∃ x y, xs[i]? = some x ∧ ys[i]? = some y ∧ d = .tup [x, y]
  | [], _, _, _, h => by simp [zipD] at h
  | _ :: _, [], _, _, h => by simp [zipD] at h
  | x :: xs, y :: ys, 0, d, h => by
    have e : d = .tup [x, y] := by
      unfold zipD at h
      exact (Option.some.inj h).symm
    exact ⟨x, y, rfl, rfl, e⟩
  | x :: xs, y :: ys, i + 1, d, h => by
    have h' : (zipD xs ys)[i]? = some d := by
      unfold zipD at h
      exact h
    exact zipD_get (xs := xs) (ys := ys) (i := i) h'
theorem zipD_end : ∀ {xs ys : List D} {i : Nat}, (zipD xs ys).length ≤ i → xs.length ≤ i ∨ ys.length ≤ i
  | [], _, i, _ => .inl (Nat.zero_le _)
  | _ :: _, [], i, _ => .inr (Nat.zero_le _)
  | x :: xs, y :: ys, 0, h => by
    unfold zipD at h
    exact absurd h (Nat.not_succ_le_zero _)
  | x :: xs, y :: ys, i + 1, h => by
    have h' : (zipD xs ys).length ≤ i := by
      unfold zipD at h
      exact Nat.le_of_succ_le_succ h
    rcases zipD_end h' with z | z
    · exact .inl (Nat.succ_le_succ z)
    · exact .inr (Nat.succ_le_succ z)
theorem wk_zip {a b : Addr} {xs ys : List D} {vs ws : List V} (h : F a = some (.lst vs)) (r : RepL K F xs vs) (h' : F b = some (.lst ws)) (r' : RepL K F ys ws) : Wk K (Itz K a b) (zipD xs ys) F := by
  intro F' G μ S H i sb R
  have hq : SqL K H a vs := .of (R.fr _ _ (sb _ _ h))
  have hq' : SqL K H b ws := .of (R.fr _ _ (sb _ _ h'))
  refine ⟨fun d hd => ?_, fun hl => ⟨vs, ws, hq, hq', by rw [← r.length, ← r'.length]; exact zipD_end (Nat.le_of_eq hl)⟩⟩
  obtain ⟨x, y, h0, h0', rfl⟩ := zipD_get hd
  obtain ⟨u, h1, h2⟩ := r.get h0
  obtain ⟨u', h1', h2'⟩ := r'.get h0'
  refine ⟨⟨vs, ws, u, u', hq, hq', h1, h1'⟩, fun v H' ⟨T, z, z', e1, hT, e2, y, y'⟩ => ?_⟩
  subst e1 e2
  have e3 := y vs hq
  rw [h1] at e3
  cases e3
  have e4 := y' ws hq'
  rw [h1'] at e4
  cases e4
  exact pair_rep R hT (h2.mono sb) (h2'.mono sb)
end
section
variable {K : PySem.W.Frag} {F : Hp}
theorem wk_enumT {a : Addr} {xs : List D} {vs : List V} (h : SqT K F a vs) (r : RepL K F xs vs) : Wk K (IteT K a) (enumD 0 xs) F := by
  intro F' G μ S H i sb R
  have hq : SqT K H a vs := R.fr.sqT (sb.sqT h)
  refine ⟨fun d hd => ?_, fun hl => ⟨vs, hq, by rw [← r.length]; rw [enumD_length] at hl; exact hl⟩⟩
  obtain ⟨x, h0, rfl⟩ := enumD_get hd
  obtain ⟨u, h1, h2⟩ := r.get h0
  refine ⟨⟨vs, u, hq, h1⟩, fun v H' ⟨T, z, e1, hT, e2, y⟩ => ?_⟩
  subst e1 e2
  have e3 := y vs hq
  rw [h1] at e3
  cases e3
  rw [Nat.zero_add]
  exact pair_rep R hT (.int _) (h2.mono sb)
theorem wk_zipT {a b : Addr} {xs ys : List D} {vs ws : List V} (h : SqT K F a vs) (r : RepL K F xs vs) (h' : SqT K F b ws) (r' : RepL K F ys ws) : Wk K (RZ.ItzT K a b) (zipD xs ys) F := by
  intro F' G μ S H i sb R
  have hq : SqT K H a vs := R.fr.sqT (sb.sqT h)
  have hq' : SqT K H b ws := R.fr.sqT (sb.sqT h')
  refine ⟨fun d hd => ?_, fun hl => ⟨vs, ws, hq, hq', by rw [← r.length, ← r'.length]; exact zipD_end (Nat.le_of_eq hl)⟩⟩
  obtain ⟨x, y, h0, h0', rfl⟩ := zipD_get hd
  obtain ⟨u, h1, h2⟩ := r.get h0
  obtain ⟨u', h1', h2'⟩ := r'.get h0'
  refine ⟨⟨vs, ws, u, u', hq, hq', h1, h1'⟩, fun v H' ⟨T, z, z', e1, hT, e2, y, y'⟩ => ?_⟩
  subst e1 e2
  have e3 := y vs hq
  rw [h1] at e3
  cases e3
  have e4 := y' ws hq'
  rw [h1'] at e4
  cases e4
  exact pair_rep R hT (h2.mono sb) (h2'.mono sb)
theorem zipD_le : ∀ {xs ys : List D}, xs.length ≤ ys.length → (zipD xs ys).length = xs.length
  | [], _, _ => rfl
  | x :: xs, [], h => absurd h (Nat.not_succ_le_zero _)
  | x :: xs, y :: ys, h => by
    unfold zipD
    rw [List.length_cons, List.length_cons, zipD_le (Nat.le_of_succ_le_succ h)]
theorem wk_zipM {a b : Addr} {xs ys : List D} {vs ws : List V} (h : SqT K F a vs) (r : RepL K F xs vs) (h' : F b = some (.lst ws)) (r' : RepL K F ys ws) (hl0 : xs.length = ys.length) : Wk K (ItzM K a b) (zipD xs ys) F := by
  intro F' G μ S H i sb R
  have hq : SqT K H a vs := R.fr.sqT (sb.sqT h)
  have hq' : SqL K H b ws := .of (R.fr _ _ (sb _ _ h'))
  refine ⟨fun d hd => ?_, fun hl => ⟨vs, ws, hq, hq', by rw [← r.length, ← hl, zipD_le (Nat.le_of_eq hl0)], by rw [← r'.length, ← hl, zipD_le (Nat.le_of_eq hl0), hl0]⟩⟩
  obtain ⟨x, y, h0, h0', rfl⟩ := zipD_get hd
  obtain ⟨u, h1, h2⟩ := r.get h0
  obtain ⟨u', h1', h2'⟩ := r'.get h0'
  refine ⟨⟨vs, ws, u, u', hq, hq', h1, h1'⟩, fun v H' ⟨T, z, z', e1, hT, e2, y, y'⟩ => ?_⟩
  subst e1 e2
  have e3 := y vs hq
  rw [h1] at e3
  cases e3
  have e4 := y' ws hq'
  rw [h1'] at e4
  cases e4
  exact pair_rep R hT (h2.mono sb) (h2'.mono sb)
theorem wk_enZ {a b : Addr} {xs ys : List D} {vs ws : List V} (h : SqT K F a vs) (r : RepL K F xs vs) (h' : SqT K F b ws) (r' : RepL K F ys ws) (hl0 : xs.length ≤ ys.length) : Wk K (IteZ K a b) (enumD 0 (zipD xs ys)) F := by
  intro F' G μ S H i sb R
  have hq : SqT K H a vs := R.fr.sqT (sb.sqT h)
  have hq' : SqT K H b ws := R.fr.sqT (sb.sqT h')
  refine ⟨fun d hd => ?_, fun hl => ⟨vs, ws, hq, hq', by rw [← r.length, ← hl, enumD_length, zipD_le hl0], by rw [← r'.length, ← hl, enumD_length, zipD_le hl0]; exact hl0⟩⟩
  obtain ⟨z0, hz, rfl⟩ := enumD_get hd
  obtain ⟨x, y, h0, h0', rfl⟩ := zipD_get hz
  obtain ⟨u, h1, h2⟩ := r.get h0
  obtain ⟨u', h1', h2'⟩ := r'.get h0'
  refine ⟨⟨vs, ws, u, u', hq, hq', h1, h1'⟩, fun v H' ⟨T0, T, z, z', e1, hT0, hT, hne, e2, y, y'⟩ => ?_⟩
  subst e1 e2
  have e3 := y vs hq
  rw [h1] at e3
  cases e3
  have e4 := y' ws hq'
  rw [h1'] at e4
  cases e4
  rw [Nat.zero_add]
  obtain ⟨F2, x2, R2, r2⟩ := pair_rep R hT0 (h2.mono sb) (h2'.mono sb)
  obtain ⟨F3, x3, R3, r3⟩ := pair_rep R2 (T := T) (by rw [upd_ne hne]; exact hT) (.int (i : Nat)) r2
  exact ⟨F3, x2.trans x3, R3, r3⟩
end
section
variable {X : Cx} {g : Ev} {ck : Ck1} {ρ : Env} {S S' : Store} {x : E} {F G : Hp} {μ : Nat → Addr} {σ : L2.St} {H : Hp} {P : Prm} {k : Nat} {N : List Str} {sc s0 : Scope} {e : Expr}
abbrev LiftJ (K : PySem.W.Frag) (F G : Hp) (μ : Nat → Addr) (S : Store) (ds : List D) (S' : Store) : It → Hp → Prop := fun J H' => ∃ F' μ', Ext F μ S F' μ' S' ∧ Rel K F' G μ' S' H' ∧ Wk K J ds F'
theorem one_ev {a : Tm} {p : List E × Store} (h : evs g [a] ρ S = some p) : ∃ q, g a ρ S = some q ∧ p = ([q.1], q.2) := by
  obtain ⟨q, h1, h2⟩ := bind_some_out h
  cases h2
  exact ⟨q, h1, rfl⟩
theorem two_ev {a b : Tm} {p : List E × Store} (h : evs g [a, b] ρ S = some p) : ∃ q r, g a ρ S = some q ∧ g b ρ q.2 = some r ∧ p = ([q.1, r.1], r.2) := by
  obtain ⟨q, h1, h2⟩ := bind_some_out h
  obtain ⟨p2, h3, h4⟩ := bind_some_out h2
  obtain ⟨r, h5, h6⟩ := one_ev h3
  subst h6
  cases h4
  exact ⟨q, r, h1, h5, rfl⟩
theorem small62_of {i : Int} (h : small62 i = true) : -(2 ^ 62) ≤ i ∧ i < 2 ^ 62 := by
  obtain ⟨h1, h2⟩ := and2 h
  exact ⟨of_decide_eq_true h1, of_decide_eq_true h2⟩
theorem s_iter (gd : Good P k N sc s0 X) (h : SndX X g ck) (hk : ∀ t e, ck t e = true → okHead e = true) {ik : IK} {its : List Tm} {tgE : Expr} (c : chkI P ck sc tgE ik its e = true) {p : List E × Store} (ga : evs g its ρ S = some p) {ds : List D} (hw : walked p.2 ik p.1 = some ds)
    (R : Rel X.K F G μ S H) (RE : RelEnv X.K F μ S ρ σ) : semI X tgE e σ H (LiftJ X.K F G μ S ds p.2) := by
  unfold chkI at c
  split at c
  · obtain ⟨c1, c2⟩ := and2 c
    obtain ⟨q, g1, rfl⟩ := one_ev ga
    refine to_semI (pi_list pe_sem) ?_
    refine sem_mono (h _ _ c2 ρ S q.1 q.2 g1 F G μ σ H R RE) fun v H1 ⟨F1, μ1, e1, R1, r1⟩ => ?_
    unfold walked at hw
    split at hw
    · rename_i xs _ hq1
      cases hw
      have hq1' : q.1 = .d (.lst ds) := by simpa using hq1
      rw [hq1'] at r1
      cases (show RepP X.K F1 (.lst ds) v from r1) with
      | @lst a _ vs h1 h2 => exact ⟨a, rfl, ⟨vs, .of (R1.fr _ _ h1)⟩, F1, μ1, e1, R1, wk_list h1 h2⟩
    all_goals first | contradiction | cases hw
  · obtain ⟨c1, c2⟩ := and2 c
    obtain ⟨q, g1, rfl⟩ := one_ev ga
    refine to_semI (pi_tup pe_sem) ?_
    refine sem_mono (h _ _ c2 ρ S q.1 q.2 g1 F G μ σ H R RE) fun v H1 ⟨F1, μ1, e1, R1, r1⟩ => ?_
    unfold walked at hw
    split at hw
    all_goals first | contradiction | skip
    · rename_i xs _ hq1
      cases hw
      have hq1' : q.1 = .d (.tup ds) := by simpa using hq1
      rw [hq1'] at r1
      cases (show RepP X.K F1 (.tup ds) v from r1) with
      | @tup a _ vs h1 h2 => exact ⟨a, rfl, ⟨vs, R1.fr.sqT h1⟩, F1, μ1, e1, R1, wk_tup h1 h2⟩
    all_goals cases hw
  · obtain ⟨c1, c2⟩ := and2 c
    obtain ⟨hn, hm0, hg, hd, hnn⟩ := bi_of c1 gd.hsc gd.bi
    subst hn
    obtain ⟨q, g1, rfl⟩ := one_ev ga
    have h0 := hk _ _ c2
    refine to_semI (pi_range1 hg hm0 (pa_cons pe_sem pa_nil (star_of h0)) (star_of h0)) ?_
    refine sem_mono (h _ _ c2 ρ S q.1 q.2 g1 F G μ σ H R RE) fun v H1 ⟨F1, μ1, e1, R1, r1⟩ => ?_
    unfold walked at hw
    split at hw
    all_goals first | contradiction | skip
    · rename_i n _ hq1
      obtain ⟨hs, rfl⟩ := ite_some hw
      have hq1' : q.1 = .d (.int n) := by simpa using hq1
      rw [hq1'] at r1
      cases (show RepP X.K F1 (.int n) v from r1)
      obtain ⟨s1, s2⟩ := small62_of hs
      exact ⟨n, rfl, s1, s2, F1, μ1, e1, R1, wk_range⟩
    all_goals cases hw
  · obtain ⟨c, c3⟩ := and2 c
    obtain ⟨c1, c2⟩ := and2 c
    obtain ⟨hn, hm0, hg, hd, hnn⟩ := bi_of c1 gd.hsc gd.bi
    subst hn
    obtain ⟨q, r, g1, g2, rfl⟩ := two_ev ga
    have h0 := hk _ _ c2
    have h0' := hk _ _ c3
    refine to_semI (pi_range2 hg hm0 (pa_cons pe_sem (pa_cons pe_sem pa_nil (star_of h0')) (star_of h0)) (by rw [star_of h0, star_of h0']; rfl) (star_of h0')) ?_
    refine sem_mono (h _ _ c2 ρ S q.1 q.2 g1 F G μ σ H R RE) fun v H1 ⟨F1, μ1, e1, R1, r1⟩ => ?_
    refine sem_mono (h _ _ c3 ρ q.2 r.1 r.2 g2 F1 G μ1 σ H1 R1 (RE.mono e1)) fun w H2 ⟨F2, μ2, e2, R2, r2⟩ => ?_
    unfold walked at hw
    split at hw
    all_goals first | contradiction | skip
    · rename_i n m _ hq1
      obtain ⟨hs, rfl⟩ := ite_some hw
      have hq1' : q.1 = .d (.int n) ∧ r.1 = .d (.int m) := by simpa using hq1
      rw [hq1'.1] at r1
      rw [hq1'.2] at r2
      cases (show RepP X.K F1 (.int n) v from r1)
      cases (show RepP X.K F2 (.int m) w from r2)
      obtain ⟨s0, s1⟩ := and2 hs
      obtain ⟨s1, s2⟩ := small62_of s1
      obtain ⟨s3, s4⟩ := small62_of s0
      exact ⟨n, m, rfl, ⟨s3, s4, s1, s2⟩, F2, μ2, e1.trans e2, R2, wk_range⟩
    all_goals cases hw
  · obtain ⟨c, c3⟩ := and2 c
    obtain ⟨c1, c2⟩ := and2 c
    obtain ⟨hn, hm0, hg, hd, hnn⟩ := bi_of c1 gd.hsc gd.bi
    subst hn
    obtain ⟨q, g1, rfl⟩ := one_ev ga
    have h0 := hk _ _ c2
    cases tgE with
    | Tuple es kk tp =>
      refine to_semI (pi_enum hg hm0 (pa_cons pe_sem pa_nil (star_of h0)) (star_of h0)) ?_
      refine sem_mono (h _ _ c2 ρ S q.1 q.2 g1 F G μ σ H R RE) fun v H1 ⟨F1, μ1, e1, R1, r1⟩ => ?_
      unfold walked at hw
      split at hw
      all_goals first | contradiction | skip
      · rename_i xs _ hq1
        cases hw
        have hq1' : q.1 = .d (.lst xs) := by simpa using hq1
        rw [hq1'] at r1
        cases (show RepP X.K F1 (.lst xs) v from r1) with
        | @lst a _ vs h1 h2 => exact ⟨a, vs, rfl, .of (R1.fr _ _ h1), F1, μ1, e1, R1, wk_enum h1 h2⟩
      all_goals cases hw
    | _ => cases c3
  · obtain ⟨c, c4⟩ := and2 c
    obtain ⟨c, c3⟩ := and2 c
    obtain ⟨c1, c2⟩ := and2 c
    obtain ⟨hn, hm0, hg, hd, hnn⟩ := bi_of c1 gd.hsc gd.bi
    subst hn
    obtain ⟨q, r, g1, g2, rfl⟩ := two_ev ga
    have h0 := hk _ _ c2
    have h0' := hk _ _ c3
    cases tgE with
    | Tuple es kk tp =>
      refine to_semI (pi_zip hg hm0 (pa_cons pe_sem (pa_cons pe_sem pa_nil (star_of h0')) (star_of h0)) (star_of h0) (by rw [star_of h0']; rfl)) ?_
      refine sem_mono (h _ _ c2 ρ S q.1 q.2 g1 F G μ σ H R RE) fun v H1 ⟨F1, μ1, e1, R1, r1⟩ => ?_
      refine sem_mono (h _ _ c3 ρ q.2 r.1 r.2 g2 F1 G μ1 σ H1 R1 (RE.mono e1)) fun w H2 ⟨F2, μ2, e2, R2, r2⟩ => ?_
      unfold walked at hw
      split at hw
      all_goals first | contradiction | skip
      · rename_i xs ys _ hq1
        cases hw
        have hq1' : q.1 = .d (.lst xs) ∧ r.1 = .d (.lst ys) := by simpa using hq1
        rw [hq1'.1] at r1
        rw [hq1'.2] at r2
        cases (show RepP X.K F1 (.lst xs) v from r1) with
        | @lst a _ vs h1 h2 =>
          cases (show RepP X.K F2 (.lst ys) w from r2) with
          | @lst b _ ws h3 h4 => exact ⟨a, b, vs, ws, rfl, .of (R2.fr _ _ (e2.f _ _ h1)), .of (R2.fr _ _ h3), F2, μ2, e1.trans e2, R2, wk_zip (e2.f _ _ h1) (h2.mono e2.f) h3 h4⟩
      all_goals cases hw
    | _ => cases c4
  · obtain ⟨c, c3⟩ := and2 c
    obtain ⟨c1, c2⟩ := and2 c
    obtain ⟨hn, hm0, hg, hd, hnn⟩ := bi_of c1 gd.hsc gd.bi
    subst hn
    obtain ⟨q, g1, rfl⟩ := one_ev ga
    have h0 := hk _ _ c2
    cases tgE with
    | Tuple es kk tp =>
      refine to_semI (pi_enumT hg hm0 (pa_cons pe_sem pa_nil (star_of h0)) (star_of h0)) ?_
      refine sem_mono (h _ _ c2 ρ S q.1 q.2 g1 F G μ σ H R RE) fun v H1 ⟨F1, μ1, e1, R1, r1⟩ => ?_
      unfold walked at hw
      split at hw
      all_goals first | contradiction | skip
      · rename_i xs _ hq1
        cases hw
        have hq1' : q.1 = .d (.tup xs) := by simpa using hq1
        rw [hq1'] at r1
        cases (show RepP X.K F1 (.tup xs) v from r1) with
        | @tup a _ vs h1 h2 => exact ⟨a, vs, rfl, R1.fr.sqT h1, F1, μ1, e1, R1, wk_enumT h1 h2⟩
      all_goals cases hw
    | _ => cases c3
  · obtain ⟨c, c4⟩ := and2 c
    obtain ⟨c, c3⟩ := and2 c
    obtain ⟨c1, c2⟩ := and2 c
    obtain ⟨hn, hm0, hg, hd, hnn⟩ := bi_of c1 gd.hsc gd.bi
    subst hn
    obtain ⟨q, r, g1, g2, rfl⟩ := two_ev ga
    have h0 := hk _ _ c2
    have h0' := hk _ _ c3
    cases tgE with
    | Tuple es kk tp =>
      refine to_semI (RZ.pi_zipA hg hm0 (pa_cons pe_sem (pa_cons pe_sem pa_nil (star_of h0')) (star_of h0)) (star_of h0) (by rw [star_of h0']; rfl)) ?_
      refine sem_mono (h _ _ c2 ρ S q.1 q.2 g1 F G μ σ H R RE) fun v H1 ⟨F1, μ1, e1, R1, r1⟩ => ?_
      refine sem_mono (h _ _ c3 ρ q.2 r.1 r.2 g2 F1 G μ1 σ H1 R1 (RE.mono e1)) fun w H2 ⟨F2, μ2, e2, R2, r2⟩ => ?_
      unfold walked at hw
      split at hw
      all_goals first | contradiction | skip
      · rename_i xs ys _ hq1
        cases hw
        have hq1' : q.1 = .d (.tup xs) ∧ r.1 = .d (.tup ys) := by simpa using hq1
        rw [hq1'.1] at r1
        rw [hq1'.2] at r2
        cases (show RepP X.K F1 (.tup xs) v from r1) with
        | @tup a _ vs h1 h2 =>
          cases (show RepP X.K F2 (.tup ys) w from r2) with
          | @tup b _ ws h3 h4 => exact ⟨a, b, vs, ws, rfl, .inr ⟨R2.fr.sqT (e2.f.sqT h1), R2.fr.sqT h3, F2, μ2, e1.trans e2, R2, wk_zipT (e2.f.sqT h1) (h2.mono e2.f) h3 h4⟩⟩
      all_goals cases hw
    | _ => cases c4
  · obtain ⟨c, c4⟩ := and2 c
    obtain ⟨c, c3⟩ := and2 c
    obtain ⟨c1, c2⟩ := and2 c
    obtain ⟨hn, hm0, hg, hd, hnn⟩ := bi_of c1 gd.hsc gd.bi
    subst hn
    obtain ⟨q, r, g1, g2, rfl⟩ := two_ev ga
    have h0 := hk _ _ c2
    have h0' := hk _ _ c3
    cases tgE with
    | Tuple es kk tp =>
      refine to_semI (pi_zipM hg hm0 (pa_cons pe_sem (pa_cons pe_sem pa_nil (star_of h0')) (star_of h0)) (star_of h0) (by rw [star_of h0']; rfl)) ?_
      refine sem_mono (h _ _ c2 ρ S q.1 q.2 g1 F G μ σ H R RE) fun v H1 ⟨F1, μ1, e1, R1, r1⟩ => ?_
      refine sem_mono (h _ _ c3 ρ q.2 r.1 r.2 g2 F1 G μ1 σ H1 R1 (RE.mono e1)) fun w H2 ⟨F2, μ2, e2, R2, r2⟩ => ?_
      unfold walked at hw
      split at hw
      all_goals first | contradiction | skip
      · rename_i xs ys _ hq1
        obtain ⟨hl0, hw⟩ := ite_some hw
        cases hw
        have hq1' : q.1 = .d (.tup xs) ∧ r.1 = .d (.lst ys) := by simpa using hq1
        rw [hq1'.1] at r1
        rw [hq1'.2] at r2
        cases (show RepP X.K F1 (.tup xs) v from r1) with
        | @tup a _ vs h1 h2 =>
          cases (show RepP X.K F2 (.lst ys) w from r2) with
          | @lst b _ ws h3 h4 => exact ⟨a, b, vs, ws, rfl, R2.fr.sqT (e2.f.sqT h1), .of (R2.fr _ _ h3), F2, μ2, e1.trans e2, R2, wk_zipM (e2.f.sqT h1) (h2.mono e2.f) h3 h4 (of_decide_eq_true hl0)⟩
      all_goals cases hw
    | _ => cases c4
  · obtain ⟨c, c5⟩ := and2 c
    obtain ⟨c, c4⟩ := and2 c
    obtain ⟨c, c3⟩ := and2 c
    obtain ⟨c1, c2⟩ := and2 c
    obtain ⟨hn, hm0, hg, hd, hnn⟩ := bi_of c1 gd.hsc gd.bi
    obtain ⟨hn2, hm2, hg2, hd2, hnn2⟩ := bi_of c5 gd.hsc gd.bi
    subst hn hn2
    obtain ⟨q, r, g1, g2, rfl⟩ := two_ev ga
    have h0 := hk _ _ c2
    have h0' := hk _ _ c3
    cases tgE with
    | Tuple es kk tp =>
      refine to_semI (pi_enumZ hg hm0 hg2 hm2 (pa_cons pe_sem (pa_cons pe_sem pa_nil (star_of h0')) (star_of h0)) (star_of h0) (by rw [star_of h0']; rfl)) ?_
      refine sem_mono (h _ _ c2 ρ S q.1 q.2 g1 F G μ σ H R RE) fun v H1 ⟨F1, μ1, e1, R1, r1⟩ => ?_
      refine sem_mono (h _ _ c3 ρ q.2 r.1 r.2 g2 F1 G μ1 σ H1 R1 (RE.mono e1)) fun w H2 ⟨F2, μ2, e2, R2, r2⟩ => ?_
      unfold walked at hw
      split at hw
      all_goals first | contradiction | skip
      · rename_i xs ys _ hq1
        obtain ⟨hl0, hw⟩ := ite_some hw
        cases hw
        have hq1' : q.1 = .d (.tup xs) ∧ r.1 = .d (.tup ys) := by simpa using hq1
        rw [hq1'.1] at r1
        rw [hq1'.2] at r2
        cases (show RepP X.K F1 (.tup xs) v from r1) with
        | @tup a _ vs h1 h2 =>
          cases (show RepP X.K F2 (.tup ys) w from r2) with
          | @tup b _ ws h3 h4 => exact ⟨a, b, vs, ws, rfl, R2.fr.sqT (e2.f.sqT h1), R2.fr.sqT h3, F2, μ2, e1.trans e2, R2, wk_enZ (e2.f.sqT h1) (h2.mono e2.f) h3 h4 (of_decide_eq_true hl0)⟩
      all_goals cases hw
    | _ => cases c4
  · cases c
end
end DL
end

section
set_option autoImplicit false
set_option linter.all false
/-! Comprehensions. -/
namespace DL
open PySem PySem.Spec PyProof.Rows L2
variable [TabI]

section
variable {K : PySem.W.Frag} {F G H : Hp} {μ : Nat → Addr} {S : Store} {D : Addr}
/-- a new object of ours that the others leave -/
theorem Rel.lay {o : HO} (r : Rel K F G μ S H) (hp : H D = none) (ho : ∀ ps, o ≠ .tbl ps := by intro ps z; cases z) : Rel K F (upd G D o) μ S (upd H D o) := by
  have hm : ∀ n xs, S[n]? = some (some xs) → μ n ≠ D := fun n xs e => by
    obtain ⟨vs, h1, _⟩ := r.st n xs e
    exact ne_of_none h1 hp
  refine ⟨fun a u e => ?_, fun a u e => ?_, fun a u e => ?_, fun n xs e => ?_, r.nf, fun n xs e => ?_, r.inj, tabs_new hp r.tb, r.ft, notbl_upd ho r.gt⟩
  · rw [upd_ne (ne_of_none (r.fr _ _ e) hp)]
    exact r.fr _ _ e
  · by_cases h : a = D
    · subst h
      rw [upd_same] at e ⊢
      exact e
    · rw [upd_ne h] at e ⊢
      exact r.gr _ _ e
  · by_cases h : a = D
    · subst h
      exact r.free hp
    · rw [upd_ne h] at e
      exact r.gf _ _ e
  · obtain ⟨vs, h1, h2⟩ := r.st n xs e
    exact ⟨vs, by rw [upd_ne (hm n xs e)]; exact h1, h2⟩
  · rw [upd_ne (hm n xs e)]
    exact r.ng n xs e
/-- it is written -/
theorem Rel.grow {o o' : HO} (r : Rel K F (upd G D o) μ S H) (hl : ∃ vs, o = .lst vs := by exact ⟨_, rfl⟩) (ho : ∀ ps, o' ≠ .tbl ps := by intro ps z; cases z) : Rel K F (upd G D o') μ S (upd H D o') := by
  have fD : F D = none := r.gf D o upd_same
  have hm : ∀ n xs, S[n]? = some (some xs) → μ n ≠ D := fun n xs e z => by
    have := r.ng n xs e
    rw [z, upd_same] at this
    cases this
  refine ⟨fun a u e => ?_, fun a u e => ?_, fun a u e => ?_, fun n xs e => ?_, r.nf, fun n xs e => ?_, r.inj, tabs_write (vs := hl.choose) ((r.gr D o upd_same).trans (congrArg some hl.choose_spec)) r.tb, r.ft, fun a ps e => ?_⟩
  · rw [upd_ne (ne_of_none e fD)]
    exact r.fr _ _ e
  · by_cases h : a = D
    · subst h
      rw [upd_same] at e ⊢
      exact e
    · rw [upd_ne h] at e ⊢
      exact r.gr _ _ (by rw [upd_ne h]; exact e)
  · by_cases h : a = D
    · subst h
      exact fD
    · rw [upd_ne h] at e
      exact r.gf a u (by rw [upd_ne h]; exact e)
  · obtain ⟨vs, h1, h2⟩ := r.st n xs e
    exact ⟨vs, by rw [upd_ne (hm n xs e)]; exact h1, h2⟩
  · have := r.ng n xs e
    rw [upd_ne (hm n xs e)] at this ⊢
    exact this
  · by_cases h : a = D
    · rw [h, upd_same] at e
      exact ho ps (Option.some.inj e)
    · rw [upd_ne h] at e
      exact r.gt a ps (by rw [upd_ne h]; exact e)
/-- it is handed out: what stands without it -/
theorem tabs_drop {T : List (Addr × Str)} {vs : List V} (hp : H D = some (.lst vs)) (t : LamX.Tabs T H) : LamX.Tabs T (fun a => if a = D then none else H a) := fun q hq => by
  obtain ⟨ps, h1, h2, h3⟩ := t q hq
  have n1 : q.1 ≠ D := fun z => by
    rw [z, hp] at h1
    cases h1
  refine ⟨ps, (if_neg n1).trans h1, h2, fun pos cv hc => ?_⟩
  obtain ⟨c, e1, e2⟩ := h3 pos cv hc
  have n2 : c ≠ D := fun z => by
    rw [z, hp] at e2
    unfold LamX.CodeO at e2
    cases e2
  exact ⟨c, e1, (if_neg n2).trans e2⟩
theorem Rel.bare {o : HO} (r : Rel K F (upd G D o) μ S H) (hG : G D = none) (hl : ∃ vs, o = .lst vs := by exact ⟨_, rfl⟩) : Rel K F G μ S (fun a => if a = D then none else H a) ∧ H = upd (fun a => if a = D then none else H a) D o := by
  have fD : F D = none := r.gf D o upd_same
  have hm : ∀ n xs, S[n]? = some (some xs) → μ n ≠ D := fun n xs e z => by
    have := r.ng n xs e
    rw [z, upd_same] at this
    cases this
  refine ⟨⟨fun a u e => ?_, fun a u e => ?_, fun a u e => ?_, fun n xs e => ?_, r.nf, fun n xs e => ?_, r.inj, tabs_drop (vs := hl.choose) ((r.gr D o upd_same).trans (congrArg some hl.choose_spec)) r.tb, r.ft, fun a ps e => r.gt a ps (by rw [upd_ne (ne_of_none e hG)]; exact e)⟩, ?_⟩
  · show (if a = D then none else H a) = some u
    rw [if_neg (ne_of_none e fD)]
    exact r.fr _ _ e
  · show (if a = D then none else H a) = some u
    have h := ne_of_none e hG
    rw [if_neg h]
    exact r.gr _ _ (by rw [upd_ne h]; exact e)
  · exact r.gf a u (by rw [upd_ne (ne_of_none e hG)]; exact e)
  · obtain ⟨vs, h1, h2⟩ := r.st n xs e
    refine ⟨vs, ?_, h2⟩
    show (if μ n = D then none else H (μ n)) = _
    rw [if_neg (hm n xs e)]
    exact h1
  · have := r.ng n xs e
    rw [upd_ne (hm n xs e)] at this
    exact this
  · funext a
    by_cases h : a = D
    · subst h
      rw [upd_same]
      exact r.gr _ _ upd_same
    · rw [upd_ne h, if_neg h]
end
theorem good_blk {P : Prm} {k : Nat} {N : List Str} {sc s0 : Scope} {X : Cx} (gd : Good P k N sc s0 X) (scope : Scope) (s : Shared) (H : Hp) (C : Addr) (cl : List (Str × Addr)) (fp : List Addr) : Good P k N (relS scope sc) scope (X.blk s H scope (compEnvC scope cl C X.env) fp) where
  hN := gd.hN
  nd := gd.nd
  hsc := by
    rw [← gd.hsc]
    rfl
  own := fun x e => by
    show (scope.names.lookup x == some .cell) = true
    rw [e]
    rfl
  calm := gd.calm
  room := gd.room
  gd := gd.gd
  pass := .never
  bi := gd.bi
  fns := gd.fns
  cst := gd.cst
  lam := gd.lam
theorem chkI_head {P : Prm} {ck : Ck1} {sc : Scope} {tgE e : Expr} {ik : IK} {its : List Tm} (c : chkI P ck sc tgE ik its e = true) : okHead e = true := by
  unfold chkI at c
  split at c
  · exact (and2 c).1
  · exact (and2 c).1
  · rfl
  · rfl
  · rfl
  · rfl
  · rfl
  · rfl
  · rfl
  · rfl
  · cases c
def LcI (K : PySem.W.Frag) (F G : Hp) (μ : Nat → Addr) (S : Store) (g : Ev) (elt : Tm) (tg : Tg) (ifs : List Tm) (own : List Nat) (ρ : Env) (F1 : Hp) (ds : List D) (q : List D × Store) (L : Addr) (i : Nat) (H' : Hp) : Prop :=
  ∃ F2 μ2 S2 acc av, Ext F μ S F2 μ2 S2 ∧ Rel K F2 (upd G L (.lst av)) μ2 S2 H' ∧ RepL K F2 acc av ∧ Sub F1 F2 ∧ turns g elt tg ifs own ρ (ds.drop i) acc S2 = some q
section
variable {X : Cx} {g : Ev} {ρ : Env} {S S' : Store} {x : E} {F G : Hp} {μ : Nat → Addr} {σ : L2.St} {H : Hp} {P : Prm} {k : Nat} {N : List Str} {sc s0 : Scope} {e : Expr}
abbrev Blks (X : Cx) (scope : Scope) (Pr : Cx → Prop) : Prop := ∀ (s : Shared) (H : Hp) (C : Addr) (cl : List (Str × Addr)) (fp : List Addr), Pr (X.blk s H scope (compEnvC scope cl C X.env) fp)
def semB (X : Cx) (scope : Scope) (e : Expr) : TE := fun σ H Q => Blks X scope fun Y => sem Y e σ H Q
def semTB (X : Cx) (scope : Scope) (e : Expr) : TT := fun σ H Q => Blks X scope fun Y => semT Y e σ H Q
theorem pe_semB {scope : Scope} : Blks X scope fun Y => PE Y e (semB X scope e) := fun s H C cl fp => ⟨fun pins s1 σ H1 Q I h => h s H C cl fp pins s1 I⟩
theorem pt_semB {scope : Scope} : Blks X scope fun Y => PT Y e (semTB X scope e) := fun s H C cl fp => ⟨fun pins s1 σ H1 Q I h => h s H C cl fp pins s1 I⟩
/-- a comprehension's parts -/
structure LcR (X : Cx) (e : Expr) (σ : L2.St) (H : Hp) (L : VK) : Prop where
  out : ∃ elt tg iter ifs scope own pos wi gg tt te, e = .ListComp elt [⟨tg, iter, ifs, 0⟩] scope pos ∧ PI X tg iter wi ∧ BlkOk X.N X.env.scope scope own ∧ (Blks X scope fun Y => PG Y tg gg) ∧ (Blks X scope fun Y => PTs Y ifs tt) ∧ (Blks X scope fun Y => PE Y elt te) ∧
    (∀ x, foldedSetIterable iter X.env x = pure x) ∧ ∀ Q : VK, (∀ v H', L v H' → Q v H') → tLc wi gg tt te (own.map (·.2)) σ H Q
theorem LcR.sem {L : VK} (h : LcR X e σ H L) (hc : X.calm = true) (hN : X.N.Nodup) : sem X e σ H L := by
  obtain ⟨elt, tg, iter, ifs, scope, own, pos, wi, gg, tt, te, rfl, h1, h2, h3, h4, h5, h6, h7⟩ := h.out
  exact to_sem (pe_lc hc hN h1 h2 h3 h4 h5 h6) (h7 L fun _ _ z => z)
theorem LcR.mono {L L' : VK} (h : LcR X e σ H L) (m : ∀ v H', L v H' → L' v H') : LcR X e σ H L' := by
  obtain ⟨elt, tg, iter, ifs, scope, own, pos, wi, gg, tt, te, h0, h1, h2, h3, h4, h5, h6, h7⟩ := h.out
  exact ⟨elt, tg, iter, ifs, scope, own, pos, wi, gg, tt, te, h0, h1, h2, h3, h4, h5, h6, fun Q hQ => h7 Q fun v H' l => hQ v H' (m v H' l)⟩
theorem t_lc (gd : Good P k N sc s0 X) {gk : Scope → Scope → Ck1} (h : SndX X g (gk sc s0)) (hk : ∀ sc s0 t e, gk sc s0 t e = true → okHead e = true)
    (hB : ∀ scope, Blks X scope fun Y => SndX Y g (gk (relS scope sc) scope) ∧ SndT Y g (chkT (gk (relS scope sc) scope) 20)) {elt : Tm} {tg : Tg} {ik : IK} {its ifs : List Tm} {own : List Nat} (c : ckLc P N gk sc s0 elt tg ik its ifs own e = true)
    {p : List E × Store} (ga : evs g its ρ S = some p) {ds : List D} (hw : walked p.2 ik p.1 = some ds) {q : List D × Store} (ht : turns g elt tg ifs own ρ ds [] p.2 = some q) (R : Rel X.K F G μ S H) (RE : RelEnv X.K F μ S ρ σ) :
    LcR X e σ H (LiftN X.K F G μ S q.1 q.2) := by
  unfold ckLc at c
  split at c
  · rename_i eE tgE itE ifE scope pos
    obtain ⟨c, c6⟩ := and2 c
    obtain ⟨c, c5⟩ := and2 c
    obtain ⟨c, c4⟩ := and2 c
    obtain ⟨c, c3⟩ := and2 c
    obtain ⟨c1, c2⟩ := and2 c
    have hN : X.N.Nodup := by
      rw [gd.hN]
      exact gd.nd
    have blk : BlkOk X.N X.env.scope scope (own.map fun i => (N.getD i default, i)) := by
      rw [gd.hN, gd.hsc]
      exact blkOk_by c2
    have eown : (own.map fun i => (N.getD i default, i)).map (·.2) = own := by
      rw [List.map_map]
      exact List.map_id own
    obtain ⟨tt, htt, stt⟩ : ∃ tt : TT, (Blks X scope fun Y => PTs Y ifE tt) ∧ ∀ (ρ1 : Env) (S1 : Store) (b : Bool × Store), evT g ifs ρ1 S1 = some b → ∀ (F1 G1 : Hp) (μ1 : Nat → Addr) (σ1 : L2.St) (H1 : Hp), Rel X.K F1 G1 μ1 S1 H1 → RelEnv X.K F1 μ1 S1 ρ1 σ1 → ∀ Q : Bool → Hp → Prop, (∀ b' H', LT X.K F1 G1 μ1 S1 b.1 b.2 b' H' → Q b' H') → tt σ1 H1 Q := by
      unfold chkIfs at c5
      split at c5
      · exact ⟨tYes, fun _ _ _ _ _ => pts_nil, fun ρ1 S1 b hb F1 G1 μ1 σ1 H1 R1 RE1 Q hQ => by
          cases hb
          exact hQ _ _ ⟨rfl, F1, μ1, Ext.refl _ _ _, R1⟩⟩
      · rename_i cc ce _
        refine ⟨semTB X scope ce, fun s H C cl fp => pts_one (pt_semB s H C cl fp), fun ρ1 S1 b hb F1 G1 μ1 σ1 H1 R1 RE1 Q hQ s H C cl fp => ?_⟩
        obtain ⟨p1, g1, hb⟩ := bind_some_out hb
        have hm : isTrueD p1.1 = some b.1 ∧ p1.2 = b.2 := by
          split at hb
          · rename_i m hp
            rw [hp]
            split at hb
            · rename_i hm
              cases hb
              exact ⟨by rw [hm]; rfl, rfl⟩
            · rename_i hm
              cases hb
              exact ⟨by rw [Bool.not_eq_true] at hm; rw [hm]; rfl, rfl⟩
          · cases hb
        have := (hB scope s H C cl fp).2 cc ce c5 ρ1 S1 p1.1 p1.2 b.1 g1 hm.1 F1 G1 μ1 σ1 H1 R1 RE1
        rw [hm.2] at this
        exact semT_mono this.1 hQ
      · cases c5
    refine ⟨eE, tgE, itE, ifE, scope, own.map fun i => (N.getD i default, i), pos, _, _, _, _, rfl, pi_sem, blk, (fun s H C cl fp => show PG _ _ (gT X.K tg) from pg_of (sto_of (good_blk gd scope s H C cl fp)) c3), htt, pe_semB, folded_of (chkI_head c1), fun Q hQ => ?_⟩
    rw [eown]
    refine semI_mono (s_iter (G := G) gd h (hk sc s0) c1 ga hw R RE) fun J H1 ⟨F1, μ1, e1, R1, wk⟩ => ?_
    intro L hL
    have hG : G L = none := R1.freeG hL
    refine ⟨fun i m H' => m = ds.length - i ∧ i ≤ ds.length ∧ LcI X.K F G μ S g elt tg ifs own ρ F1 ds q L i H', ⟨_, rfl, Nat.zero_le _, F1, μ1, p.2, [], [], e1, R1.lay hL, .nil, Sub.refl _, by rw [List.drop_zero]; exact ht⟩, ?_⟩
    rintro i m H2 ⟨rfl, hi, F2, μ2, S2, acc, av, e2, R2, ra, sb, ht2⟩
    obtain ⟨w1, w2⟩ := wk F2 _ μ2 S2 H2 i sb R2
    by_cases hlt : i < ds.length
    · obtain ⟨go, yl⟩ := w1 ds[i] (List.getElem?_eq_getElem hlt)
      rw [List.drop_eq_getElem_cons hlt] at ht2
      obtain ⟨ρ1, b1, ht2⟩ := bind_some_out ht2
      obtain ⟨b, b2, ht2⟩ := bind_some_out ht2
      refine .inr ⟨go, LcI X.K F G μ S g elt tg ifs own ρ F1 ds q L (i + 1), fun H' hH => ⟨ds.length - (i + 1), by omega, rfl, hlt, hH⟩, fun v H3 hy => ?_⟩
      obtain ⟨F3, e3, R3, rv⟩ := yl v H3 hy
      have e23 := e2.trans e3
      refine bind_ok R3 b1 rv ((RE.mono e23).wipe own) fun σ2 RE2 hwp => ⟨(hwp 5 own c4).trans wipe_wipe, ?_⟩
      refine stt ρ1 S2 b b2 F3 _ μ2 σ2 H3 R3 RE2 _ fun b' H4 ⟨eb, F4, μ4, e4, R4⟩ => ?_
      subst eb
      cases hb : b.1 with
      | false =>
        rw [hb] at ht2
        simp only [Bool.false_eq_true, if_false] at ht2 ⊢
        exact ⟨F4, μ4, b.2, acc, av, e23.trans e4, R4, ra.mono (e3.f.trans e4.f), (sb.trans e3.f).trans e4.f, ht2⟩
      | true =>
        rw [hb] at ht2
        simp only [if_true] at ht2 ⊢
        obtain ⟨pe, g1, ht2⟩ := bind_some_out ht2
        obtain ⟨y, hy2, ht2⟩ := bind_some_out ht2
        split at ht2
        · rename_i hz
          intro s H C cl fp
          refine sem_mono ((hB scope s H C cl fp).1 elt eE c6 ρ1 b.2 pe.1 pe.2 g1 F4 _ μ4 σ2 H4 R4 (RE2.mono e4)) fun u H5 ⟨F5, μ5, e5, R5, r5⟩ => ?_
          rw [asD_out hy2] at r5
          have e45 := (e3.trans e4).trans e5
          have ra5 := ra.mono e45.f
          refine ⟨av, R5.gr _ _ upd_same, fits_lt (by rw [← ra.length]; exact hz), ?_⟩
          exact ⟨F5, μ5, pe.2, acc ++ [y], av ++ [u], (e23.trans e4).trans e5, R5.grow, ra5.append (.cons r5 .nil), sb.trans e45.f, ht2⟩
        · cases ht2
    · have ei : i = ds.length := by omega
      refine .inl ⟨w2 (by omega), ?_⟩
      rw [ei, List.drop_length] at ht2
      have ht3 : some (acc, S2) = some q := ht2
      cases ht3
      obtain ⟨r1, r2⟩ := R2.bare hG
      exact hQ _ _ ⟨F2, μ2, _, e2, r1, L, av, if_pos rfl, ra, rfl, r2⟩
  · cases c
theorem s_lc (gd : Good P k N sc s0 X) {gk : Scope → Scope → Ck1} (h : SndX X g (gk sc s0)) (hk : ∀ sc s0 t e, gk sc s0 t e = true → okHead e = true)
    (hB : ∀ scope, Blks X scope fun Y => SndX Y g (gk (relS scope sc) scope) ∧ SndT Y g (chkT (gk (relS scope sc) scope) 20)) {elt : Tm} {tg : Tg} {ik : IK} {its ifs : List Tm} {own : List Nat} (c : ckLc P N gk sc s0 elt tg ik its ifs own e = true)
    {p : List E × Store} (ga : evs g its ρ S = some p) {ds : List D} (hw : walked p.2 ik p.1 = some ds) {q : List D × Store} (ht : turns g elt tg ifs own ρ ds [] p.2 = some q) (R : Rel X.K F G μ S H) (RE : RelEnv X.K F μ S ρ σ) :
    FrX X e σ H F G μ S (.d (.lst q.1)) q.2 := ⟨q.1, rfl, (t_lc gd h hk hB c ga hw ht R RE).sem gd.calm (by
      rw [gd.hN]
      exact gd.nd)⟩
end
end DL
end

section
set_option Elab.async false
set_option autoImplicit false
set_option linter.all false
set_option maxRecDepth 100000
/-! list(range), tuple(zip), sorted(set), dict(list), d[k]. -/
namespace DL
open PySem PySem.Spec PyProof.Rows L2
variable [TabI]

/-! ### numbers that rise -/
theorem insS_mem {n k : Int} : ∀ {l : List Int}, k ∈ insS n l ↔ k = n ∨ k ∈ l
  | [] => by simp [insS]
  | m :: r => by
    unfold insS
    split
    · simp
    · split
      · rename_i h1 h2
        subst h2
        simp
      · rw [List.mem_cons, insS_mem, List.mem_cons]
        constructor
        · rintro (h | h | h)
          · exact .inr (.inl h)
          · exact .inl h
          · exact .inr (.inr h)
        · rintro (h | h | h)
          · exact .inr (.inl h)
          · exact .inl h
          · exact .inr (.inr h)
theorem insS_rise {n : Int} : ∀ {l : List Int}, l.Pairwise (· < ·) → (insS n l).Pairwise (· < ·)
  | [], _ => by simp [insS]
  | m :: r, h => by
    rw [List.pairwise_cons] at h
    unfold insS
    split
    · rename_i h1
      refine List.pairwise_cons.mpr ⟨fun a ha => ?_, List.pairwise_cons.mpr h⟩
      cases ha with
      | head => exact h1
      | tail _ ha => exact Int.lt_trans h1 (h.1 a ha)
    · split
      · exact List.pairwise_cons.mpr h
      · rename_i h1 h2
        refine List.pairwise_cons.mpr ⟨fun a ha => ?_, insS_rise h.2⟩
        rcases insS_mem.mp ha with rfl | ha
        · omega
        · exact h.1 a ha
theorem sortSet_mem {k : Int} : ∀ {l : List Int}, k ∈ sortSet l ↔ k ∈ l
  | [] => by simp [sortSet]
  | n :: r => by
    unfold sortSet
    rw [insS_mem, sortSet_mem, List.mem_cons]
theorem sortSet_rise : ∀ l : List Int, (sortSet l).Pairwise (· < ·)
  | [] => List.Pairwise.nil
  | n :: r => insS_rise (sortSet_rise r)
theorem rise_eq : ∀ {l m : List Int}, l.Pairwise (· < ·) → m.Pairwise (· < ·) → (∀ k, k ∈ l ↔ k ∈ m) → l = m
  | [], [], _, _, _ => rfl
  | [], b :: m, _, _, h => absurd ((h b).mpr List.mem_cons_self) List.not_mem_nil
  | a :: l, [], _, _, h => absurd ((h a).mp List.mem_cons_self) List.not_mem_nil
  | a :: l, b :: m, h1, h2, h => by
    rw [List.pairwise_cons] at h1 h2
    have e : a = b := by
      have p := (h a).mp List.mem_cons_self
      have q := (h b).mpr List.mem_cons_self
      cases p with
      | head => rfl
      | tail _ p =>
        cases q with
        | head => rfl
        | tail _ q =>
          have := h2.1 a p
          have := h1.1 b q
          omega
    subst e
    rw [rise_eq h1.2 h2.2 fun k => ?_]
    constructor
    · intro hk
      have lt := h1.1 k hk
      cases (h k).mp (List.mem_cons_of_mem _ hk) with
      | head => omega
      | tail _ z => exact z
    · intro hk
      have lt := h2.1 k hk
      cases (h k).mpr (List.mem_cons_of_mem _ hk) with
      | head => omega
      | tail _ z => exact z
/-- sorted(set(t)), t a tuple of ints -/
def tSoS (K : PySem.W.Frag) (ta : TE) : TE := fun σ H Q => ta σ H fun v H1 => ∃ (a : Addr) (ns : List Int), v = .ref a ∧ SqT K H1 a (ns.map V.int) ∧ ns.length < 63 ∧
  ∀ (o : HO) (p q : Addr), H1 p = none → (upd H1 p o) q = none → Q (.ref q) (upd (upd H1 p o) q (.lst ((sortSet ns).map V.int)))
theorem pe_soS {X : Cx} {ea : Expr} {ta : TE} {p p2 pos pos2 : Pos} (hc : X.calm = true) (hg : Gl X "sorted") (hm : X.mg "sorted" = none) (hg2 : Gl X "set") (hm2 : X.mg "set" = none) (ha : PE X ea ta) (na : starEach [ea] X.env = (false, eval ea X.env) :: starEach [] X.env) :
    PE X (.Call (.Name "sorted" p) [.Call (.Name "set" p2) [ea] [] pos2] [] pos) (tSoS X.K ta) := by
  refine ⟨fun pins s σ H Q I h => ?_⟩
  have bo : bootBuiltins ("sorted" : Str) = some (.builtin "sorted") := boots "sorted" (by decide)
  have bs : bootBuiltins ("set" : Str) = some (.type "set") := by decide +kernel
  have hs1 : starEach [.Call (.Name "set" p2) [ea] [] pos2] X.env = (false, eval (.Call (.Name "set" p2) [ea] [] pos2) X.env) :: starEach [] X.env := rfl
  refine Call_ (ld_blt I hg hm bo (PyProof.Rows.callWith_builtin1 (args_cons (Call_ (ld_blt I hg2 hm2 bs (PyProof.Rows.callWith_type1 (args_cons (thn (ha.run pins s σ H _ I h) fun u s1 ⟨v, H1, I1, r1, q1⟩ => args_nil ?_) na) na rfl))) hs1) hs1 rfl))
  obtain ⟨a, ns, rfl, hs, hl, q⟩ := q1
  cases r1
  obtain ⟨its, rv, pt, hz⟩ := I1.tuple hs
  have pt' : s1.heap.IsTuple a its.toArray := pt
  refine L2.call_set_tupI ns (I1.ok.hd hc) pt' rv.ints (by have : scanBound = 64 ∨ True := .inr trivial; unfold scanBound; omega) fun h' tk c hS hcl kk => args_nil ?_
  have hp : H1 s1.heap.objs.size = none := I1.hok.fresh (Nat.le_refl _)
  have J : L2.Inv X pins σ (upd H1 s1.heap.objs.size (SetO X.w s1.heap.objs.size (fun j => decide (j ∈ ns)) c)) { s1 with heap := h', toks := tk } := I1.laid kk (Nat.le_refl _) (setO_new hS)
  refine cr_sortedSet hc pins _ σ _ [.ref s1.heap.objs.size] [.ref s1.heap.objs.size] Q J (.cons rfl .nil) ⟨s1.heap.objs.size, _, c, rfl, upd_same, by omega, fun ms q2 hms hmem hlen hq => ?_⟩
  have e : ms = sortSet ns := rise_eq hms (sortSet_rise ns) fun k => by
    rw [hmem, sortSet_mem]
    simp
  rw [e]
  exact q _ _ q2 hp hq
section
variable {X : Cx} {g : Ev} {ck : Ck1} {ρ : Env} {S S' : Store} {x : E} {F G : Hp} {μ : Nat → Addr} {σ : L2.St} {H : Hp} {P : Prm} {k : Nat} {N : List Str} {sc s0 : Scope} {e : Expr}
theorem rangeD_rep (K : PySem.W.Frag) (F : Hp) (a b : Int) : RepL K F (rangeD a b) (rgV a b) := by
  unfold rangeD rgV
  generalize List.range (b - a).toNat = l
  induction l with
  | nil => exact .nil
  | cons i l ih => exact .cons (.int _) ih
theorem rgOk_of {a b : Int} (h : rgOk a b = true) : RgOk a b := by
  obtain ⟨h, h3⟩ := and2 h
  obtain ⟨h1, h2⟩ := and2 h
  obtain ⟨a1, a2⟩ := small62_of h1
  obtain ⟨b1, b2⟩ := small62_of h2
  have h4 : (b - a).toNat ≤ 10000000 := of_decide_eq_true h3
  exact ⟨a1, a2, b1, b2, by omega⟩
theorem s_rg1 (gd : Good P k N sc s0 X) (h : SndX X g ck) (hk : ∀ t e, ck t e = true → okHead e = true) {a : Tm} (c : ckRg1 P ck sc a e = true) {p : E × Store} (ga : g a ρ S = some p) {j : Int} (hj : p.1 = .d (.int j)) (hr : rgOk 0 j = true) (R : Rel X.K F G μ S H) (RE : RelEnv X.K F μ S ρ σ) :
    FrX X e σ H F G μ S (.d (.lst (rangeD 0 j))) p.2 := by
  unfold ckRg1 at c
  split at c
  · obtain ⟨c, c3⟩ := and2 c
    obtain ⟨c1, c2⟩ := and2 c
    obtain ⟨hn, hm0, hg, hd, hnn⟩ := bi_of c1 gd.hsc gd.bi
    obtain ⟨hn2, hm2, hg2, hd2, hnn2⟩ := bi_of c2 gd.hsc gd.bi
    subst hn hn2
    refine ⟨_, rfl, to_sem (pe_listRg gd.calm hg hm0 (prg_1 hg2 hm2 pe_sem (star_of (hk _ _ c3))) rfl) ?_⟩
    refine sem_mono (h a _ c3 ρ S p.1 p.2 ga F G μ σ H R RE) fun v H1 ⟨F1, μ1, e1, R1, r1⟩ => ?_
    rw [hj] at r1
    cases (show RepP X.K F1 (.int j) v from r1)
    exact ⟨j, rfl, rgOk_of hr, fun q hq => ⟨F1, μ1, H1, e1, R1, q, _, hq, rangeD_rep _ _ _ _, rfl, rfl⟩⟩
  · cases c
theorem s_rg2 (gd : Good P k N sc s0 X) (h : SndX X g ck) (hk : ∀ t e, ck t e = true → okHead e = true) {a b : Tm} (c : ckRg2 P ck sc a b e = true) {p q : E × Store} (ga : g a ρ S = some p) (gb : g b ρ p.2 = some q) {i j : Int} (hi : p.1 = .d (.int i)) (hj : q.1 = .d (.int j)) (hr : rgOk i j = true) (R : Rel X.K F G μ S H) (RE : RelEnv X.K F μ S ρ σ) :
    FrX X e σ H F G μ S (.d (.lst (rangeD i j))) q.2 := by
  unfold ckRg2 at c
  split at c
  · obtain ⟨c, c4⟩ := and2 c
    obtain ⟨c, c3⟩ := and2 c
    obtain ⟨c1, c2⟩ := and2 c
    obtain ⟨hn, hm0, hg, hd, hnn⟩ := bi_of c1 gd.hsc gd.bi
    obtain ⟨hn2, hm2, hg2, hd2, hnn2⟩ := bi_of c2 gd.hsc gd.bi
    subst hn hn2
    refine ⟨_, rfl, to_sem (pe_listRg gd.calm hg hm0 (prg_2 hg2 hm2 pe_sem pe_sem (star_of (hk _ _ c3)) (star_of (hk _ _ c4)) (by rw [star_of (hk _ _ c4)]; rfl)) rfl) ?_⟩
    refine sem_mono (h a _ c3 ρ S p.1 p.2 ga F G μ σ H R RE) fun v H1 ⟨F1, μ1, e1, R1, r1⟩ => ?_
    refine sem_mono (h b _ c4 ρ p.2 q.1 q.2 gb F1 G μ1 σ H1 R1 (RE.mono e1)) fun w H2 ⟨F2, μ2, e2, R2, r2⟩ => ?_
    rw [hi] at r1
    rw [hj] at r2
    cases (show RepP X.K F1 (.int i) v from r1)
    cases (show RepP X.K F2 (.int j) w from r2)
    exact ⟨i, j, rfl, rfl, rgOk_of hr, fun r hr => ⟨F2, μ2, H2, e1.trans e2, R2, r, _, hr, rangeD_rep _ _ _ _, rfl, rfl⟩⟩
  · cases c
theorem s_soS (gd : Good P k N sc s0 X) (h : SndX X g ck) (hk : ∀ t e, ck t e = true → okHead e = true) {a : Tm} (c : ckSoS P ck sc a e = true) {p : E × Store} (ga : g a ρ S = some p) {xs : List D} {ns : List Int} (hx : p.1 = .d (.tup xs)) (hn : intsOf xs = some ns) (hl : ns.length < 63) (R : Rel X.K F G μ S H) (RE : RelEnv X.K F μ S ρ σ) :
    FrX X e σ H F G μ S (.d (.lst ((sortSet ns).map .int))) p.2 := by
  unfold ckSoS at c
  split at c
  · obtain ⟨c, c3⟩ := and2 c
    obtain ⟨c1, c2⟩ := and2 c
    obtain ⟨hn1, hm0, hg, hd, hnn⟩ := bi_of c1 gd.hsc gd.bi
    obtain ⟨hn2, hm2, hg2, hd2, hnn2⟩ := bi_of c2 gd.hsc gd.bi
    subst hn1 hn2
    refine ⟨_, rfl, to_sem (pe_soS gd.calm hg hm0 hg2 hm2 pe_sem (star_of (hk _ _ c3))) ?_⟩
    refine sem_mono (h a _ c3 ρ S p.1 p.2 ga F G μ σ H R RE) fun v H1 ⟨F1, μ1, e1, R1, r1⟩ => ?_
    rw [hx] at r1
    cases (show RepP X.K F1 (.tup xs) v from r1) with
    | @tup b _ vs h1 h2 =>
      obtain ⟨h3, _⟩ := h2.isInts hn
      subst h3
      exact ⟨b, ns, rfl, R1.fr.sqT h1, hl, fun o p q hp hq => ⟨F1, μ1, _, e1, R1.idle hp, q, _, hq, RepL.ofInts _, rfl, rfl⟩⟩
  · cases c
/-! tuple(zip) -/
theorem rel_upds {K : PySem.W.Frag} : ∀ {l : List (Addr × List V)} {F H : Hp}, Rel K F G μ S H → (l.map (·.1)).Nodup → (∀ p ∈ l, H p.1 = none) → ∃ F', Ext F μ S F' μ S ∧ Rel K F' G μ S (upds H l) ∧ ∀ p ∈ l, F' p.1 = some (.tup p.2)
  | [], F, H, R, _, _ => ⟨F, Ext.refl _ _ _, R, fun p hp => nomatch hp⟩
  | p :: r, F, H, R, nd, hn => by
    rw [List.map_cons, List.nodup_cons] at nd
    obtain ⟨F1, e1, R1, h1⟩ := rel_upds (l := r) R nd.2 fun q hq => hn q (List.mem_cons_of_mem _ hq)
    have hp : upds H r p.1 = none := by
      rw [upds_out nd.1]
      exact hn p List.mem_cons_self
    have ex := Ext.shut (o := .tup p.2) (R1.free hp) S μ
    refine ⟨_, e1.trans ex, R1.shut hp, fun q hq => ?_⟩
    cases hq with
    | head => exact upd_same
    | tail _ hq => exact ex.f _ _ (h1 q hq)
theorem prs_rep {K : PySem.W.Frag} {F : Hp} : ∀ {xs ys : List D} {vs ws : List V} {Ts : List Addr}, RepL K F xs vs → RepL K F ys ws → Ts.length = vs.length → vs.length ≤ ws.length → (∀ p ∈ Ts.zip (prsV vs ws), F p.1 = some (.tup p.2)) → RepL K F (zipD xs ys) (Ts.map V.ref)
  | _, _, _, _, [], .nil, _, _, _, _ => by
    unfold zipD
    exact .nil
  | _, _, _, _, _ :: _, .nil, _, hl, _, _ => by cases hl
  | _, _, _, _, [], .cons _ _, _, hl, _, _ => by cases hl
  | _, _, _, _, _ :: _, .cons _ _, .nil, _, hle, _ => by cases hle
  | x :: xs, y :: ys, v :: vs, w :: ws, T :: Ts, .cons h1 r1, .cons h2 r2, hl, hle, hF => by
    have e : zipD (x :: xs) (y :: ys) = .tup [x, y] :: zipD xs ys := by
      conv => lhs; unfold zipD
    rw [e]
    refine .cons (.tup (.inl (.inl (hF (T, [v, w]) List.mem_cons_self))) (.cons h1 (.cons h2 .nil))) (prs_rep r1 r2 (by simpa using hl) (by simpa using hle) fun p hp => hF p (List.mem_cons_of_mem _ hp))
theorem zip_fst_nodup {α β : Type} {l : List α} {r : List β} (h : l.length = r.length) (nd : l.Nodup) : ((l.zip r).map (·.1)).Nodup := by
  rw [zip_map_fst h]
  exact nd
theorem s_tupZ (gd : Good P k N sc s0 X) (h : SndX X g ck) (hk : ∀ t e, ck t e = true → okHead e = true) {a b : Tm} (c : ckTupZ P ck sc a b e = true) {p q : E × Store} (ga : g a ρ S = some p) (gb : g b ρ p.2 = some q) {xs ys : List D} (hx : p.1 = .d (.tup xs)) (hy : q.1 = .d (.tup ys)) (hle : xs.length ≤ ys.length) (R : Rel X.K F G μ S H) (RE : RelEnv X.K F μ S ρ σ) :
    sem X e σ H (Lift X.K F G μ S (.d (.tup (zipD xs ys))) q.2) := by
  unfold ckTupZ at c
  split at c
  · obtain ⟨c, c4⟩ := and2 c
    obtain ⟨c, c3⟩ := and2 c
    obtain ⟨c1, c2⟩ := and2 c
    obtain ⟨hn, hm0, hg, hd, hnn⟩ := bi_of c1 gd.hsc gd.bi
    obtain ⟨hn2, hm2, hg2, hd2, hnn2⟩ := bi_of c2 gd.hsc gd.bi
    subst hn hn2
    refine to_sem (pe_tupZ gd.calm hg hm0 hg2 hm2 (pa_cons pe_sem (pa_cons pe_sem pa_nil (star_of (hk _ _ c4))) (star_of (hk _ _ c3))) (star_of (hk _ _ c3)) (by rw [star_of (hk _ _ c4)]; rfl)) ?_
    refine sem_mono (h a _ c3 ρ S p.1 p.2 ga F G μ σ H R RE) fun v H1 ⟨F1, μ1, e1, R1, r1⟩ => ?_
    refine sem_mono (h b _ c4 ρ p.2 q.1 q.2 gb F1 G μ1 σ H1 R1 (RE.mono e1)) fun w H2 ⟨F2, μ2, e2, R2, r2⟩ => ?_
    rw [hx] at r1
    rw [hy] at r2
    have r1' := RepP.mono e2.f (show RepP X.K F1 (.tup xs) v from r1)
    cases r1' with
    | @tup ad _ vs h1 h2 =>
      cases (show RepP X.K F2 (.tup ys) w from r2) with
      | @tup bd _ ws h3 h4 =>
        refine ⟨ad, bd, vs, ws, rfl, R2.fr.sqT h1, R2.fr.sqT h3, by rw [← h2.length, ← h4.length]; exact hle, fun pp Ts hT nd hno => ?_⟩
        have lle : vs.length ≤ ws.length := by rw [← h2.length, ← h4.length]; exact hle
        have lenP : (prsV vs ws).length = vs.length := by
          unfold prsV
          rw [List.length_zipWith]
          omega
        have fst_ : (((pp, Ts.map V.ref) :: Ts.zip (prsV vs ws)).map (·.1)) = pp :: Ts := by
          rw [List.map_cons, zip_map_fst (by rw [hT, lenP])]
        obtain ⟨F3, e3, R3, hF⟩ := rel_upds (l := (pp, Ts.map V.ref) :: Ts.zip (prsV vs ws)) R2 (by rw [fst_]; exact nd) fun t ht => hno t.1 (by rw [← fst_]; exact List.mem_map_of_mem ht)
        have rl := prs_rep (h2.mono e3.f) (h4.mono e3.f) hT lle fun t ht => hF t (List.mem_cons_of_mem _ ht)
        exact ⟨F3, μ2, (e1.trans e2).trans e3, R3, .tup (.inl (.inl (hF _ List.mem_cons_self))) rl⟩
  · cases c
/-! dicts -/
theorem putK_rep {K : PySem.W.Frag} {F : Hp} {ky : Key} {z : D} {v : V} (hz : RepP K F z v) : ∀ {ks : List (Key × D)} {vs : List (Key × V)}, RepK K F ks vs → (ks.any fun kv => decide (kv.1 = ky)) = (vs.any fun kv => decide (kv.1 = ky)) ∧ RepK K F (ks.map fun kv => if kv.1 = ky then (kv.1, z) else kv) (vs.map fun kv => if kv.1 = ky then (kv.1, v) else kv) ∧ RepK K F (ks ++ [(ky, z)]) (vs ++ [(ky, v)])
  | _, _, .nil => ⟨rfl, .nil, .cons hz .nil⟩
  | _, _, .cons (k := k1) h r => by
    obtain ⟨i1, i2, i3⟩ := putK_rep hz r
    refine ⟨by rw [List.any_cons, List.any_cons, i1], ?_, .cons h i3⟩
    rw [List.map_cons, List.map_cons]
    by_cases e : k1 = ky
    · rw [if_pos e, if_pos e]
      exact .cons hz i2
    · rw [if_neg e, if_neg e]
      exact .cons h i2
theorem put_rep {K : PySem.W.Frag} {F : Hp} {ky : Key} {z : D} {v : V} (hz : RepP K F z v) {ks : List (Key × D)} {vs : List (Key × V)} (h : RepK K F ks vs) : RepK K F (putD ks ky z) (putK vs ky v) := by
  obtain ⟨i1, i2, i3⟩ := putK_rep (ky := ky) hz h
  unfold putD putK
  rw [i1]
  split
  · exact i2
  · exact i3
theorem merge_rep {K : PySem.W.Frag} {F : Hp} {more : List (Key × D)} {mv : List (Key × V)} (r : RepK K F more mv) : ∀ {ks : List (Key × D)} {vs : List (Key × V)}, RepK K F ks vs → RepK K F (mergeD ks more) (mergeK vs mv) := by
  induction more generalizing mv with
  | nil =>
    intro ks vs h
    cases r
    exact h
  | cons p more ih =>
    intro ks vs h
    cases r with
    | cons hz r => exact ih r (put_rep hz h)
theorem val_rep {K : PySem.W.Frag} {F : Hp} {ky : Key} {ks : List (Key × D)} : ∀ {vs : List (Key × V)} {z : D}, RepK K F ks vs → valD ks ky = some z → ∃ v, valV vs ky = some v ∧ RepP K F z v := by
  induction ks with
  | nil =>
    intro vs z r h
    cases h
  | cons p ks ih =>
    intro vs z r h
    cases r with
    | @cons k1 x _ v vs hz r =>
      unfold valD at h
      by_cases e : k1 = ky
      · rw [valV_pos e]
        rw [List.find?_cons_of_pos (by exact decide_eq_true e)] at h
        cases h
        exact ⟨_, rfl, hz⟩
      · rw [valV_neg e]
        rw [List.find?_cons_of_neg (by simpa using e)] at h
        exact ih r h
theorem keyOf_rep {K : PySem.W.Frag} {F : Hp} {x : D} {v : V} {ky : Key} (h : keyOf x = some ky) (r : RepP K F x v) : v = kV ky := by
  cases r <;> first | (cases h; rfl) | cases h
theorem pairs_rep {K : PySem.W.Frag} {F H : Hp} (sb : Sub F H) : ∀ {xs : List D} {vs : List V} {kvs : List (Key × D)}, RepL K F xs vs → pairsOf xs = some kvs → ∃ (ps : List Addr) (mv : List (Key × V)), vs = ps.map V.ref ∧ Paired (fun p kv => SqT K H p [kV kv.1, kv.2]) ps mv ∧ RepK K F kvs mv
  | _, _, _, .nil, h => by
    cases h
    exact ⟨[], [], rfl, .nil, .nil⟩
  | x :: xs, v :: vs, kvs, .cons h1 r, h => by
    obtain ⟨pr, hp, h⟩ := bind_some_out (a := pairOf x) h
    cases hq : pairsOf xs with
    | none =>
      rw [hq] at h
      cases h
    | some kr =>
      rw [hq] at h
      cases h
      obtain ⟨ps, mv, e1, p1, r1⟩ := pairs_rep sb r hq
      unfold pairOf at hp
      split at hp
      · rename_i kd vd
        cases hk : keyOf kd with
        | none =>
          rw [hk] at hp
          cases hp
        | some ky =>
          rw [hk] at hp
          cases hp
          cases h1 with
          | @tup ad _ us a1 a2 =>
            cases a2 with
            | cons b1 b2 =>
              cases b2 with
              | cons b3 b4 =>
                cases b4
                have ek := keyOf_rep hk b1
                subst ek
                exact ⟨ad :: ps, (ky, _) :: mv, by rw [e1]; rfl, .cons (sb.sqT a1) p1, .cons b3 r1⟩
      · cases hp
theorem s_dictL (gd : Good P k N sc s0 X) (h : SndX X g ck) (hk : ∀ t e, ck t e = true → okHead e = true) {a : Tm} (c : ckDiL P ck sc a e = true) {p : E × Store} (ga : g a ρ S = some p) {xs : List D} {kvs : List (Key × D)} (hx : p.1 = .d (.lst xs)) (hn : pairsOf xs = some kvs) (R : Rel X.K F G μ S H) (RE : RelEnv X.K F μ S ρ σ) :
    sem X e σ H (Lift X.K F G μ S (.d (.dct (mergeD [] kvs))) p.2) := by
  unfold ckDiL at c
  split at c
  · obtain ⟨c1, c2⟩ := and2 c
    obtain ⟨hn1, hm0, hg, hd, hnn⟩ := bi_of c1 gd.hsc gd.bi
    subst hn1
    have h0 := hk _ _ c2
    refine to_sem (pe_callTy (call_dictP gd.calm) hg hm0 (bootTs "dict" (by decide)) (pa_cons pe_sem pa_nil (star_of h0)) hnn hd (star_of h0)) ?_
    refine sem_mono (h a _ c2 ρ S p.1 p.2 ga F G μ σ H R RE) fun v H1 ⟨F1, μ1, e1, R1, r1⟩ => ?_
    rw [hx] at r1
    cases (show RepP X.K F1 (.lst xs) v from r1) with
    | @lst ad _ vs h1 h2 =>
      obtain ⟨ps, mv, rfl, pr, rk⟩ := pairs_rep R1.fr h2 hn
      refine ⟨ad, ps, mv, rfl, .of (R1.fr _ _ h1), pr, fun q hq => ?_⟩
      have ex := Ext.shut (o := .dK (mergeK [] mv)) (R1.free hq) p.2 μ1
      exact ⟨_, μ1, e1.trans ex, R1.shut hq, .dct upd_same ((merge_rep rk .nil).mono ex.f)⟩
  · cases c
theorem noSl_of {i : Expr} (h : okHead i = true) : NoSl i := by
  cases i <;> first | (intro _ _; rfl) | (cases h; done)
theorem s_idxD (gd : Good P k N sc s0 X) (h : SndX X g ck) (hk : ∀ t e, ck t e = true → okHead e = true) {a b : Tm} (c : ckIdx ck a b e = true) {p q : E × Store} (ga : g a ρ S = some p) (gb : g b ρ p.2 = some q) {kvs : List (Key × D)} {kd z : D} {ky : Key} (hx : p.1 = .d (.dct kvs)) (hy : q.1 = .d kd) (hky : keyOf kd = some ky) (hz : valD kvs ky = some z)
    (R : Rel X.K F G μ S H) (RE : RelEnv X.K F μ S ρ σ) : sem X e σ H (Lift X.K F G μ S (.d z) q.2) := by
  unfold ckIdx at c
  split at c
  · obtain ⟨c1, c2⟩ := and2 c
    refine to_sem (pe_dget (Nat.lt_of_le_of_lt (by omega) gd.room.units) pe_sem pe_sem (noSl_of (hk _ _ c2))) ?_
    refine sem_mono (h a _ c1 ρ S p.1 p.2 ga F G μ σ H R RE) fun v H1 ⟨F1, μ1, e1, R1, r1⟩ => ?_
    refine sem_mono (h b _ c2 ρ p.2 q.1 q.2 gb F1 G μ1 σ H1 R1 (RE.mono e1)) fun w H2 ⟨F2, μ2, e2, R2, r2⟩ => ?_
    rw [hx] at r1
    rw [hy] at r2
    have r1' := RepP.mono e2.f (show RepP X.K F1 (.dct kvs) v from r1)
    cases r1' with
    | @dct ad _ vs h1 h2 =>
      obtain ⟨u, h3, h4⟩ := val_rep h2 hz
      have ev := keyOf_rep hky (show RepP X.K F2 kd w from r2)
      subst ev
      exact ⟨ad, u, rfl, .inl ⟨vs, ky, .inl (R2.fr _ _ h1), rfl, h3.symm⟩, F2, μ2, e1.trans e2, R2, h4⟩
  · cases c
end
end DL
end

section
set_option autoImplicit false
set_option linter.all false
set_option maxRecDepth 100000
/-! The tongue's term for sorted(range(n), key=lambda ..). -/
namespace DL
open PySem PySem.Spec PyProof.Rows L2
variable [TabI]
theorem bind1 {name q : Str} {a0 : Str} {pa : Pos} {body : Expr} {scope : Scope} {cl : List (Str × Addr)} {pm cv ctv u : Value} : bindArgs (PySem.W.kla_fn name q ⟨[], [⟨a0, none, pa⟩], none, [], [], none, []⟩ body scope cl pm cv ctv) ⟨[u], []⟩ = pure [(a0, u)] := by
  have h : ([(a0, u)] : List (Str × Value)).lookup a0 = some u := by simp
  unfold bindArgs
  simp [h, seqItems?]
  rfl
theorem Rel.extN {K : PySem.W.Frag} {F G H H' : Hp} {μ : Nat → Addr} {S : Store} (r : Rel K F G μ S H) (e : LamX.ExtN H H') (t : LamX.Tabs TabI.T H') : Rel K F G μ S H' where
  fr := fun a o h => e a o (r.fr a o h) fun ps z => r.ft a ps (z ▸ h)
  gr := fun a o h => e a o (r.gr a o h) fun ps z => r.gt a ps (z ▸ h)
  gf := r.gf
  st := fun n xs h => by
    obtain ⟨vs, h1, h2⟩ := r.st n xs h
    exact ⟨vs, e _ _ h1 (fun ps z => by cases z), h2⟩
  nf := r.nf
  ng := r.ng
  inj := r.inj
  tb := t
  ft := r.ft
  gt := r.gt
theorem rests_rep {K : PySem.W.Frag} {F : Hp} {xs : List D} {vs : List V} (r : RepL K F xs vs) (h : xs.all isRest = true) (i : Nat) (hi : i < xs.length) : ∃ (t : Addr) (a : V), vs[i]? = some (.ref t) ∧ SqT K F t [a, .int (restAt xs i)] := by
  have hx : xs[i]? = some xs[i] := List.getElem?_eq_getElem hi
  obtain ⟨v, h1, h2⟩ := r.get hx
  have h3 := List.all_eq_true.mp h xs[i] (List.getElem_mem hi)
  have e : ∃ d z, xs[i] = .tup [d, .int z] := by
    revert h3
    generalize xs[i] = y
    intro h3
    unfold isRest at h3
    split at h3
    · exact ⟨_, _, rfl⟩
    · cases h3
  obtain ⟨d, z, e⟩ := e
  have er : restAt xs i = z := by
    unfold restAt
    rw [hx, e]
  rw [e] at h2
  rw [er]
  cases h2 with
  | @tup t _ us h4 h5 =>
    cases h5 with
    | cons r1 r2 =>
      cases r2 with
      | cons r3 r4 =>
        cases r4
        cases r3
        exact ⟨t, _, h1, h4⟩
theorem repL_nats {K : PySem.W.Frag} {H : Hp} : ∀ l : List Nat, RepL K H (l.map fun (j : Nat) => D.int (j : Int)) (l.map fun (j : Nat) => V.int (j : Int))
  | [] => .nil
  | j :: l => .cons (.int _) (repL_nats l)
section
variable {P : Prm} {k : Nat} {N : List Str} {sc s0 : Scope} {X : Cx} {g : Ev} {ck : Ck1} {ρ : Env} {S : Store} {e : Expr} {F G H : Hp} {μ : Nat → Addr} {σ : L2.St}
theorem cell_of {X : Cx} {sc : Scope} {x : Str} (h : isCell sc x = true) (hs : X.env.scope = sc) : X.env.kindOf x = some .cell := by
  unfold Env.kindOf
  rw [hs]
  unfold isCell at h
  split at h
  · assumption
  · cases h
theorem s_srt (gd : Good P k N sc s0 X) (h : SndX X g ck) (hk : ∀ t e, ck t e = true → okHead e = true) {a : Tm} {v : Nat} (c : ckSrt P N ck sc a v e = true) {p : E × Store} (ga : g a ρ S = some p) {i : Int} {xs : List D} (hp : p.1 = .d (.int i)) (hv : ρ[v]? = some (some (.d (.lst xs))))
    (hc : (decide (i = (xs.length : Int)) && decide (xs.length < 1000000) && xs.all isRest) = true) (R : Rel X.K F G μ S H) (RE : RelEnv X.K F μ S ρ σ) : sem X e σ H (Lift X.K F G μ S (.d (.lst ((orderOf xs.length (restAt xs)).map fun (j : Nat) => .int (j : Int)))) p.2) := by
  obtain ⟨hc, hc3⟩ := and2 hc
  obtain ⟨hc1, hc2⟩ := and2 hc
  have hc1 := of_decide_eq_true hc1
  have hc2 := of_decide_eq_true hc2
  unfold ckSrt at c
  split at c
  · obtain ⟨c, d20⟩ := and2 c
    obtain ⟨c, d19⟩ := and2 c
    obtain ⟨c, d18⟩ := and2 c
    obtain ⟨c, d17⟩ := and2 c
    obtain ⟨c, d16⟩ := and2 c
    obtain ⟨c, d15⟩ := and2 c
    obtain ⟨c, d14⟩ := and2 c
    obtain ⟨c, d13⟩ := and2 c
    obtain ⟨c, d12⟩ := and2 c
    obtain ⟨c, d11⟩ := and2 c
    obtain ⟨c, d10⟩ := and2 c
    obtain ⟨c, d9⟩ := and2 c
    obtain ⟨c, d8⟩ := and2 c
    obtain ⟨c, d7⟩ := and2 c
    obtain ⟨c, d6⟩ := and2 c
    obtain ⟨c, d5⟩ := and2 c
    obtain ⟨c, d4⟩ := and2 c
    obtain ⟨c1, c2⟩ := and2 c
    obtain ⟨hn1, hm1, hg1, _, _⟩ := bi_of c1 gd.hsc gd.bi
    obtain ⟨hn2, hm2, hg2, _, _⟩ := bi_of c2 gd.hsc gd.bi
    have z1 := of_decide_eq_true d4
    have z2 := of_decide_eq_true d5
    have z3 := of_decide_eq_true d6
    have z4 := of_decide_eq_true d7
    have z5 := of_decide_eq_true d8
    subst hn1 hn2 z1 z2 z3 z4 z5
    have hN := of_decide_eq_true d10
    obtain ⟨n1, n2, n3⟩ := okName_of d12
    obtain ⟨n4, n5, n6⟩ := okName_of d13
    have hkind := of_decide_eq_true d14
    have hco := not_t d15
    have hgen := not_t d16
    have hall := fun y hy => and2 (List.all_eq_true.mp d17 y hy)
    have hfr := of_decide_eq_true d18
    have hav := of_decide_eq_true d19
    obtain ⟨cc, Q, TB, hcode, hmT, hu⟩ := gd.lam d20
    have hcell := cell_of d11 gd.hsc
    intro pins s I
    refine srt_run (T := TabI.T) I gd.room hg1 hm1 hg2 hm2 TB hcode hmT hu (by rfl) hkind hco hgen (fun y hy => of_decide_eq_false (not_t (hall y hy).1)) hfr hav (fun y hy e => ?_) hcell (by rw [gd.hN]; exact hN) (fun _ _ _ _ _ _ => bind1) n1 n4 n2 (star_of (hk _ _ d9)) ?_
    · rcases Bool.or_eq_true_iff.mp (hall y hy).2 with z | z
      · exact absurd e (of_decide_eq_false (not_t z))
      · exact of_decide_eq_true z
    · refine sem_mono (h a _ d9 ρ S p.1 p.2 ga F G μ σ H R RE) fun u H1 ⟨F1, μ1, e1, R1, r1⟩ => ?_
      rw [hp] at r1
      refine ⟨xs.length, ?_, ?_⟩
      · cases (show RepP X.K F1 (.int i) u from r1)
        rw [hc1]
      · obtain ⟨w, hw, rw1⟩ := RE.at_ v _ hv
        have rw2 := RepP.mono e1.f (show RepP X.K F (.lst xs) w from rw1)
        cases rw2 with
        | @lst l _ vs h1 h2 =>
          refine ⟨hc2, R1.tb, l, vs, restAt xs, hw, .inl (.inl (R1.fr _ _ h1)), fun j hj => ?_, fun H2 q en tb hq => ?_⟩
          · obtain ⟨t, b, e2, e3⟩ := rests_rep h2 hc3 j hj
            exact ⟨t, b, e2, R1.fr.sqT e3⟩
          · have R2 := R1.extN en tb
            exact ⟨_, μ1, e1.trans (Ext.shut (R2.free hq) _ _), R2.shut hq, .lst upd_same (repL_nats _)⟩
  · cases c
end
end DL
end

section
set_option autoImplicit false
set_option linter.all false
set_option maxRecDepth 100000
/-! t[::-1], len(set(..)), {}, a display with texts as keys. -/
namespace DL
open PySem PySem.Spec PyProof.Rows L2
variable [TabI]
section
variable {K : PySem.W.Frag} {F G H : Hp} {μ : Nat → Addr} {S : Store} {D : Addr}
theorem tabs_dropK {T : List (Addr × Str)} {vs : List (Key × V)} (hp : H D = some (.dK vs)) (t : LamX.Tabs T H) : LamX.Tabs T (fun a => if a = D then none else H a) := fun q hq => by
  obtain ⟨ps, h1, h2, h3⟩ := t q hq
  have n1 : q.1 ≠ D := fun z => by
    rw [z, hp] at h1
    cases h1
  refine ⟨ps, (if_neg n1).trans h1, h2, fun pos cv hc => ?_⟩
  obtain ⟨c, e1, e2⟩ := h3 pos cv hc
  have n2 : c ≠ D := fun z => by
    rw [z, hp] at e2
    unfold LamX.CodeO at e2
    cases e2
  exact ⟨c, e1, (if_neg n2).trans e2⟩
theorem Rel.bareK {vs : List (Key × V)} (r : Rel K F (upd G D (.dK vs)) μ S H) (hG : G D = none) : Rel K F G μ S (fun a => if a = D then none else H a) ∧ H = upd (fun a => if a = D then none else H a) D (.dK vs) := by
  have fD : F D = none := r.gf D _ upd_same
  have hm : ∀ n xs, S[n]? = some (some xs) → μ n ≠ D := fun n xs e z => by
    have := r.ng n xs e
    rw [z, upd_same] at this
    cases this
  refine ⟨⟨fun a u e => ?_, fun a u e => ?_, fun a u e => ?_, fun n xs e => ?_, r.nf, fun n xs e => ?_, r.inj, tabs_dropK (vs := vs) (r.gr D _ upd_same) r.tb, r.ft, fun a ps e => r.gt a ps (by rw [upd_ne (ne_of_none e hG)]; exact e)⟩, ?_⟩
  · show (if a = D then none else H a) = some u
    rw [if_neg (ne_of_none e fD)]
    exact r.fr _ _ e
  · show (if a = D then none else H a) = some u
    have h := ne_of_none e hG
    rw [if_neg h]
    exact r.gr _ _ (by rw [upd_ne h]; exact e)
  · exact r.gf a u (by rw [upd_ne (ne_of_none e hG)]; exact e)
  · obtain ⟨vs, h1, h2⟩ := r.st n xs e
    refine ⟨vs, ?_, h2⟩
    show (if μ n = D then none else H (μ n)) = _
    rw [if_neg (hm n xs e)]
    exact h1
  · have := r.ng n xs e
    rw [upd_ne (hm n xs e)] at this
    exact this
  · funext a
    by_cases h : a = D
    · subst h
      rw [upd_same]
      exact r.gr _ _ upd_same
    · rw [upd_ne h, if_neg h]
end
section
variable {X : Cx} {g : Ev} {ck : Ck1} {ρ : Env} {S S' : Store} {x : E} {F G : Hp} {μ : Nat → Addr} {σ : L2.St} {H : Hp} {P : Prm} {k : Nat} {N : List Str} {sc s0 : Scope} {e : Expr}
theorem RepL.rev {K : PySem.W.Frag} {F : Hp} {xs : List D} {vs : List V} (r : RepL K F xs vs) : RepL K F xs.reverse vs.reverse := by
  have go : ∀ {xs : List D} {vs : List V} {ys : List D} {ws : List V}, RepL K F xs vs → RepL K F ys ws → RepL K F (xs.reverse ++ ys) (vs.reverse ++ ws) := by
    intro xs
    induction xs with
    | nil =>
      intro vs ys ws r q
      cases r
      exact q
    | cons x xs ih =>
      intro vs ys ws r q
      cases r with
      | cons h r =>
        rw [List.reverse_cons, List.reverse_cons, List.append_assoc, List.append_assoc]
        exact ih r (.cons h q)
  have := go r .nil
  simpa using this
theorem s_revT (h : SndX X g ck) {a : Tm} (c : ckRev ck a e = true) {p : E × Store} (ga : g a ρ S = some p) {xs : List D} (hx : p.1 = .d (.tup xs)) (R : Rel X.K F G μ S H) (RE : RelEnv X.K F μ S ρ σ) :
    sem X e σ H (Lift X.K F G μ S (.d (.tup xs.reverse)) p.2) := by
  unfold ckRev at c
  split at c
  · obtain ⟨c1, c2⟩ := and2 c
    have ez := of_decide_eq_true c1
    subst ez
    refine to_sem (pe_revT pe_sem) ?_
    refine sem_mono (h a _ c2 ρ S p.1 p.2 ga F G μ σ H R RE) fun v H1 ⟨F1, μ1, e1, R1, r1⟩ => ?_
    rw [hx] at r1
    cases (show RepP X.K F1 (.tup xs) v from r1) with
    | @tup ad _ vs h1 h2 =>
      refine ⟨ad, vs, rfl, R1.fr.sqT h1, fun q hq => ?_⟩
      have ex := Ext.shut (o := .tup vs.reverse) (R1.free hq) p.2 μ1
      exact ⟨_, μ1, e1.trans ex, R1.shut hq, .tup (.inl (.inl upd_same)) (h2.rev.mono ex.f)⟩
  · cases c
theorem s_lenT (gd : Good P k N sc s0 X) (h : SndX X g ck) (hk : ∀ t e, ck t e = true → okHead e = true) {a : Tm} (c : ckLenS P ck sc a e = true) {p : E × Store} (ga : g a ρ S = some p) {xs : List D} {ns : List Int} (hx : p.1 = .d (.tup xs)) (hn : intsOf xs = some ns) (hl : ns.length ≤ 1000) (R : Rel X.K F G μ S H) (RE : RelEnv X.K F μ S ρ σ) :
    sem X e σ H (Lift X.K F G μ S (.d (.int (sortSet ns).length)) p.2) := by
  unfold ckLenS at c
  split at c
  · obtain ⟨c, c3⟩ := and2 c
    obtain ⟨c1, c2⟩ := and2 c
    obtain ⟨hn1, hm1, hg1, _, _⟩ := bi_of c1 gd.hsc gd.bi
    obtain ⟨hn2, hm2, hg2, _, _⟩ := bi_of c2 gd.hsc gd.bi
    subst hn1 hn2
    refine to_sem (pe_lenT hg1 hm1 hg2 hm2 pe_sem gd.calm (star_of (hk _ _ c3))) ?_
    refine sem_mono (h a _ c3 ρ S p.1 p.2 ga F G μ σ H R RE) fun v H1 ⟨F1, μ1, e1, R1, r1⟩ => ?_
    rw [hx] at r1
    cases (show RepP X.K F1 (.tup xs) v from r1) with
    | @tup ad _ vs h1 h2 =>
      obtain ⟨h3, _⟩ := h2.isInts hn
      subst h3
      exact ⟨ad, ns, rfl, R1.fr.sqT h1, hl, F1, μ1, e1, R1, .int _⟩
  · cases c
theorem s_lenL (gd : Good P k N sc s0 X) (h : SndX X g ck) (hk : ∀ t e, ck t e = true → okHead e = true) {a : Tm} (c : ckLenS P ck sc a e = true) {p : E × Store} (ga : g a ρ S = some p) {xs : List D} {ns : List Int} (hx : p.1 = .d (.lst xs)) (hn : intsOf xs = some ns) (hl : ns.length ≤ 1000) (R : Rel X.K F G μ S H) (RE : RelEnv X.K F μ S ρ σ) :
    sem X e σ H (Lift X.K F G μ S (.d (.int (sortSet ns).length)) p.2) := by
  unfold ckLenS at c
  split at c
  · obtain ⟨c, c3⟩ := and2 c
    obtain ⟨c1, c2⟩ := and2 c
    obtain ⟨hn1, hm1, hg1, _, _⟩ := bi_of c1 gd.hsc gd.bi
    obtain ⟨hn2, hm2, hg2, _, _⟩ := bi_of c2 gd.hsc gd.bi
    subst hn1 hn2
    refine to_sem (pe_lenL hg1 hm1 hg2 hm2 pe_sem gd.calm (star_of (hk _ _ c3))) ?_
    refine sem_mono (h a _ c3 ρ S p.1 p.2 ga F G μ σ H R RE) fun v H1 ⟨F1, μ1, e1, R1, r1⟩ => ?_
    rw [hx] at r1
    cases (show RepP X.K F1 (.lst xs) v from r1) with
    | @lst ad _ vs h1 h2 =>
      obtain ⟨h3, _⟩ := h2.isInts hn
      subst h3
      exact ⟨ad, ns, rfl, .of (R1.fr _ _ h1), hl, F1, μ1, e1, R1, .int _⟩
  · cases c
theorem s_dnew (c : ckDnew e = true) (R : Rel X.K F G μ S H) : sem X e σ H (Lift X.K F G μ S (.d (.dct [])) S) := by
  unfold ckDnew at c
  split at c
  · refine to_sem pe_dnewK fun q hq => ?_
    have ex := Ext.shut (o := .dK []) (R.free hq) S μ
    exact ⟨_, μ, ex, R.shut hq, .dct upd_same .nil⟩
  · cases c
def dspTrs (X : Cx) : List Str → List Expr → List (TE × TE)
  | k :: ks, e :: es => (tC (.str k), sem X e) :: dspTrs X ks es
  | _, _ => []
theorem pps_dsp {pos : Pos} : ∀ {ks : List Str} {keys : List (Option Expr)} {es : List Expr}, keysAre ks keys = true → ks.length = es.length → PPs X pos keys es (dspTrs X ks es)
  | [], [], [], _, _ => pps_nil
  | [], [], _ :: _, _, hl => by cases hl
  | [], _ :: _, _, h, _ => by cases h
  | _ :: _, [], _, h, _ => by cases h
  | _ :: _, _ :: _, [], _, hl => by cases hl
  | k :: ks, none :: keys, e :: es, h, _ => by cases h
  | k :: ks, some ke :: keys, e :: es, h, hl => by
    cases ke with
    | Constant cc j p =>
      cases cc with
      | str y =>
        obtain ⟨h1, h2⟩ := and2 (show (decide (k = y) && keysAre ks keys) = true from h)
        rw [← of_decide_eq_true h1]
        exact pps_cons pe_str pe_sem (pps_dsp h2 (Nat.succ.inj hl))
      | _ => cases h
    | _ => cases h
theorem keysAre_facts : ∀ {ks : List Str} {keys : List (Option Expr)}, keysAre ks keys = true → keys.length = ks.length ∧ keys.all (·.isSome) = true
  | [], [], _ => ⟨rfl, rfl⟩
  | [], _ :: _, h => by cases h
  | _ :: _, [], h => by cases h
  | k :: ks, none :: keys, h => by cases h
  | k :: ks, some ke :: keys, h => by
    cases ke with
    | Constant cc j p =>
      cases cc with
      | str y =>
        obtain ⟨h1, h2⟩ := and2 (show (decide (k = y) && keysAre ks keys) = true from h)
        obtain ⟨i1, i2⟩ := keysAre_facts h2
        refine ⟨by rw [List.length_cons, List.length_cons, i1], ?_⟩
        rw [List.all_cons, i2]
        rfl
      | _ => cases h
    | _ => cases h
theorem dsp_run (h : SndX X g ck) : ∀ {as : List Tm} {es : List Expr} {ks : List Str} {xs : List D} {S S' : Store} {es' : List E} {F G : Hp} {μ : Nat → Addr} {H : Hp} {Q : List (V × V) → Hp → Prop}, chkAll ck as es = true → ks.length = es.length → evs g as ρ S = some (es', S') → asDs es' = some xs → Rel X.K F G μ S H → RelEnv X.K F μ S ρ σ →
    (∀ (kvs : List (Key × V)) H' F' μ', Ext F μ S F' μ' S' → Rel X.K F' G μ' S' H' → kvs.length = ks.length → RepK X.K F' (List.zip (ks.map .inr) xs) kvs → Q (kvs.map fun kv => (kV kv.1, kv.2)) H') → tPairs (dspTrs X ks es) σ H Q
  | [], [], ks, xs, S, S', es', F, G, μ, H, Q, c, hl, ga, hd, R, RE, q => by
    cases ga
    cases hd
    cases ks with
    | nil => exact q [] H F μ (Ext.refl F μ S) R rfl .nil
    | cons _ _ => cases hl
  | [], _ :: _, _, _, _, _, _, _, _, _, _, _, c, _, _, _, _, _, _ => by cases c
  | _ :: _, [], _, _, _, _, _, _, _, _, _, _, c, _, _, _, _, _, _ => by cases c
  | a :: as, e :: es, [], xs, S, S', es', F, G, μ, H, Q, c, hl, ga, hd, R, RE, q => by cases hl
  | a :: as, e :: es, k :: ks, xs, S, S', es', F, G, μ, H, Q, c, hl, ga, hd, R, RE, q => by
    obtain ⟨c1, c2⟩ := and2 (show (ck a e && chkAll ck as es) = true from c)
    obtain ⟨p, g1, ga⟩ := bind_some_out (show ((g a ρ S).bind fun p => (evs g as ρ p.2).bind fun q => some (p.1 :: q.1, q.2)) = some (es', S') from ga)
    obtain ⟨q2, g2, ga⟩ := bind_some_out ga
    cases ga
    obtain ⟨px, pS⟩ := p
    obtain ⟨qx, qS⟩ := q2
    cases px with
    | r _ => cases hd
    | d x0 =>
      cases hq : asDs qx with
      | none =>
        rw [show asDs (E.d x0 :: qx) = (asDs qx).map (x0 :: ·) from rfl, hq] at hd
        cases hd
      | some ys =>
        rw [show asDs (E.d x0 :: qx) = (asDs qx).map (x0 :: ·) from rfl, hq] at hd
        cases hd
        show tC (.str k) σ H fun x H1 => sem X e σ H1 fun y H2 => tPairs (dspTrs X ks es) σ H2 fun ps H3 => Q ((x, y) :: ps) H3
        show sem X e σ H fun y H2 => tPairs (dspTrs X ks es) σ H2 fun ps H3 => Q ((.str k, y) :: ps) H3
        refine sem_mono (h a e c1 ρ S (.d x0) pS g1 F G μ σ H R RE) fun y H2 ⟨F1, μ1, e1, R1, r1⟩ => ?_
        refine dsp_run h c2 (Nat.succ.inj hl) g2 hq R1 (RE.mono e1) fun kvs H' F' μ' e2 R2 hl2 rk => ?_
        exact q ((.inr k, y) :: kvs) H' F' μ' (e1.trans e2) R2 (congrArg (· + 1) hl2) (.cons ((show RepP X.K F1 x0 y from r1).mono e2.f) rk)
theorem chkAll_len {gk : Tm → Expr → Bool} : ∀ {as : List Tm} {es : List Expr}, chkAll gk as es = true → as.length = es.length
  | [], [], _ => rfl
  | [], _ :: _, h => by cases h
  | _ :: _, [], h => by cases h
  | a :: as, e :: es, h => congrArg (· + 1) (chkAll_len (and2 (show (gk a e && chkAll gk as es) = true from h)).2)
theorem evs_len {g : Ev} : ∀ {as : List Tm} {ρ : Env} {S : Store} {p : List E × Store}, evs g as ρ S = some p → p.1.length = as.length
  | [], _, _, _, h => by
    cases h
    rfl
  | a :: as, ρ, S, p, h => by
    obtain ⟨q, g1, h⟩ := bind_some_out (show ((g a ρ S).bind fun p => (evs g as ρ p.2).bind fun q => some (p.1 :: q.1, q.2)) = some p from h)
    obtain ⟨q2, g2, h⟩ := bind_some_out h
    cases h
    exact congrArg (· + 1) (evs_len g2)
theorem asDs_len : ∀ {es : List E} {xs : List D}, asDs es = some xs → xs.length = es.length
  | [], _, h => by
    cases h
    rfl
  | .r _ :: _, _, h => by cases h
  | .d x :: r, xs, h => by
    cases hq : asDs r with
    | none =>
      rw [show asDs (E.d x :: r) = (asDs r).map (x :: ·) from rfl, hq] at h
      cases h
    | some ys =>
      rw [show asDs (E.d x :: r) = (asDs r).map (x :: ·) from rfl, hq] at h
      cases h
      exact congrArg (· + 1) (asDs_len hq)
theorem s_dsp (h : SndX X g ck) {ks : List Str} {as : List Tm} (c : ckDsp ck ks as e = true) {p : List E × Store} (ga : evs g as ρ S = some p) {xs : List D} (hd : asDs p.1 = some xs) (hc : (decide (ks.length = xs.length) && decide (ks.length ≤ 15) && !ks.isEmpty) = true) (R : Rel X.K F G μ S H) (RE : RelEnv X.K F μ S ρ σ) :
    sem X e σ H (Lift X.K F G μ S (.d (.dct (mergeD [] (List.zip (ks.map .inr) xs)))) p.2) := by
  unfold ckDsp at c
  split at c
  · rename_i keys vals pos
    obtain ⟨c1, c2⟩ := and2 c
    obtain ⟨hc, hc3⟩ := and2 hc
    obtain ⟨hc1, hc2⟩ := and2 hc
    obtain ⟨k1, k2⟩ := keysAre_facts c1
    have l1 := of_decide_eq_true hc1
    have l2 : ks.length = vals.length := by rw [l1, asDs_len hd, evs_len ga, chkAll_len c2]
    have hne : keys ≠ [] := fun z => by
      rw [z] at k1
      cases ks with
      | nil => simp at hc3
      | cons _ _ => simp at k1
    refine to_sem (pe_disp (pps_dsp c1 l2) k2 (by rw [k1, l2]) hne (by rw [k1]; exact of_decide_eq_true hc2)) fun q hq => ?_
    have gq := R.freeG hq
    refine dsp_run h c2 l2 ga hd (R.lay hq) RE fun kvs H' F' μ' e1 R1 hl rk => ?_
    have hp := R1.gr q _ upd_same
    refine ⟨hp, kvs, rfl, by rw [hl]; exact of_decide_eq_true hc2, ?_⟩
    obtain ⟨R2, eH⟩ := R1.bareK gq
    have hq0 : (fun a => if a = q then none else H' a) q = none := if_pos rfl
    have ex := Ext.shut (o := .dK (mergeK [] kvs)) (R2.free hq0) p.2 μ'
    have R3 := R2.shut (o := .dK (mergeK [] kvs)) hq0
    have eq2 : upd H' q (.dK (mergeK [] kvs)) = upd (fun a => if a = q then none else H' a) q (.dK (mergeK [] kvs)) := by
      funext a
      by_cases ha : a = q
      · subst ha
        rw [upd_same, upd_same]
      · rw [upd_ne ha, upd_ne ha, if_neg ha]
    rw [eq2]
    exact ⟨_, μ', e1.trans ex, R3, .dct upd_same ((merge_rep rk .nil).mono ex.f)⟩
  · cases c
end
end DL
end

section
set_option autoImplicit false
set_option linter.all false
/-! All expressions, by the fuel. -/
namespace DL
open PySem PySem.Spec PyProof.Rows L2
variable [TabI]

theorem chkE_head {P : Prm} {N : List Str} : ∀ {m : Nat} {sc s0 : Scope} {t : Tm} {e : Expr}, chkE P N m sc s0 t e = true → okHead e = true
  | 0, _, _, _, _, h => by cases h
  | m + 1, _, _, _, _, h => by
    unfold chkE at h
    exact (and2 h).1
def plainE : Expr → Bool
  | .UnaryOp .Not _ _ => false
  | .BoolOp _ _ _ => false
  | .IfExp _ _ _ _ => false
  | .Compare _ _ _ _ => false
  | _ => true
theorem plainTestE {e : Expr} {env : PySem.Env} (h1 : okHead e = true) (h : plainE e = true) : ∀ whole, isTrue e env whole = (do let v ← whole; standAt e.pos; holding [v] (truthy v)) := by
  intro whole
  cases e with
  | UnaryOp o a p => cases o <;> first | rfl | cases h
  | BoolOp _ _ _ => cases h
  | IfExp _ _ _ _ => cases h
  | Compare _ _ _ _ => cases h
  | _ => rfl
abbrev SndF (X : Cx) (g : Ev) (ck : Ck1) : Prop := ∀ (t : Tm) (e : Expr), isFresh t = true → ck t e = true → ∀ (ρ : Env) (S : Store) (x : E) (S' : Store), g t ρ S = some (x, S') → ∀ (F G : Hp) (μ : Nat → Addr) (σ : L2.St) (H : Hp), Rel X.K F G μ S H → RelEnv X.K F μ S ρ σ → FrX X e σ H F G μ S x S'
section
variable {P : Prm} {k : Nat} {N : List Str}
abbrev AllAt (P : Prm) (k : Nat) (N : List Str) (n : Nat) : Prop := ∀ (m : Nat) (sc s0 : Scope) (X : Cx), Good P k N sc s0 X → SndX X (ev (callD P.T k) n) (chkE P N m sc s0) ∧ SndF X (ev (callD P.T k) n) (chkE P N m sc s0) ∧ ∀ j, SndT X (ev (callD P.T k) n) (chkT (chkE P N m sc s0) j)
theorem stepF {n : Nat} (ih : AllAt P k N n) (m : Nat) (sc s0 : Scope) (X : Cx) (gd : Good P k N sc s0 X) : SndF X (ev (callD P.T k) (n + 1)) (chkE P N m sc s0) := by
  intro t e hf c ρ S x S' he F G μ σ H R RE
  cases m with
  | zero => cases c
  | succ m =>
    unfold chkE at c
    obtain ⟨c0, c⟩ := and2 c
    have h := (ih m sc s0 X gd).1
    have hk : ∀ t e, chkE P N m sc s0 t e = true → okHead e = true := fun _ _ => chkE_head
    unfold ev at he
    cases t with
    | lst as =>
      obtain ⟨p, ga, he⟩ := bind_some_out he
      obtain ⟨ds, hd, he⟩ := bind_some_out he
      obtain ⟨hz, he⟩ := ite_some he
      cases he
      exact s_lst h hk c ga hd hz R RE
    | lc elt tg ik its ifs own =>
      obtain ⟨p, ga, he⟩ := bind_some_out he
      obtain ⟨ds, hw, he⟩ := bind_some_out he
      obtain ⟨q, ht, he⟩ := bind_some_out he
      cases he
      exact s_lc gd (gk := chkE P N m) h (fun _ _ _ _ => chkE_head) (fun scope s H C cl fp => by
        have z := ih m (relS scope sc) scope _ (good_blk gd scope s H C cl fp)
        exact ⟨z.1, z.2.2 20⟩) c ga hw ht R RE
    | o2 o a b =>
      obtain ⟨p, ga, he⟩ := bind_some_out he
      obtain ⟨q, gb, he⟩ := bind_some_out he
      obtain ⟨y, dy, he⟩ := bind_some_out he
      obtain ⟨w, dw, he⟩ := bind_some_out he
      obtain ⟨z, dz, he⟩ := bind_some_out he
      cases he
      exact f_o2 gd h hf c ga gb dy dw dz R RE
    | slL a lo hi =>
      obtain ⟨p, ga, he⟩ := bind_some_out he
      obtain ⟨l, gl, he⟩ := bind_some_out he
      obtain ⟨u, gu, he⟩ := bind_some_out he
      obtain ⟨y, dy, he⟩ := bind_some_out he
      split at he
      · cases he
        exact s_slL h c ga gl gu dy (.inl rfl) R RE
      · cases he
        exact s_slL h c ga gl gu dy (.inr rfl) R RE
      · cases he
    | o1 o a =>
      obtain ⟨p, ga, he⟩ := bind_some_out he
      obtain ⟨y, dy, he⟩ := bind_some_out he
      obtain ⟨z, dz, he⟩ := bind_some_out he
      cases he
      exact f_o1 gd h hk hf c ga dy dz R RE
    | lstRg1 a =>
      obtain ⟨p, ga, he⟩ := bind_some_out he
      obtain ⟨y, dy, he⟩ := bind_some_out he
      obtain ⟨j, dj, he⟩ := bind_some_out he
      obtain ⟨hr, he⟩ := ite_some he
      cases he
      exact s_rg1 gd h hk c ga (by rw [asD_out dy, asI_out dj]) hr R RE
    | lstRg2 a b =>
      obtain ⟨p, ga, he⟩ := bind_some_out he
      obtain ⟨q, gb, he⟩ := bind_some_out he
      obtain ⟨y, dy, he⟩ := bind_some_out he
      obtain ⟨w, dw, he⟩ := bind_some_out he
      obtain ⟨i, di, he⟩ := bind_some_out he
      obtain ⟨j, dj, he⟩ := bind_some_out he
      obtain ⟨hr, he⟩ := ite_some he
      cases he
      exact s_rg2 gd h hk c ga gb (by rw [asD_out dy, asI_out di]) (by rw [asD_out dw, asI_out dj]) hr R RE
    | sortSetT a =>
      obtain ⟨p, ga, he⟩ := bind_some_out he
      obtain ⟨y, dy, he⟩ := bind_some_out he
      obtain ⟨xs, dx, he⟩ := bind_some_out he
      obtain ⟨ns, dn, he⟩ := bind_some_out he
      obtain ⟨hr, he⟩ := ite_some he
      cases he
      exact s_soS gd h hk c ga (by rw [asD_out dy, asT_out dx]) dn (of_decide_eq_true hr) R RE
    | _ => cases hf
theorem stepX {n : Nat} (ih : AllAt P k N n) (m : Nat) (sc s0 : Scope) (X : Cx) (gd : Good P k N sc s0 X) : SndX X (ev (callD P.T k) (n + 1)) (chkE P N m sc s0) := by
  intro t e c ρ S x S' he F G μ σ H R RE
  have fresh : isFresh t = true → sem X e σ H (Lift X.K F G μ S x S') := fun hf => (stepF ih m sc s0 X gd t e hf c ρ S x S' he F G μ σ H R RE).sem
  cases m with
  | zero => cases c
  | succ m =>
    unfold chkE at c
    obtain ⟨c0, c⟩ := and2 c
    obtain ⟨h, hF, hT⟩ := ih m sc s0 X gd
    have hk : ∀ t e, chkE P N m sc s0 t e = true → okHead e = true := fun _ _ => chkE_head
    unfold ev at he
    cases t with
    | var i =>
      simp only at he
      split at he
      · rename_i y hy
        cases he
        exact s_var gd c hy R RE
      · cases he
    | cst d =>
      cases he
      exact s_cst c R
    | glob y d =>
      cases he
      exact s_glob gd c R
    | o2 o a b =>
      obtain ⟨p, ga, he⟩ := bind_some_out he
      obtain ⟨q, gb, he⟩ := bind_some_out he
      obtain ⟨y, dy, he⟩ := bind_some_out he
      obtain ⟨w, dw, he⟩ := bind_some_out he
      obtain ⟨z, dz, he⟩ := bind_some_out he
      cases he
      rcases s_o2 gd h c ga gb dy dw dz R RE with ⟨_, _, _, _, _, r⟩ | r
      · exact r
      · exact r.sem
    | chain o o' a b cc =>
      obtain ⟨p, ga, he⟩ := bind_some_out he
      obtain ⟨q, gb, he⟩ := bind_some_out he
      obtain ⟨y, dy, he⟩ := bind_some_out he
      obtain ⟨w, dw, he⟩ := bind_some_out he
      obtain ⟨z, dz, he⟩ := bind_some_out he
      split at he
      · obtain ⟨r, gc, he⟩ := bind_some_out he
        obtain ⟨y', dy', he⟩ := bind_some_out he
        obtain ⟨w', dw', he⟩ := bind_some_out he
        obtain ⟨u, du, he⟩ := bind_some_out he
        cases he
        exact (s_chain gd h c ga gb dy dw dz (fun e => by cases e) (fun _ => ⟨r, y', w', u, gc, dy', dw', du, rfl, rfl⟩) R RE).sem
      · cases he
        exact (s_chain gd h c ga gb dy dw dz (fun _ => ⟨rfl, rfl⟩) (fun e => by cases e) R RE).sem
      · cases he
    | and a b =>
      obtain ⟨p, ga, he⟩ := bind_some_out he
      obtain ⟨b0, hb, he⟩ := bind_some_out he
      exact s_and h c ga hb he R RE
    | or a b =>
      obtain ⟨p, ga, he⟩ := bind_some_out he
      obtain ⟨b0, hb, he⟩ := bind_some_out he
      exact s_or h c ga hb he R RE
    | not a =>
      obtain ⟨p, ga, he⟩ := bind_some_out he
      obtain ⟨b0, hb, he⟩ := bind_some_out he
      cases he
      exact s_not h c ga hb R RE
    | ite cc a b =>
      obtain ⟨p, ga, he⟩ := bind_some_out he
      obtain ⟨b0, hb, he⟩ := bind_some_out he
      exact s_ite h (hT 20) c ga hb he R RE
    | o1 o a =>
      obtain ⟨p, ga, he⟩ := bind_some_out he
      obtain ⟨y, dy, he⟩ := bind_some_out he
      obtain ⟨z, dz, he⟩ := bind_some_out he
      cases he
      exact s_o1 gd h hk c ga dy dz R RE
    | max2 a b =>
      obtain ⟨p, ga, he⟩ := bind_some_out he
      obtain ⟨q, gb, he⟩ := bind_some_out he
      obtain ⟨y, dy, he⟩ := bind_some_out he
      obtain ⟨w, dw, he⟩ := bind_some_out he
      obtain ⟨i, di, he⟩ := bind_some_out he
      obtain ⟨j, dj, he⟩ := bind_some_out he
      cases he
      exact s_m2 gd h hk (.inl rfl) c ga gb (by rw [asD_out dy, asI_out di]) (by rw [asD_out dw, asI_out dj]) ⟨fun _ => rfl, fun z => absurd z (by decide)⟩ R RE
    | min2 a b =>
      obtain ⟨p, ga, he⟩ := bind_some_out he
      obtain ⟨q, gb, he⟩ := bind_some_out he
      obtain ⟨y, dy, he⟩ := bind_some_out he
      obtain ⟨w, dw, he⟩ := bind_some_out he
      obtain ⟨i, di, he⟩ := bind_some_out he
      obtain ⟨j, dj, he⟩ := bind_some_out he
      cases he
      exact s_m2 gd h hk (.inr rfl) c ga gb (by rw [asD_out dy, asI_out di]) (by rw [asD_out dw, asI_out dj]) ⟨fun z => absurd z (by decide), fun _ => rfl⟩ R RE
    | isa ty a =>
      obtain ⟨p, ga, he⟩ := bind_some_out he
      obtain ⟨y, dy, he⟩ := bind_some_out he
      cases he
      exact s_isa gd h hk c ga (by rw [asD_out dy]; rfl) R RE
    | isN a =>
      obtain ⟨p, ga, he⟩ := bind_some_out he
      cases he
      exact (s_isN h c ga R RE).sem
    | notN a =>
      obtain ⟨p, ga, he⟩ := bind_some_out he
      cases he
      exact (s_notN h c ga R RE).sem
    | isB b a =>
      obtain ⟨p, ga, he⟩ := bind_some_out he
      obtain ⟨b0, hb, he⟩ := bind_some_out he
      cases he
      exact (s_isB h c ga (isTrueD_out hb) R RE).sem
    | notB b a =>
      obtain ⟨p, ga, he⟩ := bind_some_out he
      obtain ⟨b0, hb, he⟩ := bind_some_out he
      cases he
      exact (s_notB h c ga (isTrueD_out hb) R RE).sem
    | call f as =>
      obtain ⟨p, ga, he⟩ := bind_some_out he
      exact s_call gd h hk c ga he R RE
    | callK f as =>
      obtain ⟨p, ga, he⟩ := bind_some_out he
      exact s_callK gd h c ga he R RE
    | tup as =>
      obtain ⟨p, ga, he⟩ := bind_some_out he
      obtain ⟨ds, hd, he⟩ := bind_some_out he
      obtain ⟨hz, he⟩ := ite_some he
      cases he
      exact s_tup h hk c ga hd hz R RE
    | lst as => exact fresh rfl
    | idxL a b =>
      obtain ⟨p, ga, he⟩ := bind_some_out he
      obtain ⟨q, gb, he⟩ := bind_some_out he
      obtain ⟨y, dy, he⟩ := bind_some_out he
      obtain ⟨w, dw, he⟩ := bind_some_out he
      obtain ⟨i, di, he⟩ := bind_some_out he
      split at he
      · obtain ⟨z, dz, he⟩ := bind_some_out he
        cases he
        exact s_idxL h hk c ga gb dy (by rw [asD_out dw, asI_out di]) ⟨_, .inl rfl, dz⟩ R RE
      · obtain ⟨z, dz, he⟩ := bind_some_out he
        cases he
        exact s_idxL h hk c ga gb dy (by rw [asD_out dw, asI_out di]) ⟨_, .inr rfl, dz⟩ R RE
      · cases he
    | idxT a b =>
      obtain ⟨p, ga, he⟩ := bind_some_out he
      obtain ⟨q, gb, he⟩ := bind_some_out he
      obtain ⟨y, dy, he⟩ := bind_some_out he
      obtain ⟨w, dw, he⟩ := bind_some_out he
      obtain ⟨i, di, he⟩ := bind_some_out he
      split at he
      · obtain ⟨z, dz, he⟩ := bind_some_out he
        cases he
        exact s_idxT h hk c ga gb (asD_out dy) (by rw [asD_out dw, asI_out di]) dz R RE
      · cases he
    | slL a lo hi => exact fresh rfl
    | slT a lo hi =>
      obtain ⟨p, ga, he⟩ := bind_some_out he
      obtain ⟨l, gl, he⟩ := bind_some_out he
      obtain ⟨u, gu, he⟩ := bind_some_out he
      obtain ⟨y, dy, he⟩ := bind_some_out he
      split at he
      · cases he
        exact s_slT h c ga gl gu (asD_out dy) R RE
      · cases he
    | lc elt tg ik its ifs own => exact fresh rfl
    | app a b =>
      obtain ⟨p, ga, he⟩ := bind_some_out he
      obtain ⟨y0, d0, he⟩ := bind_some_out he
      obtain ⟨q, gb, he⟩ := bind_some_out he
      obtain ⟨y, dy, he⟩ := bind_some_out he
      split at he
      · rename_i mm hm
        split at he
        · rename_i xs hx
          split at he
          · rename_i hl
            cases he
            exact s_app h hk c ga d0 gb hm (asD_out dy) hx hl R RE
          · cases he
        · cases he
      · cases he
    | ext a b =>
      obtain ⟨p, ga, he⟩ := bind_some_out he
      obtain ⟨y0, d0, he⟩ := bind_some_out he
      obtain ⟨q, gb, he⟩ := bind_some_out he
      obtain ⟨y, dy, he⟩ := bind_some_out he
      split at he
      · rename_i mm ys hm
        split at he
        · rename_i xs hx
          split at he
          · rename_i hl
            cases he
            exact s_ext h hk c ga d0 gb hm (asD_out dy) hx hl R RE
          · cases he
        · cases he
      · cases he
    | popAt a b =>
      obtain ⟨p, ga, he⟩ := bind_some_out he
      obtain ⟨y0, d0, he⟩ := bind_some_out he
      obtain ⟨q, gb, he⟩ := bind_some_out he
      obtain ⟨y, dy, he⟩ := bind_some_out he
      obtain ⟨i, di, he⟩ := bind_some_out he
      split at he
      · rename_i mm hm
        split at he
        · rename_i xs hx
          split at he
          · rename_i hl
            obtain ⟨z, hz, he⟩ := bind_some_out he
            cases he
            exact s_popAt h hk c ga d0 gb hm (by rw [asD_out dy, asI_out di]) hx hl hz R RE
          · cases he
        · cases he
      · cases he
    | new a =>
      obtain ⟨c1, c2⟩ := and2 c
      obtain ⟨p, ga, he⟩ := bind_some_out he
      split at he
      · rename_i xs hp
        cases he
        have z := hF a e c1 c2 ρ S p.1 p.2 ga F G μ σ H R RE
        rw [hp] at z
        exact z.open_
      · cases he
    | lstRg1 a => exact fresh rfl
    | lstRg2 a b => exact fresh rfl
    | sortSetT a => exact fresh rfl
    | tupZip a b =>
      obtain ⟨p, ga, he⟩ := bind_some_out he
      obtain ⟨q, gb, he⟩ := bind_some_out he
      obtain ⟨y, dy, he⟩ := bind_some_out he
      obtain ⟨w, dw, he⟩ := bind_some_out he
      obtain ⟨xs, dx, he⟩ := bind_some_out he
      obtain ⟨ys, dys, he⟩ := bind_some_out he
      obtain ⟨hr, he⟩ := ite_some he
      cases he
      exact s_tupZ gd h hk c ga gb (by rw [asD_out dy, asT_out dx]) (by rw [asD_out dw, asT_out dys]) (of_decide_eq_true hr) R RE
    | dictL a =>
      obtain ⟨p, ga, he⟩ := bind_some_out he
      obtain ⟨y, dy, he⟩ := bind_some_out he
      obtain ⟨xs, dx, he⟩ := bind_some_out he
      obtain ⟨kvs, dk, he⟩ := bind_some_out he
      cases he
      exact s_dictL gd h hk c ga (by rw [asD_out dy, asL_out dx]) dk R RE
    | idxD a b =>
      obtain ⟨p, ga, he⟩ := bind_some_out he
      obtain ⟨q, gb, he⟩ := bind_some_out he
      obtain ⟨y, dy, he⟩ := bind_some_out he
      obtain ⟨w, dw, he⟩ := bind_some_out he
      obtain ⟨ky, dk, he⟩ := bind_some_out he
      split at he
      · obtain ⟨z, dz, he⟩ := bind_some_out he
        cases he
        exact s_idxD gd h hk c ga gb (asD_out dy) (asD_out dw) dk dz R RE
      · cases he
    | srt a v =>
      obtain ⟨p, ga, he⟩ := bind_some_out he
      obtain ⟨y, dy, he⟩ := bind_some_out he
      obtain ⟨i, di, he⟩ := bind_some_out he
      split at he
      · rename_i xs hx
        obtain ⟨hr, he⟩ := ite_some he
        cases he
        exact s_srt gd h hk c ga (by rw [asD_out dy, asI_out di]) hx hr R RE
      · cases he
    | revT a =>
      obtain ⟨p, ga, he⟩ := bind_some_out he
      obtain ⟨y, dy, he⟩ := bind_some_out he
      obtain ⟨xs, dx, he⟩ := bind_some_out he
      cases he
      exact s_revT h c ga (by rw [asD_out dy, asT_out dx]) R RE
    | lenT a =>
      obtain ⟨p, ga, he⟩ := bind_some_out he
      obtain ⟨y, dy, he⟩ := bind_some_out he
      obtain ⟨xs, dx, he⟩ := bind_some_out he
      obtain ⟨ns, dn, he⟩ := bind_some_out he
      obtain ⟨hr, he⟩ := ite_some he
      cases he
      exact s_lenT gd h hk c ga (by rw [asD_out dy, asT_out dx]) dn (of_decide_eq_true hr) R RE
    | lenL a =>
      obtain ⟨p, ga, he⟩ := bind_some_out he
      obtain ⟨y, dy, he⟩ := bind_some_out he
      obtain ⟨xs, dx, he⟩ := bind_some_out he
      obtain ⟨ns, dn, he⟩ := bind_some_out he
      obtain ⟨hr, he⟩ := ite_some he
      cases he
      exact s_lenL gd h hk c ga (by rw [asD_out dy, asL_out dx]) dn (of_decide_eq_true hr) R RE
    | dnew =>
      cases he
      exact s_dnew c R
    | dsp ks as =>
      obtain ⟨p, ga, he⟩ := bind_some_out he
      obtain ⟨xs, dx, he⟩ := bind_some_out he
      obtain ⟨hr, he⟩ := ite_some he
      cases he
      exact s_dsp h c ga dx hr R RE
    | dead => cases he
/-- a comparison, both ways -/
theorem stepB {n : Nat} (ih : AllAt P k N n) (m : Nat) (sc s0 : Scope) (X : Cx) (gd : Good P k N sc s0 X) {t : Tm} {e : Expr} (c : chkE P N m sc s0 t e = true) {a0 : Expr} {ops : List CmpOp} {es : List Expr} {pos : Pos} (hc : e = .Compare a0 ops es pos) {ρ : Env} {S : Store} {b : Bool} {S' : Store} (he : ev (callD P.T k) (n + 1) t ρ S = some (.d (.bl b), S'))
    {F G : Hp} {μ : Nat → Addr} {σ : L2.St} {H : Hp} (R : Rel X.K F G μ S H) (RE : RelEnv X.K F μ S ρ σ) : Both X e σ H (Lift X.K F G μ S (.d (.bl b)) S') := by
  subst hc
  cases m with
  | zero => cases c
  | succ m =>
    unfold chkE at c
    obtain ⟨c0, c⟩ := and2 c
    obtain ⟨h, hF, hT⟩ := ih m sc s0 X gd
    unfold ev at he
    cases t with
    | o2 o a b =>
      obtain ⟨p, ga, he⟩ := bind_some_out he
      obtain ⟨q, gb, he⟩ := bind_some_out he
      obtain ⟨y, dy, he⟩ := bind_some_out he
      obtain ⟨w, dw, he⟩ := bind_some_out he
      obtain ⟨z, dz, he⟩ := bind_some_out he
      cases he
      rcases s_o2 gd h c ga gb dy dw dz R RE with ⟨_, _, _, _, e1, r⟩ | r
      · cases e1
      · exact r
    | chain o o' a b cc =>
      obtain ⟨p, ga, he⟩ := bind_some_out he
      obtain ⟨q, gb, he⟩ := bind_some_out he
      obtain ⟨y, dy, he⟩ := bind_some_out he
      obtain ⟨w, dw, he⟩ := bind_some_out he
      obtain ⟨z, dz, he⟩ := bind_some_out he
      split at he
      · obtain ⟨r, gc, he⟩ := bind_some_out he
        obtain ⟨y', dy', he⟩ := bind_some_out he
        obtain ⟨w', dw', he⟩ := bind_some_out he
        obtain ⟨u, du, he⟩ := bind_some_out he
        cases he
        exact s_chain gd h c ga gb dy dw dz (fun e => by cases e) (fun _ => ⟨r, y', w', _, gc, dy', dw', du, rfl, rfl⟩) R RE
      · cases he
        exact s_chain gd h c ga gb dy dw dz (fun _ => ⟨rfl, rfl⟩) (fun e => by cases e) R RE
      · cases he
    | isN a =>
      obtain ⟨p, ga, he⟩ := bind_some_out he
      cases he
      exact s_isN h c ga R RE
    | notN a =>
      obtain ⟨p, ga, he⟩ := bind_some_out he
      cases he
      exact s_notN h c ga R RE
    | isB b a =>
      obtain ⟨p, ga, he⟩ := bind_some_out he
      obtain ⟨b0, hb, he⟩ := bind_some_out he
      cases he
      exact s_isB h c ga (isTrueD_out hb) R RE
    | notB b a =>
      obtain ⟨p, ga, he⟩ := bind_some_out he
      obtain ⟨b0, hb, he⟩ := bind_some_out he
      cases he
      exact s_notB h c ga (isTrueD_out hb) R RE
    | new a =>
      obtain ⟨p, ga, he⟩ := bind_some_out he
      split at he
      · cases he
      · cases he
    | dead => cases he
    | _ => cases c
theorem stepT {n : Nat} (ih : AllAt P k N n) (m : Nat) (sc s0 : Scope) (X : Cx) (gd : Good P k N sc s0 X) (j : Nat) : SndT X (ev (callD P.T k) (n + 1)) (chkT (chkE P N m sc s0) j) := by
  intro t e c ρ S x S' b he hb F G μ σ H R RE
  have sub := fun j => (ih m sc s0 X gd).2.2 j
  unfold chkT at c
  split at c
  · cases c
  · rename_i jj a b2 ea eb es pos
    obtain ⟨c1, c2⟩ := and2 c
    unfold ev at he
    obtain ⟨p, ga, he⟩ := bind_some_out he
    obtain ⟨b0, h0, he⟩ := bind_some_out he
    have rest : ∃ u : TT, PW X (.BoolOp .And (eb :: es) pos) u ∧ ∀ (F1 : Hp) (μ1 : Nat → Addr) (H1 : Hp), b0 = true → Ext F μ S F1 μ1 p.2 → Rel X.K F1 G μ1 p.2 H1 → u σ H1 (LT X.K F G μ S b S') := by
      cases es with
      | nil => exact ⟨semT X eb, pw_and1 pt_sem, fun F1 μ1 H1 e0 e1 R1 => by
          subst e0
          exact semT_mono (sub jj b2 eb c2 ρ p.2 x S' b he hb F1 G μ1 σ H1 R1 (RE.mono e1)).1 fun v H2 ⟨e2, F2, μ2, e3, R2⟩ => ⟨e2, F2, μ2, e1.trans e3, R2⟩⟩
      | cons ec es => exact ⟨semW X (.BoolOp .And (eb :: ec :: es) pos), pw_sem, fun F1 μ1 H1 e0 e1 R1 => by
          subst e0
          exact semW_mono ((sub jj b2 (.BoolOp .And (eb :: ec :: es) pos) c2 ρ p.2 x S' b he hb F1 G μ1 σ H1 R1 (RE.mono e1)).2 rfl) fun v H2 ⟨e2, F2, μ2, e3, R2⟩ => ⟨e2, F2, μ2, e1.trans e3, R2⟩⟩
    obtain ⟨u, pu, su⟩ := rest
    have main : tAnd (semT X ea) u σ H (LT X.K F G μ S b S') := by
      refine semT_mono (sub jj a ea c1 ρ S p.1 p.2 b0 ga h0 F G μ σ H R RE).1 fun v H1 ⟨ev, F1, μ1, e1, R1⟩ => ?_
      subst ev
      cases v with
      | true => exact su F1 μ1 H1 rfl e1 R1
      | false =>
        cases he
        cases hb
        exact ⟨rfl, F1, μ1, e1, R1⟩
    exact ⟨to_semT (pw_and pt_sem pu).pt main, fun _ => to_semW (pw_and pt_sem pu) main⟩
  · rename_i jj a b2 ea eb es pos
    obtain ⟨c1, c2⟩ := and2 c
    unfold ev at he
    obtain ⟨p, ga, he⟩ := bind_some_out he
    obtain ⟨b0, h0, he⟩ := bind_some_out he
    have rest : ∃ u : TT, PW X (.BoolOp .Or (eb :: es) pos) u ∧ ∀ (F1 : Hp) (μ1 : Nat → Addr) (H1 : Hp), b0 = false → Ext F μ S F1 μ1 p.2 → Rel X.K F1 G μ1 p.2 H1 → u σ H1 (LT X.K F G μ S b S') := by
      cases es with
      | nil => exact ⟨semT X eb, pw_or1 pt_sem, fun F1 μ1 H1 e0 e1 R1 => by
          subst e0
          exact semT_mono (sub jj b2 eb c2 ρ p.2 x S' b he hb F1 G μ1 σ H1 R1 (RE.mono e1)).1 fun v H2 ⟨e2, F2, μ2, e3, R2⟩ => ⟨e2, F2, μ2, e1.trans e3, R2⟩⟩
      | cons ec es => exact ⟨semW X (.BoolOp .Or (eb :: ec :: es) pos), pw_sem, fun F1 μ1 H1 e0 e1 R1 => by
          subst e0
          exact semW_mono ((sub jj b2 (.BoolOp .Or (eb :: ec :: es) pos) c2 ρ p.2 x S' b he hb F1 G μ1 σ H1 R1 (RE.mono e1)).2 rfl) fun v H2 ⟨e2, F2, μ2, e3, R2⟩ => ⟨e2, F2, μ2, e1.trans e3, R2⟩⟩
    obtain ⟨u, pu, su⟩ := rest
    have main : tOr (semT X ea) u σ H (LT X.K F G μ S b S') := by
      refine semT_mono (sub jj a ea c1 ρ S p.1 p.2 b0 ga h0 F G μ σ H R RE).1 fun v H1 ⟨ev, F1, μ1, e1, R1⟩ => ?_
      subst ev
      cases v with
      | false => exact su F1 μ1 H1 rfl e1 R1
      | true =>
        cases he
        cases hb
        exact ⟨rfl, F1, μ1, e1, R1⟩
    exact ⟨to_semT (pw_or pt_sem pu).pt main, fun _ => to_semW (pw_or pt_sem pu) main⟩
  · rename_i jj a ea pos
    unfold ev at he
    obtain ⟨p, ga, he⟩ := bind_some_out he
    obtain ⟨b0, h0, he⟩ := bind_some_out he
    cases he
    cases hb
    refine ⟨to_semT (pt_not pt_sem) ?_, fun z => by cases z⟩
    exact semT_mono (sub jj a ea c ρ S p.1 p.2 b0 ga h0 F G μ σ H R RE).1 fun v H1 ⟨ev, F1, μ1, e1, R1⟩ => ⟨by rw [ev], F1, μ1, e1, R1⟩
  · cases c
  · cases c
  · cases c
  · rename_i n1 n2 n3 n4 n5 n6
    have ex := isTrueD_out hb
    subst ex
    have hv := stepX ih m sc s0 X gd t e c ρ S _ S' he F G μ σ H R RE
    have hok := chkE_head c
    have fin : ∀ v H', Lift X.K F G μ S (.d (.bl b)) S' v H' → ∃ c, v = .bl c ∧ LT X.K F G μ S b S' c H' := fun v H' ⟨F1, μ1, e1, R1, r1⟩ => by
      cases (show RepP X.K F1 (.bl b) v from r1)
      exact ⟨b, rfl, rfl, F1, μ1, e1, R1⟩
    have plain : plainE e = true → isBop e = false → semT X e σ H (LT X.K F G μ S b S') ∧ (isBop e = true → semW X e σ H (LT X.K F G μ S b S')) := fun hp hn =>
      ⟨to_semT (pt_val pe_sem (plainTestE hok hp)) (sem_mono hv fin), fun z => by rw [hn] at z; cases z⟩
    cases e with
    | Compare a0 ops es pos => exact ⟨(stepB ih m sc s0 X gd c rfl he R RE).test fin, fun z => by cases z⟩
    | BoolOp op es pos => exact (n1 _ _ _ rfl).elim
    | IfExp _ _ _ _ => exact (n2 _ _ _ _ rfl).elim
    | UnaryOp o a p => cases o with
      | Not => exact (n3 _ _ rfl).elim
      | _ => exact plain rfl rfl
    | _ => exact plain rfl rfl
theorem all_at : ∀ n, AllAt P k N n
  | 0 => fun m sc s0 X gd => ⟨fun t e c ρ S x S' he => (nomatch he), fun t e hf c ρ S x S' he => (nomatch he), fun j t e c ρ S x S' b he => (nomatch he)⟩
  | n + 1 => fun m sc s0 X gd => ⟨stepX (all_at n) m sc s0 X gd, stepF (all_at n) m sc s0 X gd, stepT (all_at n) m sc s0 X gd⟩
end
end DL
end

section
set_option autoImplicit false
set_option linter.all false
/-! Statements. -/
namespace DL
open PySem PySem.Spec PyProof.Rows L2
variable [TabI]

/-- what the tongue says of a statement's end is what is wanted -/
def Got (K : PySem.W.Frag) (F G : Hp) (μ : Nat → Addr) (S : Store) (o : Out) (S' : Store) (D : Ends) : Prop := match o with
  | .nx ρ1 => ∀ F' μ' σ' H', Ext F μ S F' μ' S' → Rel K F' G μ' S' H' → RelEnv K F' μ' S' ρ1 σ' → D.nx σ' H'
  | .ret x => ∀ v H', Lift K F G μ S x S' v H' → D.rt v H'
theorem Got.trans {K : PySem.W.Frag} {F F1 G : Hp} {μ μ1 : Nat → Addr} {S S1 S' : Store} {o : Out} {D : Ends} (e : Ext F μ S F1 μ1 S1) (h : Got K F G μ S o S' D) : Got K F1 G μ1 S1 o S' D := by
  cases o with
  | nx ρ1 => exact fun F' μ' σ' H' e2 R RE => h F' μ' σ' H' (e.trans e2) R RE
  | ret x => exact fun v H' l => h v H' (l.trans e)
abbrev SndS (X : Cx) (g : Ex) (ck : CkS) : Prop := ∀ (s : Stm) (st : Stmt), ck s st = true → ∀ (ρ : Env) (S : Store) (o : Out) (S' : Store), g s ρ S = some (o, S') → ∀ (F G : Hp) (μ : Nat → Addr) (σ : L2.St) (H : Hp), Rel X.K F G μ S H → RelEnv X.K F μ S ρ σ → ∀ D : Ends, Got X.K F G μ S o S' D → semS X st D σ H
/-- a frz only closes a list -/
abbrev FrzOk (g : Ex) : Prop := ∀ (i : Nat) (ρ : Env) (S : Store) (p : Out × Store), g (.frz i) ρ S = some p → ∃ m xs, ρ[i]? = some (some (.r m)) ∧ S[m]? = some (some xs) ∧ p = (.nx (ρ.set i (some (.d (.lst xs)))), S.set m none)
theorem frzOk {C : Call} : ∀ n, FrzOk (ex C n)
  | 0, _, _, _, _, h => by cases h
  | n + 1, i, ρ, S, p, h => by
    unfold ex at h
    simp only at h
    split at h
    · rename_i m hm
      split at h
      · rename_i xs hx
        cases h
        exact ⟨m, xs, hm, hx, rfl⟩
      · cases h
    · cases h
theorem set_self {α : Type} : ∀ {l : List α} {i : Nat} {x : α}, l[i]? = some x → l.set i x = l
  | [], _, _, h => by simp at h
  | a :: l, 0, x, h => by
    simp at h
    rw [h]
    rfl
  | a :: l, i + 1, x, h => by
    have h' : l[i]? = some x := by simpa using h
    rw [List.set_cons_succ, set_self h']
/-- two statements at once -/
abbrev SndG (X : Cx) (g : Ex) (ck : Stm → Stmt → Stmt → Bool) : Prop := ∀ (s : Stm) (st st2 : Stmt), ck s st st2 = true → ∀ (ρ : Env) (S : Store) (o : Out) (S' : Store), g s ρ S = some (o, S') → ∀ (F G : Hp) (μ : Nat → Addr) (σ : L2.St) (H : Hp), Rel X.K F G μ S H → RelEnv X.K F μ S ρ σ → ∃ ρ1, o = .nx ρ1 ∧
  ∀ (es : List Stmt) (D : Ends), (∀ F' μ' σ' H', Ext F μ S F' μ' S' → Rel X.K F' G μ' S' H' → RelEnv X.K F' μ' S' ρ1 σ' → semSs X es D σ' H') → semSs X (st :: st2 :: es) D σ H
section
variable {X : Cx} {P : Prm} {k : Nat} {N : List Str} {sc : Scope} {e : Expr} {g : Ex} {ck : CkS} {ck2 : Stm → Stmt → Stmt → Bool}
theorem sndL (h : SndS X g ck) (h2 : SndG X g ck2) (hf : FrzOk g) : ∀ (ss : List Stm) (es : List Stmt), chkL ck ck2 ss es = true → ∀ (ρ : Env) (S : Store) (o : Out) (S' : Store), exs g ss ρ S = some (o, S') → ∀ (F G : Hp) (μ : Nat → Addr) (σ : L2.St) (H : Hp), Rel X.K F G μ S H → RelEnv X.K F μ S ρ σ → ∀ D : Ends, Got X.K F G μ S o S' D → semSs X es D σ H := by
  intro ss
  induction ss with
  | nil =>
    intro es c ρ S o S' he F G μ σ H R RE D q
    cases es with
    | nil =>
      cases he
      exact to_semSs pss_nil (q F μ σ H (Ext.refl _ _ _) R RE)
    | cons _ _ => cases c
  | cons s ss ih =>
    intro es c ρ S o S' he F G μ σ H R RE D q
    obtain ⟨p, hp, he⟩ := bind_some_out (a := g s ρ S) he
    have frz : ∀ i, s = .frz i → semSs X es D σ H := fun i ei => by
      subst ei
      obtain ⟨m, xs, h1, h2, rfl⟩ := hf i ρ S p hp
      obtain ⟨F', e1, R1, r1⟩ := R.frz h2
      obtain ⟨v, hv, rv⟩ := RE.at_ i _ h1
      have RE1 : RelEnv X.K F' μ (S.set m none) (ρ.set i (some (.d (.lst xs)))) σ := by
        have z := (RE.mono e1).set (x := .d (.lst xs)) (v := v) (by rw [rv.2]; exact r1) i
        rw [set_self hv] at z
        exact z
      exact ih es c _ _ o S' he F' G μ σ H R1 RE1 D (q.trans e1)
    have grid : ∀ i a v, s = .grid i a v → semSs X es D σ H := fun i a v ei => by
      subst ei
      match es, c with
      | e1 :: e2 :: es, c =>
        obtain ⟨c1, c2⟩ := and2 c
        obtain ⟨ρ1, ho, hq⟩ := h2 _ e1 e2 c1 ρ S p.1 p.2 hp F G μ σ H R RE
        obtain ⟨p1, p2⟩ := p
        cases (show p1 = _ from ho)
        exact hq es D fun F' μ' σ' H' e1 R1 RE1 => ih es c2 ρ1 p2 o S' he F' G μ' σ' H' R1 RE1 D (q.trans e1)
      | [], c => cases c
      | [_], c => cases c
    have norm : (∀ i, s ≠ .frz i) → (∀ i a v, s ≠ .grid i a v) → semSs X es D σ H := fun hn hn2 => by
      cases es with
      | nil => cases s <;> first | (cases c; done) | exact absurd rfl (hn _) | exact absurd rfl (hn2 _ _ _)
      | cons e es =>
        have c' : ck s e = true ∧ chkL ck ck2 ss es = true := by
          cases s <;> first | exact absurd rfl (hn _) | exact absurd rfl (hn2 _ _ _) | exact and2 c
        refine to_semSs (pss_cons ps_sem pss_sem) ?_
        refine h s e c'.1 ρ S p.1 p.2 hp F G μ σ H R RE _ ?_
        obtain ⟨p1, p2⟩ := p
        cases p1 with
        | nx ρ1 => exact fun F' μ' σ' H' e1 R1 RE1 => ih es c'.2 ρ1 p2 o S' he F' G μ' σ' H' R1 RE1 D (q.trans e1)
        | ret x =>
          cases he
          exact q
    cases s with
    | frz i => exact frz i rfl
    | grid i a v => exact grid i a v rfl
    | _ => exact norm (fun i z => by cases z) fun i a v z => by cases z
/-- a comprehension stored under a local name -/
theorem lcAsg (gd : Good P k N sc sc X) {n m : Nat} {t : Tm} {elt : Expr} {gs : List Comprehension} {scope : Scope} {pos : Pos} (c : chkE P N m sc sc t (.ListComp elt gs scope pos) = true) {ρ : Env} {S : Store} {x : E} {S' : Store} (he : ev (callD P.T k) n t ρ S = some (x, S'))
    {F G : Hp} {μ : Nat → Addr} {σ : L2.St} {H : Hp} (R : Rel X.K F G μ S H) (RE : RelEnv X.K F μ S ρ σ) : LcR X (.ListComp elt gs scope pos) σ H (Lift X.K F G μ S x S') := by
  have lcs : ∀ {n m : Nat} {el : Tm} {tg : Tg} {ik : IK} {its ifs : List Tm} {own : List Nat}, chkE P N m sc sc (.lc el tg ik its ifs own) (.ListComp elt gs scope pos) = true → ∀ {x : E} {S' : Store}, ev (callD P.T k) n (.lc el tg ik its ifs own) ρ S = some (x, S') → ∃ xs, x = .d (.lst xs) ∧ LcR X (.ListComp elt gs scope pos) σ H (LiftN X.K F G μ S xs S') := by
    intro n m el tg ik its ifs own c x S' he
    cases n with
    | zero => cases he
    | succ n =>
      cases m with
      | zero => cases c
      | succ m =>
        unfold chkE at c
        obtain ⟨c0, c⟩ := and2 c
        unfold ev at he
        obtain ⟨p, ga, he⟩ := bind_some_out he
        obtain ⟨ds, hw, he⟩ := bind_some_out he
        obtain ⟨q, ht, he⟩ := bind_some_out he
        cases he
        exact ⟨_, rfl, t_lc gd (gk := chkE P N m) (all_at n m sc sc X gd).1 (fun _ _ _ _ => chkE_head) (fun scope s H C cl fp => by
          have z := all_at (P := P) (k := k) (N := N) n m (relS scope sc) scope _ (good_blk gd scope s H C cl fp)
          exact ⟨z.1, z.2.2 20⟩) c ga hw ht R RE⟩
  cases m with
  | zero => cases c
  | succ m =>
    have c' := c
    unfold chkE at c'
    obtain ⟨c0, c'⟩ := and2 c'
    cases t with
    | lc el tg ik its ifs own =>
      obtain ⟨xs, rfl, r⟩ := lcs c he
      exact r.mono fun v H' l => l.lift
    | new a =>
      obtain ⟨c1, c2⟩ := and2 c'
      cases n with
      | zero => cases he
      | succ n =>
        unfold ev at he
        obtain ⟨p, ga, he⟩ := bind_some_out he
        have al : ∃ el tg ik its ifs own, a = .lc el tg ik its ifs own := by
          cases m with
          | zero => cases c2
          | succ m =>
            unfold chkE at c2
            obtain ⟨_, c3⟩ := and2 c2
            cases a <;> first | exact ⟨_, _, _, _, _, _, rfl⟩ | (cases c1; done) | (cases c3; done)
        obtain ⟨el, tg, ik, its, ifs, own, rfl⟩ := al
        obtain ⟨p1, p2⟩ := p
        obtain ⟨xs, rfl, r⟩ := lcs c2 ga
        cases he
        exact r.mono fun v H' l => l.open_
    | dead =>
      cases n with
      | zero => cases he
      | succ n => cases he
    | _ => cases c'
theorem swaps_lc {elt : Expr} {gs : List Comprehension} {scope : Scope} {pos : Pos} {tg : Expr} {l : Nat} {env : PySem.Env} : ∃ b, swapsWith (.ListComp elt gs scope pos) (some tg) l env = pure b := by
  unfold swapsWith
  cases tg <;> exact ⟨_, rfl⟩
theorem asg_LcR (gd : Good P k N sc sc X) {i : Nat} {x : Str} {px pos : Pos} {ve : Expr} {σ : L2.St} {H : Hp} {L : VK} (c1 : N[i]? = some x) (c2 : stoC sc sc x = true) (r : LcR X ve σ H L) (D : Ends) (q : ∀ v H', L v H' → D.nx (σ.set i (some v)) H') : semS X (.Assign [.Name x px] ve pos) D σ H := by
  obtain ⟨l1, l2⟩ := loc_of (sto_of gd) c2
  have hN : X.N.Nodup := by
    rw [gd.hN]
    exact gd.nd
  have hi : X.N[i]? = some x := by
    rw [gd.hN]
    exact c1
  by_cases hs : swapsWith ve (some (.Name x px)) pos.line X.env = pure false
  · exact to_semS (ps_set hN hi l1 pe_sem hs l2) (sem_mono (r.sem gd.calm hN) q)
  · obtain ⟨elt, tg, it, ifs, scope, own, p2, wi, gg, tt, te, rfl, h1, h2, h3, h4, h5, h6, h7⟩ := r.out
    obtain ⟨b, hb⟩ := swaps_lc (elt := elt) (gs := [⟨tg, it, ifs, 0⟩]) (scope := scope) (pos := p2) (tg := .Name x px) (l := pos.line) (env := X.env)
    cases b with
    | false => exact absurd hb hs
    | true =>
      have hloc : X.env.scope.names.lookup x = some .local := by
        have hk : (X.env.blockKind == .function && X.env.kindOf x == some .local && px.line == p2.line && !(scope.names.any fun (n, k) => n == x && (k == .local || k == .cell))) = true := by
          have z : (pure (X.env.blockKind == .function && X.env.kindOf x == some .local && px.line == p2.line && !(scope.names.any fun (n, k) => n == x && (k == .local || k == .cell))) : Sem Bool) = pure true := hb
          cases w : (X.env.blockKind == .function && X.env.kindOf x == some .local && px.line == p2.line && !(scope.names.any fun (n, k) => n == x && (k == .local || k == .cell))) with
          | true => rfl
          | false =>
            rw [w] at z
            exact absurd (show swapsWith (.ListComp elt [⟨tg, it, ifs, 0⟩] scope p2) (some (.Name x px)) pos.line X.env = pure false from by
              rw [hb, ← z]) hs
        obtain ⟨hk, _⟩ := and2 hk
        obtain ⟨hk, _⟩ := and2 hk
        obtain ⟨_, hk⟩ := and2 hk
        exact eq_of_beq hk
      exact to_semS (ps_setLc gd.calm hN hi hloc hb h1 h2 h3 h4 h5 h6) (h7 _ q)
theorem st_asg (gd : Good P k N sc sc X) {i : Nat} {x : Str} {px pos : Pos} {t : Tm} {ve : Expr} {m n : Nat} (c1 : N[i]? = some x) (c2 : stoC sc sc x = true) (c3 : chkE P N m sc sc t ve = true) {ρ : Env} {S : Store} {y : E} {S' : Store} (he : ev (callD P.T k) n t ρ S = some (y, S'))
    {F G : Hp} {μ : Nat → Addr} {σ : L2.St} {H : Hp} (R : Rel X.K F G μ S H) (RE : RelEnv X.K F μ S ρ σ) (D : Ends) (q : Got X.K F G μ S (.nx (ρ.set i (some y))) S' D) : semS X (.Assign [.Name x px] ve pos) D σ H := by
  obtain ⟨l1, l2⟩ := loc_of (sto_of gd) c2
  have hN : X.N.Nodup := by
    rw [gd.hN]
    exact gd.nd
  have hi : X.N[i]? = some x := by
    rw [gd.hN]
    exact c1
  have fin : ∀ v H', Lift X.K F G μ S y S' v H' → gName i v σ H' D.nx := fun v H' ⟨F1, μ1, e1, R1, r1⟩ => q F1 μ1 _ H' e1 R1 ((RE.mono e1).set r1 i)
  by_cases hs : swapsWith ve (some (.Name x px)) pos.line X.env = pure false
  · exact to_semS (ps_set hN hi l1 pe_sem hs l2) (sem_mono ((all_at n m sc sc X gd).1 t ve c3 ρ S y S' he F G μ σ H R RE) fin)
  · cases ve with
    | ListComp elt gs scope p2 =>
      obtain ⟨b, hb⟩ := swaps_lc (elt := elt) (gs := gs) (scope := scope) (pos := p2) (tg := .Name x px) (l := pos.line) (env := X.env)
      cases b with
      | false => exact absurd hb hs
      | true =>
        obtain ⟨el, tg, it, ifs, scp, own, p3, wi, gg, tt, te, e0, h1, h2, h3, h4, h5, h6, h7⟩ := (lcAsg gd c3 he R RE).out
        cases e0
        have hloc : X.env.scope.names.lookup x = some .local := by
          have hk : (X.env.blockKind == .function && X.env.kindOf x == some .local && px.line == p2.line && !(scope.names.any fun (n, k) => n == x && (k == .local || k == .cell))) = true := by
            have z : (pure (X.env.blockKind == .function && X.env.kindOf x == some .local && px.line == p2.line && !(scope.names.any fun (n, k) => n == x && (k == .local || k == .cell))) : Sem Bool) = pure true := hb
            cases w : (X.env.blockKind == .function && X.env.kindOf x == some .local && px.line == p2.line && !(scope.names.any fun (n, k) => n == x && (k == .local || k == .cell))) with
            | true => rfl
            | false =>
              rw [w] at z
              exact absurd (show swapsWith (.ListComp elt [⟨tg, it, ifs, 0⟩] scope p2) (some (.Name x px)) pos.line X.env = pure false from by
                rw [hb, ← z]) hs
          obtain ⟨hk, _⟩ := and2 hk
          obtain ⟨hk, _⟩ := and2 hk
          obtain ⟨_, hk⟩ := and2 hk
          exact eq_of_beq hk
        exact to_semS (ps_setLc gd.calm hN hi hloc hb h1 h2 h3 h4 h5 h6) (h7 _ fin)
    | SetComp _ _ _ _ => exact absurd (chkE_head c3) (by simp [okHead])
    | DictComp _ _ _ _ _ => exact absurd (chkE_head c3) (by simp [okHead])
    | _ => exact absurd rfl hs
end
end DL
end

section
set_option autoImplicit false
set_option linter.all false
/-! Statements, second part; all of them by the fuel. -/
namespace DL
open PySem PySem.Spec PyProof.Rows L2
variable [TabI]

theorem isLoc_iff {sc : Scope} {x : Str} (h : isLoc sc x = true) : sc.names.lookup x = some .local := by
  unfold isLoc at h
  split at h
  · assumption
  · cases h
theorem isLoc_not {sc : Scope} {x : Str} (h : isLoc sc x = false) : sc.names.lookup x ≠ some .local := by
  intro e
  unfold isLoc at h
  rw [e] at h
  cases h
/-- the names of the stores that may be swapped -/
def swF (env : PySem.Env) (line : Nat) : Expr → Option Str
  | .Name id pos => if env.kindOf id == some .local && pos.line == line then some id else none
  | _ => none
def swNames (env : PySem.Env) (line : Nat) (ts : List Expr) : List Str := ts.filterMap (swF env line)
theorem swNames_le {env : PySem.Env} {line : Nat} (ts : List Expr) : (swNames env line ts).length ≤ ts.length := List.length_filterMap_le _ _
theorem swF_non {env : PySem.Env} {line : Nat} {t : Expr} : nonLoc env.scope t = true → swF env line t = none := by
  intro h
  cases t with
  | Name x p =>
    have h' : isLoc env.scope x = false := not_t h
    have n : (env.kindOf x == some .local) = false := by
      refine beq_eq_false_iff_ne.mpr ?_
      exact isLoc_not h'
    unfold swF
    simp only [n, Bool.false_and, Bool.false_eq_true, if_false]
  | _ => rfl
theorem swNames_lt {env : PySem.Env} {line : Nat} : ∀ {ts : List Expr}, ts.any (nonLoc env.scope) = true → (swNames env line ts).length < ts.length
  | [], h => by cases h
  | t :: ts, h => by
    have le := swNames_le (env := env) (line := line) ts
    rw [List.any_cons, Bool.or_eq_true] at h
    have cons : swNames env line (t :: ts) = (match swF env line t with | none => swNames env line ts | some a => a :: swNames env line ts) := by
      unfold swNames
      rw [List.filterMap_cons]
      cases swF env line t <;> rfl
    rcases h with h | h
    · rw [cons, swF_non h, List.length_cons]
      simp only
      omega
    · have ih := swNames_lt (line := line) h
      have u : (swNames env line (t :: ts)).length ≤ (swNames env line ts).length + 1 := by
        rw [cons]
        split
        · omega
        · rw [List.length_cons]
          exact Nat.le_refl _
      rw [List.length_cons]
      omega
def isStarE : Expr → Bool
  | .Starred _ _ => true
  | _ => false
theorem noStar {a : Expr} (h : okHead a = true) : isStarE a = false := by
  cases a <;> first | rfl | (cases h; done)
theorem swapped_none {es : List Expr} {k : Nat} {p : Pos} {ve : Expr} {env : PySem.Env} (h : noSwap env.scope es ve = true) : swappedStores [.Tuple es k p] ve env = pure none := by
  cases ve with
  | Tuple vs k2 p2 =>
    have hlt := swNames_lt (line := (es.head?.map (·.pos.line)).getD 0) h
    unfold swappedStores
    simp only
    split
    · rfl
    · split
      · rfl
      · have e : ((swNames env ((es.head?.map (·.pos.line)).getD 0) es).length != es.length || (swNames env ((es.head?.map (·.pos.line)).getD 0) es).eraseDups.length != (swNames env ((es.head?.map (·.pos.line)).getD 0) es).length) = true := by
          rw [Bool.or_eq_true]
          left
          exact bne_iff_ne.mpr (by omega)
        exact if_pos e
  | _ => rfl
section
variable {X : Cx} {P : Prm} {k : Nat} {N : List Str} {sc : Scope} {n m : Nat} {ρ : Env} {S S' : Store} {F G : Hp} {μ : Nat → Addr} {σ : L2.St} {H : Hp}
theorem st_asgT (gd : Good P k N sc sc X) {ts : List Tg} {es : List Expr} {kk : Nat} {p pos : Pos} {t : Tm} {ve : Expr} (c1 : chkG N sc sc (.tp ts) (.Tuple es kk p) = true) (c2 : chkE P N m sc sc t ve = true) (c3 : notComp ve = true) (c4 : noSwap sc es ve = true) {y : E} (he : ev (callD P.T k) n t ρ S = some (y, S')) {d : D} (hd : asD y = some d) {ρ1 : Env} (hb : bindT (.tp ts) d ρ = some ρ1)
    (R : Rel X.K F G μ S H) (RE : RelEnv X.K F μ S ρ σ) (D : Ends) (q : Got X.K F G μ S (.nx ρ1) S' D) : semS X (.Assign [.Tuple es kk p] ve pos) D σ H := by
  refine to_semS (ps_asg pe_sem (pg_of (sto_of gd) c1) (show swapsWith ve (some (.Tuple es kk p)) pos.line X.env = pure false from swaps_of c3) (swapped_none (by rw [gd.hsc]; exact c4)) rfl) ?_
  refine sem_mono ((all_at n m sc sc X gd).1 t ve c2 ρ S y S' he F G μ σ H R RE) fun v H1 ⟨F1, μ1, e1, R1, r1⟩ => ?_
  rw [asD_out hd] at r1
  exact bind_ok R1 hb r1 (RE.mono e1) fun σ1 RE1 _ => q F1 μ1 σ1 H1 e1 R1 RE1
theorem st_setI (gd : Good P k N sc sc X) {o i t : Tm} {eo ei ve : Expr} {sp pos : Pos} (c1 : chkE P N m sc sc o eo = true) (c2 : chkE P N m sc sc i ei = true) (c3 : chkE P N m sc sc t ve = true) {p q r : E × Store} (hp : ev (callD P.T k) n t ρ S = some p) (hq : ev (callD P.T k) n o ρ p.2 = some q) (hr : ev (callD P.T k) n i ρ q.2 = some r)
    {x : D} (hx : asD p.1 = some x) {kk : Int} (hi : r.1 = .d (.int kk)) {mm : Nat} (hm : q.1 = .r mm) {xs : List D} (hs : r.2[mm]? = some (some xs)) {j : Nat} (hj : place xs.length kk = some j)
    (R : Rel X.K F G μ S H) (RE : RelEnv X.K F μ S ρ σ) (D : Ends) (g : Got X.K F G μ S (.nx ρ) (r.2.set mm (some (xs.set j x))) D) : semS X (.Assign [.Subscript eo ei sp] ve pos) D σ H := by
  have sw : ∀ l, swapsWithSole [.Subscript eo ei sp] ve l X.env = pure false := fun l => by cases ve <;> rfl
  have sw2 : swappedStores [.Subscript eo ei sp] ve X.env = pure none := by cases ve <;> rfl
  refine to_semS (ps_asg pe_sem (pg_sub pe_sem pe_sem set_list (fun v => by
    have h0 := chkE_head c2
    cases ei <;> first | rfl | (cases h0; done))) (sw _) sw2 rfl) ?_
  have A := (all_at (P := P) (k := k) (N := N) n m sc sc X gd).1
  refine sem_mono (A t ve c3 ρ S p.1 p.2 hp F G μ σ H R RE) fun v H1 ⟨F1, μ1, e1, R1, r1⟩ => ?_
  refine sem_mono (A o eo c1 ρ p.2 q.1 q.2 hq F1 G μ1 σ H1 R1 (RE.mono e1)) fun w H2 ⟨F2, μ2, e2, R2, r2⟩ => ?_
  refine sem_mono (A i ei c2 ρ q.2 r.1 r.2 hr F2 G μ2 σ H2 R2 (RE.mono (e1.trans e2))) fun u H3 ⟨F3, μ3, e3, R3, r3⟩ => ?_
  rw [hi] at r3
  cases (show RepP X.K F3 (.int kk) u from r3)
  rw [hm] at r2
  have r2' := r2.mono e3
  rw [asD_out hx] at r1
  have r1' : RepP X.K F3 x v := RepP.mono (e2.trans e3).f r1
  obtain ⟨vs, h1, h2⟩ := R3.st mm xs hs
  refine ⟨μ3 mm, vs, kk, j, r2'.2, rfl, h1, by rw [← h2.length]; exact hj, ?_⟩
  have e123 := (e1.trans e2).trans e3
  exact g F3 μ3 σ _ (e123.trans (Ext.set F3 μ3 r.2 mm _)) (R3.write hs (h2.set r1' j)) ((RE.mono e123).mono (Ext.set F3 μ3 r.2 mm _))
theorem beq_f {α : Type} [BEq α] [LawfulBEq α] {a b : α} (h : (!(a == b)) = true) : a ≠ b := fun e => by
  rw [e, beq_self_eq_true] at h
  cases h
theorem sw2_of {x y : Str} {px py pt pt2 : Pos} {kt k2 : Nat} {a b : Expr} {env : PySem.Env} (c : parC env.scope x y px py a b = true) (hk : env.scope.kind = .function) (ha : okHead a = true) (hb : okHead b = true) :
    swappedStores [.Tuple [.Name x px, .Name y py] kt pt] (.Tuple [a, b] k2 pt2) env = pure (some [x, y]) := by
  obtain ⟨c, c6⟩ := and2 c
  obtain ⟨c, c5⟩ := and2 c
  obtain ⟨c, c4⟩ := and2 c
  obtain ⟨c, c3⟩ := and2 c
  obtain ⟨c1, c2⟩ := and2 c
  have bk : env.blockKind = .function := by
    unfold Env.blockKind
    rw [hk]
    rfl
  have kx : env.kindOf x = some .local := isLoc_iff c1
  have ky : env.kindOf y = some .local := isLoc_iff c2
  have el : py.line = px.line := (eq_of_beq c3).symm
  have nxy : x ≠ y := beq_f c4
  have hn : swNames env px.line [.Name x px, .Name y py] = [x, y] := by
    simp [swNames, List.filterMap, swF, kx, ky, el]
  have ed : ([x, y].eraseDups.length != 2) = false := by
    have h2 : ¬ (y == x) = true := fun h => nxy (eq_of_beq h).symm
    simp [List.eraseDups_cons, h2]
  unfold swappedStores
  refine (if_neg ?_).trans ?_
  · simp [bk]
  refine (if_neg ?_).trans ?_
  · show ¬ ((isStarE a || (isStarE b || false)) = true)
    rw [noStar ha, noStar hb]
    exact Bool.false_ne_true
  refine (if_neg ?_).trans ?_
  · show ¬ (((swNames env px.line [.Name x px, .Name y py]).length != 2 || (swNames env px.line [.Name x px, .Name y py]).eraseDups.length != (swNames env px.line [.Name x px, .Name y py]).length) = true)
    rw [hn]
    show ¬ ((false || ([x, y].eraseDups.length != 2)) = true)
    rw [ed]
    exact Bool.false_ne_true
  refine (if_neg ?_).trans ?_
  · rw [not_t c5]
    exact Bool.false_ne_true
  refine (if_neg ?_).trans ?_
  · rw [not_t c6]
    exact Bool.false_ne_true
  show pure (some (swNames env px.line [.Name x px, .Name y py])) = _
  rw [hn]
theorem sw3_of {x y z : Str} {px py pz pt pt2 : Pos} {kt k2 : Nat} {a b d : Expr} {env : PySem.Env} (c : par3C env.scope x y z px py pz a b d = true) (hk : env.scope.kind = .function) (ha : okHead a = true) (hb : okHead b = true) (hd : okHead d = true) :
    swappedStores [.Tuple [.Name x px, .Name y py, .Name z pz] kt pt] (.Tuple [a, b, d] k2 pt2) env = pure (some [x, y, z]) := by
  obtain ⟨c, c0⟩ := and2 c
  obtain ⟨c, c9⟩ := and2 c
  obtain ⟨c, c8⟩ := and2 c
  obtain ⟨c, c7⟩ := and2 c
  obtain ⟨c, c6⟩ := and2 c
  obtain ⟨c, c5⟩ := and2 c
  obtain ⟨c, c4⟩ := and2 c
  obtain ⟨c, c3⟩ := and2 c
  obtain ⟨c1, c2⟩ := and2 c
  have bk : env.blockKind = .function := by
    unfold Env.blockKind
    rw [hk]
    rfl
  have kx : env.kindOf x = some .local := isLoc_iff c1
  have ky : env.kindOf y = some .local := isLoc_iff c2
  have kz : env.kindOf z = some .local := isLoc_iff c3
  have el : py.line = px.line := (eq_of_beq c4).symm
  have el2 : pz.line = px.line := (eq_of_beq c5).symm
  have n1 : x ≠ y := beq_f c6
  have n2 : x ≠ z := beq_f c7
  have n3 : y ≠ z := beq_f c8
  have hn : swNames env px.line [.Name x px, .Name y py, .Name z pz] = [x, y, z] := by
    simp [swNames, List.filterMap, swF, kx, ky, kz, el, el2]
  have ed : ([x, y, z].eraseDups.length != 3) = false := by
    have h1 : ¬ (y == x) = true := fun h => n1 (eq_of_beq h).symm
    have h2 : ¬ (z == x) = true := fun h => n2 (eq_of_beq h).symm
    have h3 : ¬ (z == y) = true := fun h => n3 (eq_of_beq h).symm
    simp [List.eraseDups_cons, h1, h2, h3]
  unfold swappedStores
  refine (if_neg ?_).trans ?_
  · simp [bk]
  refine (if_neg ?_).trans ?_
  · show ¬ ((isStarE a || (isStarE b || (isStarE d || false))) = true)
    rw [noStar ha, noStar hb, noStar hd]
    exact Bool.false_ne_true
  refine (if_neg ?_).trans ?_
  · show ¬ (((swNames env px.line [.Name x px, .Name y py, .Name z pz]).length != 3 || (swNames env px.line [.Name x px, .Name y py, .Name z pz]).eraseDups.length != (swNames env px.line [.Name x px, .Name y py, .Name z pz]).length) = true)
    rw [hn]
    show ¬ ((false || ([x, y, z].eraseDups.length != 3)) = true)
    rw [ed]
    exact Bool.false_ne_true
  refine (if_neg ?_).trans ?_
  · rw [not_t c9]
    exact Bool.false_ne_true
  refine (if_neg ?_).trans ?_
  · rw [not_t c0]
    exact Bool.false_ne_true
  show pure (some (swNames env px.line [.Name x px, .Name y py, .Name z pz])) = _
  rw [hn]
end
end DL
end

section
set_option autoImplicit false
set_option linter.all false
/-! x = [[..] .. for ..], then x[0][0] = v: the first row stays open till the store. -/
namespace DL
open PySem PySem.Spec PyProof.Rows L2
variable [TabI]

section
variable {K : PySem.W.Frag} {F G H : Hp} {μ : Nat → Addr} {S : Store} {a b : Addr}
theorem upd_comm {H : Hp} {a b : Addr} {o p : HO} (h : a ≠ b) : upd (upd H a o) b p = upd (upd H b p) a o := by
  funext c
  by_cases hb : c = b
  · subst hb
    rw [upd_same, upd_ne h.symm, upd_same]
  · by_cases ha : c = a
    · subst ha
      rw [upd_ne hb, upd_same, upd_same]
    · rw [upd_ne hb, upd_ne ha, upd_ne ha, upd_ne hb]
/-- what others held is shut -/
theorem Rel.shutG {xs : List D} {vs : List V} (r : Rel K F (upd G a (.lst vs)) μ S H) (hG : G a = none) (h : RepL K F xs vs) : ∃ F', Ext F μ S F' μ S ∧ Rel K F' G μ S H ∧ RepP K F' (.lst xs) (.ref a) := by
  have fa : F a = none := r.gf a _ upd_same
  have sf : Sub F (upd F a (.lst vs)) := fun c u e => by
    rw [upd_ne (ne_of_none e fa)]
    exact e
  have hm : ∀ n zs, S[n]? = some (some zs) → μ n ≠ a := fun n zs e z => by
    have := r.ng n zs e
    rw [z, upd_same] at this
    cases this
  refine ⟨upd F a (.lst vs), ⟨sf, fun _ _ => rfl, Nat.le_refl _⟩, ⟨fun c u e => ?_, fun c u e => ?_, fun c u e => ?_, fun n zs e => ?_, fun n zs e => ?_, fun n zs e => ?_, r.inj, r.tb, notbl_upd (fun ps z => by cases z) r.ft, fun c ps e => r.gt c ps (by rw [upd_ne (ne_of_none e hG)]; exact e)⟩, .lst upd_same (h.mono sf)⟩
  · by_cases hc : c = a
    · subst hc
      rw [upd_same] at e
      cases e
      exact r.gr _ _ upd_same
    · rw [upd_ne hc] at e
      exact r.fr _ _ e
  · exact r.gr _ _ (by rw [upd_ne (ne_of_none e hG)]; exact e)
  · rw [upd_ne (ne_of_none e hG)]
    exact r.gf _ _ (by rw [upd_ne (ne_of_none e hG)]; exact e)
  · obtain ⟨ws, h1, h2⟩ := r.st n zs e
    exact ⟨ws, h1, h2.mono sf⟩
  · rw [upd_ne (hm n zs e)]
    exact r.nf n zs e
  · have := r.ng n zs e
    rw [upd_ne (hm n zs e)] at this
    exact this
end
def LcG (K : PySem.W.Frag) (F G : Hp) (μ : Nat → Addr) (S : Store) (g : Ev) (elt : Tm) (tg : Tg) (own : List Nat) (ρ : Env) (F1 : Hp) (ds : List D) (q : List D × Store) (L : Addr) (i : Nat) (H' : Hp) : Prop :=
  ∃ F2 μ2 S2 r0 v0 y0 acc av, Ext F μ S F2 μ2 S2 ∧ Rel K F2 (upd (upd G r0 (.lst v0)) L (.lst (.ref r0 :: av))) μ2 S2 H' ∧ RepL K F2 y0 v0 ∧ RepL K F2 acc av ∧ Sub F1 F2 ∧ G r0 = none ∧ r0 ≠ L ∧ turns g elt tg [] own ρ (ds.drop i) (.lst y0 :: acc) S2 = some q
def LcZ (K : PySem.W.Frag) (F G : Hp) (μ : Nat → Addr) (S : Store) (g : Ev) (elt : Tm) (tg : Tg) (own : List Nat) (ρ : Env) (F1 : Hp) (ds : List D) (q : List D × Store) (L : Addr) (H' : Hp) : Prop :=
  ∃ F2 μ2 S2, Ext F μ S F2 μ2 S2 ∧ Rel K F2 (upd G L (.lst [])) μ2 S2 H' ∧ Sub F1 F2 ∧ turns g elt tg [] own ρ ds [] S2 = some q
/-- behind the comprehension -/
def EndG (K : PySem.W.Frag) (F G : Hp) (μ : Nat → Addr) (S : Store) (rows : List D) (S' : Store) : VK := fun v H' => ∃ F2 μ2 L r0 v0 y0 acc av, v = .ref L ∧ rows = .lst y0 :: acc ∧ Ext F μ S F2 μ2 S' ∧ Rel K F2 (upd (upd G r0 (.lst v0)) L (.lst (.ref r0 :: av))) μ2 S' H' ∧ RepL K F2 y0 v0 ∧ RepL K F2 acc av ∧ G r0 = none ∧ G L = none ∧ r0 ≠ L
section
variable {X : Cx} {g : Ev} {ρ : Env} {S S' : Store} {x : E} {F G : Hp} {μ : Nat → Addr} {σ : L2.St} {H : Hp} {P : Prm} {k : Nat} {N : List Str} {sc s0 : Scope} {e : Expr}
theorem t_grid (gd : Good P k N sc s0 X) {gk : Scope → Scope → Ck1} (h : SndX X g (gk sc s0)) (hk : ∀ sc s0 t e, gk sc s0 t e = true → okHead e = true)
    (hB : ∀ scope, Blks X scope fun Y => SndX Y g (gk (relS scope sc) scope) ∧ SndF Y g (gk (relS scope sc) scope)) {elt : Tm} {tg : Tg} {ik : IK} {its : List Tm} {own : List Nat} (hfr : isFresh elt = true) (c : ckLc P N gk sc s0 elt tg ik its [] own e = true)
    {p : List E × Store} (ga : evs g its ρ S = some p) {ds : List D} (hw : walked p.2 ik p.1 = some ds) {q : List D × Store} (ht : turns g elt tg [] own ρ ds [] p.2 = some q) (hne : ds ≠ []) (R : Rel X.K F G μ S H) (RE : RelEnv X.K F μ S ρ σ) :
    LcR X e σ H (EndG X.K F G μ S q.1 q.2) := by
  unfold ckLc at c
  split at c
  · rename_i eE tgE itE ifE scope pos
    obtain ⟨c, c6⟩ := and2 c
    obtain ⟨c, c5⟩ := and2 c
    obtain ⟨c, c4⟩ := and2 c
    obtain ⟨c, c3⟩ := and2 c
    obtain ⟨c1, c2⟩ := and2 c
    have hN : X.N.Nodup := by
      rw [gd.hN]
      exact gd.nd
    have blk : BlkOk X.N X.env.scope scope (own.map fun i => (N.getD i default, i)) := by
      rw [gd.hN, gd.hsc]
      exact blkOk_by c2
    have eown : (own.map fun i => (N.getD i default, i)).map (·.2) = own := by
      rw [List.map_map]
      exact List.map_id own
    have eif : ifE = [] := by
      cases ifE with
      | nil => rfl
      | cons a b => cases c5
    subst eif
    refine ⟨eE, tgE, itE, [], scope, own.map fun i => (N.getD i default, i), pos, _, _, _, _, rfl, pi_sem, blk, (fun s H C cl fp => show PG _ _ (gT X.K tg) from pg_of (sto_of (good_blk gd scope s H C cl fp)) c3), (fun _ _ _ _ _ => pts_nil), pe_semB, folded_of (chkI_head c1), fun Q hQ => ?_⟩
    rw [eown]
    refine semI_mono (s_iter (G := G) gd h (hk sc s0) c1 ga hw R RE) fun J H1 ⟨F1, μ1, e1, R1, wk⟩ => ?_
    intro L hL
    have hG : G L = none := R1.freeG hL
    refine ⟨fun i m H' => m = ds.length - i ∧ i ≤ ds.length ∧ ((i = 0 ∧ LcZ X.K F G μ S g elt tg own ρ F1 ds q L H') ∨ (0 < i ∧ LcG X.K F G μ S g elt tg own ρ F1 ds q L i H')), ⟨_, rfl, Nat.zero_le _, .inl ⟨rfl, F1, μ1, p.2, e1, R1.lay hL, Sub.refl _, ht⟩⟩, ?_⟩
    rintro i m H2 ⟨rfl, hi, hI⟩
    rcases hI with ⟨rfl, F2, μ2, S2, e2, R2, sb, ht2⟩ | ⟨hpos, F2, μ2, S2, r0, v0, y0, acc, av, e2, R2, ry, ra, sb, g0, nL, ht2⟩
    · obtain ⟨w1, w2⟩ := wk F2 _ μ2 S2 H2 0 sb R2
      cases ds with
      | nil => exact absurd rfl hne
      | cons d0 dr =>
        obtain ⟨go, yl⟩ := w1 d0 rfl
        obtain ⟨ρ1, b1, ht2⟩ := bind_some_out ht2
        obtain ⟨b, b2, ht2⟩ := bind_some_out ht2
        cases b2
        refine .inr ⟨go, LcG X.K F G μ S g elt tg own ρ F1 (d0 :: dr) q L 1, fun H' hH => ⟨(d0 :: dr).length - 1, by rw [List.length_cons]; omega, rfl, by rw [List.length_cons]; omega, .inr ⟨Nat.succ_pos _, hH⟩⟩, fun v H3 hy => ?_⟩
        obtain ⟨F3, e3, R3, rv⟩ := yl v H3 hy
        have e23 := e2.trans e3
        refine bind_ok R3 b1 rv ((RE.mono e23).wipe own) fun σ2 RE2 hwp => ⟨(hwp 5 own c4).trans wipe_wipe, ?_⟩
        unfold tYes
        simp only [if_true] at ht2 ⊢
        obtain ⟨pe, g1, ht2⟩ := bind_some_out ht2
        obtain ⟨y, hy2, ht2⟩ := bind_some_out ht2
        split at ht2
        · rename_i hz
          intro s H C cl fp
          obtain ⟨pe1, pe2⟩ := pe
          obtain ⟨y0, ey, hfx⟩ := (hB scope s H C cl fp).2 elt eE hfr c6 ρ1 S2 pe1 pe2 g1 F3 _ μ2 σ2 H3 R3 RE2
          subst ey
          cases hy2
          refine sem_mono hfx fun u H5 ⟨F5, μ5, H0, e5, R5, r0, v0, hr0, rl, eu, eH⟩ => ?_
          subst eu eH
          have nL : r0 ≠ L := fun z => by
            have := R5.gr L _ upd_same
            rw [← z, hr0] at this
            cases this
          have g0 : G r0 = none := by
            have := R5.freeG hr0
            rw [upd_ne nL] at this
            exact this
          have RL := R5.lay (o := .lst v0) hr0
          rw [upd_comm nL.symm] at RL
          refine ⟨[], by rw [upd_ne nL.symm]; exact R5.gr _ _ upd_same, by show 0 < sizeLine; rw [sizeLine_eq]; omega, ?_⟩
          exact ⟨F5, μ5, pe2, r0, v0, y0, [], [], e23.trans e5, RL.grow, rl, .nil, (sb.trans e3.f).trans e5.f, g0, nL, ht2⟩
        · cases ht2
    · obtain ⟨w1, w2⟩ := wk F2 _ μ2 S2 H2 i sb R2
      by_cases hlt : i < ds.length
      · obtain ⟨go, yl⟩ := w1 ds[i] (List.getElem?_eq_getElem hlt)
        rw [List.drop_eq_getElem_cons hlt] at ht2
        obtain ⟨ρ1, b1, ht2⟩ := bind_some_out ht2
        obtain ⟨b, b2, ht2⟩ := bind_some_out ht2
        cases b2
        refine .inr ⟨go, LcG X.K F G μ S g elt tg own ρ F1 ds q L (i + 1), fun H' hH => ⟨ds.length - (i + 1), by omega, rfl, hlt, .inr ⟨Nat.succ_pos _, hH⟩⟩, fun v H3 hy => ?_⟩
        obtain ⟨F3, e3, R3, rv⟩ := yl v H3 hy
        have e23 := e2.trans e3
        refine bind_ok R3 b1 rv ((RE.mono e23).wipe own) fun σ2 RE2 hwp => ⟨(hwp 5 own c4).trans wipe_wipe, ?_⟩
        unfold tYes
        simp only [if_true] at ht2 ⊢
        obtain ⟨pe, g1, ht2⟩ := bind_some_out ht2
        obtain ⟨y, hy2, ht2⟩ := bind_some_out ht2
        split at ht2
        · rename_i hz
          intro s H C cl fp
          refine sem_mono ((hB scope s H C cl fp).1 elt eE c6 ρ1 S2 pe.1 pe.2 g1 F3 _ μ2 σ2 H3 R3 RE2) fun u H5 ⟨F5, μ5, e5, R5, r5⟩ => ?_
          rw [asD_out hy2] at r5
          have e35 := e3.trans e5
          refine ⟨.ref r0 :: av, R5.gr _ _ upd_same, fits_lt (by rw [List.length_cons, ← ra.length]; exact hz), ?_⟩
          exact ⟨F5, μ5, pe.2, r0, v0, y0, acc ++ [y], av ++ [u], e23.trans e5, R5.grow, ry.mono e35.f, (ra.mono e35.f).append (.cons r5 .nil), sb.trans e35.f, g0, nL, ht2⟩
        · cases ht2
      · have ei : i = ds.length := by omega
        refine .inl ⟨w2 ei.symm, ?_⟩
        rw [ei, List.drop_length] at ht2
        have ht3 : some (D.lst y0 :: acc, S2) = some q := ht2
        cases ht3
        exact hQ _ _ ⟨F2, μ2, L, r0, v0, y0, acc, av, rfl, rfl, e2, R2, ry, ra, g0, hG, nL⟩
  · cases c
end
end DL
end

section
set_option autoImplicit false
set_option linter.all false
/-! The two statements of a grid. -/
namespace DL
open PySem PySem.Spec PyProof.Rows L2
variable [TabI]

section
variable {X : Cx} {P : Prm} {k : Nat} {N : List Str} {sc : Scope}
theorem cst_pe {v : D} {c : Const} {j : Nat} {pos : Pos} (h : cstIs v c = true) : ∃ xv : V, PE X (.Constant c j pos) (tC xv) ∧ ∀ F, RepP X.K F v xv := by
  unfold cstIs at h
  split at h
  · exact ⟨_, pe_non, fun _ => .non⟩
  · rw [eq_of_beq h]
    exact ⟨_, pe_bl, fun _ => .bl _⟩
  · rw [of_decide_eq_true h]
    exact ⟨_, pe_int, fun _ => .int _⟩
  · rw [of_decide_eq_true h]
    exact ⟨_, pe_str, fun _ => .str _⟩
  · cases h
theorem gridLc_out {a : Tm} (h : isGridLc a = true) : ∃ elt tg ik its own, a = .lc elt tg ik its [] own ∧ isFresh elt = true := by
  cases a with
  | lc elt tg ik its ifs own =>
    cases ifs with
    | nil => exact ⟨elt, tg, ik, its, own, rfl, h⟩
    | cons _ _ => cases h
  | _ => cases h
theorem sndG (gd : Good P k N sc sc X) : ∀ n, SndG X (ex (callD P.T k) n) (chkG2 P N sc (chkE P N fuelK sc sc))
  | 0 => fun s st st2 c ρ S o S' he => by cases he
  | n + 1 => fun s st st2 c ρ S o S' he F G μ σ H R RE => by
    unfold chkG2 at c
    split at c
    · rename_i i a v x px ve pos y py z1 j1 p1 sp1 z2 j2 p2 sp2 cc j3 p3 pos2
      obtain ⟨c, c10⟩ := and2 c
      obtain ⟨c, c9⟩ := and2 c
      obtain ⟨c, c8⟩ := and2 c
      obtain ⟨c, c7⟩ := and2 c
      obtain ⟨c, c6⟩ := and2 c
      obtain ⟨c, c5⟩ := and2 c
      obtain ⟨c, c4⟩ := and2 c
      obtain ⟨c, c3⟩ := and2 c
      obtain ⟨c1, c2⟩ := and2 c
      have ey := of_decide_eq_true c2
      have ez1 := of_decide_eq_true c6
      have ez2 := of_decide_eq_true c7
      subst ey ez1 ez2
      unfold ex at he
      obtain ⟨pp, hp, he⟩ := bind_some_out he
      obtain ⟨elt, tg, ik, its, own, ea, c9⟩ := gridLc_out c9
      subst ea
      · have c10' : chkE P N (59 + 1) sc sc (.lc elt tg ik its [] own) ve = true := c10
        unfold chkE at c10'
        obtain ⟨c0, c11⟩ := and2 c10'
        have hp' : ev (callD P.T k) (39 + 1) (.lc elt tg ik its [] own) ρ S = some pp := hp
        unfold ev at hp'
        obtain ⟨pe, ga, hp'⟩ := bind_some_out hp'
        obtain ⟨ds, hw, hp'⟩ := bind_some_out hp'
        obtain ⟨q, ht, hp'⟩ := bind_some_out hp'
        cases hp'
        simp only at he
        split at he
        · rename_i y1 ys r hq1
          have hrows : q.1 = .lst (y1 :: ys) :: r := by
            injection hq1 with hq2
            injection hq2 with hq3
          split at he
          · rename_i hil
            cases he
            have hne : ds ≠ [] := fun z => by
              subst z
              have ht2 : some (([] : List D), pe.2) = some q := ht
              cases ht2
              cases hrows
            have lc := t_grid (gk := chkE P N 59) gd (all_at 39 59 sc sc X gd).1 (fun _ _ _ _ => chkE_head) (fun scope s H C cl fp => by
              have z := all_at (P := P) (k := k) (N := N) 39 59 (relS scope sc) scope _ (good_blk gd scope s H C cl fp)
              exact ⟨z.1, z.2.1⟩) c9 c11 ga hw ht hne R RE
            refine ⟨_, rfl, fun es D hq => to_semSs (pss_cons ps_sem (pss_cons ps_sem pss_sem)) ?_⟩
            refine asg_LcR gd (of_decide_eq_true c1) c3 lc _ fun vv H' ⟨F2, μ2, L, r0, v0, y0, acc, av, ev, erows, e2, R2, ry, ra, g0, gL, nL⟩ => ?_
            subst ev
            rw [hrows] at erows
            cases erows
            cases ry with
            | @cons _ _ w0 ws rw0 rws =>
              obtain ⟨xv, hpe, hrep⟩ := cst_pe (X := X) (j := j3) (pos := p3) c8
              obtain ⟨k1, k2, k3⟩ := okName_of c5
              have hiN : X.N[i]? = some y := by
                rw [gd.hN]
                exact of_decide_eq_true c1
              have sw : ∀ l, swapsWithSole [.Subscript (.Subscript (.Name y py) (.Constant (.int 0) j1 p1) sp1) (.Constant (.int 0) j2 p2) sp2] (.Constant cc j3 p3) l X.env = pure false := fun l => rfl
              refine to_semS (ps_asg hpe (pg_sub (pe_ix ix_list (pe_var hiN (by rw [gd.hsc]; exact vis_of c4) k1 k2) pe_int (fun _ _ => rfl)) pe_int set_list (fun v => rfl)) (sw _) rfl rfl) ?_
              have hlen : i < σ.length := by
                rw [← RE.len]
                exact hil
              refine ⟨.ref L, List.getElem?_set_self hlen, L, .ref r0 :: av, 0, .ref r0, rfl, rfl, .of (R2.gr _ _ upd_same), atI_nat (j := 0) rfl, r0, w0 :: ws, 0, 0, rfl, rfl, R2.gr _ _ (by rw [upd_ne nL]; exact upd_same), (by unfold ixN; rw [if_pos (by decide), if_pos (by rw [List.length_cons]; omega)]; rfl), ?_⟩
              rw [upd_comm nL] at R2
              have R3 := R2.grow (o' := .lst (xv :: ws))
              obtain ⟨F3, e3, R4, q3⟩ := R3.shutG (by rw [upd_ne nL]; exact g0) (xs := v :: ys) (.cons (hrep F2) rws)
              obtain ⟨F4, e4, R5, q4⟩ := R4.shutG gL (xs := .lst (v :: ys) :: r) (.cons q3 (ra.mono e3.f))
              have eAll := (e2.trans e3).trans e4
              exact hq F4 μ2 _ _ eAll R5 ((RE.mono eAll).set (x := .d (.lst (.lst (v :: ys) :: r))) q4 i)
          · cases he
        · cases he
    · cases c
end
end DL
end

section
set_option autoImplicit false
set_option linter.all false
/-! All statements, by the fuel. -/
namespace DL
open PySem PySem.Spec PyProof.Rows L2
variable [TabI]

section
variable {X : Cx} {P : Prm} {k : Nat} {N : List Str} {sc : Scope} {n m : Nat} {ρ : Env} {S S' : Store} {F G : Hp} {μ : Nat → Addr} {σ : L2.St} {H : Hp}
theorem st_par (gd : Good P k N sc sc X) {i j : Nat} {x y : Str} {px py pt pt2 pos : Pos} {kt k2 : Nat} {a b : Tm} {ea eb : Expr} (c1 : N[i]? = some x) (c2 : N[j]? = some y) (c3 : i ≠ j) (c4 : parC sc x y px py ea eb = true) (c5 : chkE P N m sc sc a ea = true) (c6 : chkE P N m sc sc b eb = true) {p q : E × Store} (hp : ev (callD P.T k) n a ρ S = some p) (hq : ev (callD P.T k) n b ρ p.2 = some q)
    (R : Rel X.K F G μ S H) (RE : RelEnv X.K F μ S ρ σ) (D : Ends) (g : Got X.K F G μ S (.nx ((ρ.set i (some p.1)).set j (some q.1))) q.2 D) : semS X (.Assign [.Tuple [.Name x px, .Name y py] kt pt] (.Tuple [ea, eb] k2 pt2) pos) D σ H := by
  have A := (all_at (P := P) (k := k) (N := N) n m sc sc X gd).1
  have ha := chkE_head c5
  have hb := chkE_head c6
  rw [← gd.hsc] at c4
  intro pins s I
  have c4' := c4
  obtain ⟨c4', _⟩ := and2 c4'
  obtain ⟨c4', _⟩ := and2 c4'
  obtain ⟨c4', _⟩ := and2 c4'
  obtain ⟨c4', _⟩ := and2 c4'
  obtain ⟨l1, l2⟩ := and2 c4'
  refine (ps_par gd.calm (by rw [gd.hN]; exact gd.nd) (by rw [gd.hN]; exact c1) (by rw [gd.hN]; exact c2) c3 (isLoc_iff l1) (isLoc_iff l2) (pa_cons pe_sem (pa_cons pe_sem pa_nil (star_of hb)) (star_of ha)) (sw2_of c4 I.ok.kind ha hb)).run pins s σ H D I ?_
  refine sem_mono (A a ea c5 ρ S p.1 p.2 hp F G μ σ H R RE) fun v H1 ⟨F1, μ1, e1, R1, r1⟩ => ?_
  refine sem_mono (A b eb c6 ρ p.2 q.1 q.2 hq F1 G μ1 σ H1 R1 (RE.mono e1)) fun w H2 ⟨F2, μ2, e2, R2, r2⟩ => ?_
  have e12 := e1.trans e2
  exact ⟨v, w, rfl, g F2 μ2 _ H2 e12 R2 (((RE.mono e12).set (r1.mono e2) i).set r2 j)⟩
theorem st_par3 (gd : Good P k N sc sc X) {i j l : Nat} {x y z : Str} {px py pz pt pt2 pos : Pos} {kt k2 : Nat} {a b d : Tm} {ea eb ed : Expr} (c1 : N[i]? = some x) (c2 : N[j]? = some y) (c3 : N[l]? = some z) (c4 : i ≠ j) (c5 : i ≠ l) (c6 : j ≠ l) (c7 : par3C sc x y z px py pz ea eb ed = true) (c8 : chkE P N m sc sc a ea = true) (c9 : chkE P N m sc sc b eb = true) (c0 : chkE P N m sc sc d ed = true) {p q r : E × Store} (hp : ev (callD P.T k) n a ρ S = some p) (hq : ev (callD P.T k) n b ρ p.2 = some q) (hr : ev (callD P.T k) n d ρ q.2 = some r)
    (R : Rel X.K F G μ S H) (RE : RelEnv X.K F μ S ρ σ) (D : Ends) (g : Got X.K F G μ S (.nx (((ρ.set i (some p.1)).set j (some q.1)).set l (some r.1))) r.2 D) : semS X (.Assign [.Tuple [.Name x px, .Name y py, .Name z pz] kt pt] (.Tuple [ea, eb, ed] k2 pt2) pos) D σ H := by
  have A := (all_at (P := P) (k := k) (N := N) n m sc sc X gd).1
  have ha := chkE_head c8
  have hb := chkE_head c9
  have hd := chkE_head c0
  rw [← gd.hsc] at c7
  intro pins s I
  have c7' := c7
  obtain ⟨c7', _⟩ := and2 c7'
  obtain ⟨c7', _⟩ := and2 c7'
  obtain ⟨c7', _⟩ := and2 c7'
  obtain ⟨c7', _⟩ := and2 c7'
  obtain ⟨c7', _⟩ := and2 c7'
  obtain ⟨c7', _⟩ := and2 c7'
  obtain ⟨c7', _⟩ := and2 c7'
  obtain ⟨c7', l3⟩ := and2 c7'
  obtain ⟨l1, l2⟩ := and2 c7'
  refine (ps_par3 gd.calm (by rw [gd.hN]; exact gd.nd) (by rw [gd.hN]; exact c1) (by rw [gd.hN]; exact c2) (by rw [gd.hN]; exact c3) c4 c5 c6 (isLoc_iff l1) (isLoc_iff l2) (isLoc_iff l3) (pa_cons pe_sem (pa_cons pe_sem (pa_cons pe_sem pa_nil (star_of hd)) (star_of hb)) (star_of ha)) (sw3_of c7 I.ok.kind ha hb hd)).run pins s σ H D I ?_
  refine sem_mono (A a ea c8 ρ S p.1 p.2 hp F G μ σ H R RE) fun v H1 ⟨F1, μ1, e1, R1, r1⟩ => ?_
  refine sem_mono (A b eb c9 ρ p.2 q.1 q.2 hq F1 G μ1 σ H1 R1 (RE.mono e1)) fun w H2 ⟨F2, μ2, e2, R2, r2⟩ => ?_
  have e12 := e1.trans e2
  refine sem_mono (A d ed c0 ρ q.2 r.1 r.2 hr F2 G μ2 σ H2 R2 (RE.mono e12)) fun u H3 ⟨F3, μ3, e3, R3, r3⟩ => ?_
  have e123 := e12.trans e3
  exact ⟨v, w, u, rfl, g F3 μ3 _ H3 e123 R3 ((((RE.mono e123).set (r1.mono (e2.trans e3)) i).set (r2.mono e3) j).set r3 l)⟩
theorem st_if (gd : Good P k N sc sc X) {c : Tm} {a b : List Stm} {ec : Expr} {ea eb : List Stmt} {pos : Pos} {g : Ex} {ck : CkS} {ck2 : Stm → Stmt → Stmt → Bool} (h : SndS X g ck) (h2 : SndG X g ck2) (hf : FrzOk g) (c1 : chkT (chkE P N m sc sc) 20 c ec = true) (c2 : chkL ck ck2 a ea = true) (c3 : chkL ck ck2 b eb = true) {p : E × Store} (hp : ev (callD P.T k) n c ρ S = some p) {b0 : Bool} (hb : isTrueD p.1 = some b0) {o : Out} (he : (if b0 = true then exs g a ρ p.2 else exs g b ρ p.2) = some (o, S'))
    (R : Rel X.K F G μ S H) (RE : RelEnv X.K F μ S ρ σ) (D : Ends) (q : Got X.K F G μ S o S' D) : semS X (.If ec ea eb pos) D σ H := by
  refine to_semS (ps_if pt_sem pss_sem pss_sem) ?_
  refine semT_mono ((all_at n m sc sc X gd).2.2 20 c ec c1 ρ S p.1 p.2 b0 hp hb F G μ σ H R RE).1 fun v H1 ⟨ev, F1, μ1, e1, R1⟩ => ?_
  subst ev
  cases v with
  | true => exact sndL h h2 hf a ea c2 ρ p.2 o S' he F1 G μ1 σ H1 R1 (RE.mono e1) D (q.trans e1)
  | false => exact sndL h h2 hf b eb c3 ρ p.2 o S' he F1 G μ1 σ H1 R1 (RE.mono e1) D (q.trans e1)
theorem st_for (gd : Good P k N sc sc X) {t : Tg} {ik : IK} {its : List Tm} {body : List Stm} {tgE itE : Expr} {bE : List Stmt} {pos : Pos} {g : Ex} {ck : CkS} {ck2 : Stm → Stmt → Stmt → Bool} (h : SndS X g ck) (h2 : SndG X g ck2) (hf : FrzOk g) (c1 : chkI P (chkE P N m sc sc) sc tgE ik its itE = true) (c2 : chkG N sc sc t tgE = true) (c3 : chkL ck ck2 body bE = true) {p : List E × Store} (hp : evs (ev (callD P.T k) n) its ρ S = some p) {ds : List D} (hw : walked p.2 ik p.1 = some ds) {o : Out} (he : forL g t body ds ρ p.2 = some (o, S'))
    (R : Rel X.K F G μ S H) (RE : RelEnv X.K F μ S ρ σ) (D : Ends) (q : Got X.K F G μ S o S' D) : semS X (.For tgE itE bE [] pos) D σ H := by
  refine to_semS (ps_for gd.pass gd.calm pi_sem (pg_of (sto_of gd) c2) pss_sem (folded_of (chkI_head c1))) ?_
  refine semI_mono (s_iter (G := G) gd (all_at n m sc sc X gd).1 (fun _ _ => chkE_head) c1 hp hw R RE) fun J H1 ⟨F1, μ1, e1, R1, wk⟩ => ?_
  refine ⟨fun i mm σ2 H2 => mm = ds.length - i ∧ i ≤ ds.length ∧ ∃ F2 μ2 S2 ρ2, Ext F μ S F2 μ2 S2 ∧ Rel X.K F2 G μ2 S2 H2 ∧ RelEnv X.K F2 μ2 S2 ρ2 σ2 ∧ Sub F1 F2 ∧ forL g t body (ds.drop i) ρ2 S2 = some (o, S'), ⟨_, rfl, Nat.zero_le _, F1, μ1, p.2, ρ, e1, R1, RE.mono e1, Sub.refl _, by rw [List.drop_zero]; exact he⟩, ?_⟩
  rintro i mm σ2 H2 ⟨rfl, hi, F2, μ2, S2, ρ2, e2, R2, RE2, sb, ht⟩
  obtain ⟨w1, w2⟩ := wk F2 _ μ2 S2 H2 i sb R2
  by_cases hlt : i < ds.length
  · obtain ⟨go, yl⟩ := w1 ds[i] (List.getElem?_eq_getElem hlt)
    rw [List.drop_eq_getElem_cons hlt] at ht
    obtain ⟨ρ3, b1, ht⟩ := bind_some_out ht
    obtain ⟨r, hr, ht⟩ := bind_some_out ht
    refine .inr ⟨go, fun σ' H' => ∃ F3 μ3 S3 ρ4, Ext F μ S F3 μ3 S3 ∧ Rel X.K F3 G μ3 S3 H' ∧ RelEnv X.K F3 μ3 S3 ρ4 σ' ∧ Sub F1 F3 ∧ forL g t body (ds.drop (i + 1)) ρ4 S3 = some (o, S'), fun σ' H' hN => ⟨ds.length - (i + 1), by omega, rfl, hlt, hN⟩, fun v H3 hy => ?_⟩
    obtain ⟨F3, e3, R3, rv⟩ := yl v H3 hy
    have e23 := e2.trans e3
    refine bind_ok R3 b1 rv (RE2.mono e3) fun σ3 RE3 _ => ?_
    refine sndL h h2 hf body bE c3 ρ3 S2 r.1 r.2 hr F3 G μ2 σ3 H3 R3 RE3 _ ?_
    obtain ⟨r1, r2⟩ := r
    cases r1 with
    | nx ρ4 => exact fun F4 μ4 σ4 H4 e4 R4 RE4 => ⟨F4, μ4, r2, ρ4, e23.trans e4, R4, RE4, (sb.trans e3.f).trans e4.f, ht⟩
    | ret x =>
      have ht2 : some (Out.ret x, r2) = some (o, S') := ht
      cases ht2
      exact fun v H4 l => q v H4 (l.trans e23)
  · have ei : i = ds.length := by omega
    refine .inl ⟨w2 (by omega), ?_⟩
    rw [ei, List.drop_length] at ht
    have ht2 : some (Out.nx ρ2, S2) = some (o, S') := ht
    cases ht2
    exact q F2 μ2 σ2 H2 e2 R2 RE2
theorem st_while (gd : Good P k N sc sc X) {c : Tm} {body : List Stm} {ec : Expr} {bE : List Stmt} {pos : Pos} {g : Ex} {ck : CkS} {ck2 : Stm → Stmt → Stmt → Bool} (h : SndS X g ck) (h2 : SndG X g ck2) (hf : FrzOk g) (c1 : chkT (chkE P N m sc sc) 20 c ec = true) (c3 : chkL ck ck2 body bE = true) {w : Nat} {o : Out} (he : whileL (ev (callD P.T k) n) g c body w ρ S = some (o, S'))
    (R : Rel X.K F G μ S H) (RE : RelEnv X.K F μ S ρ σ) (D : Ends) (q : Got X.K F G μ S o S' D) : semS X (.While ec bE [] pos) D σ H := by
  refine to_semS (ps_while gd.pass pt_sem pss_sem) ?_
  refine ⟨fun w σ2 H2 => ∃ F2 μ2 S2 ρ2, Ext F μ S F2 μ2 S2 ∧ Rel X.K F2 G μ2 S2 H2 ∧ RelEnv X.K F2 μ2 S2 ρ2 σ2 ∧ whileL (ev (callD P.T k) n) g c body w ρ2 S2 = some (o, S'), ⟨w, F, μ, S, ρ, Ext.refl _ _ _, R, RE, he⟩, ?_⟩
  rintro w σ2 H2 ⟨F2, μ2, S2, ρ2, e2, R2, RE2, he⟩
  cases w with
  | zero => cases he
  | succ w =>
    obtain ⟨p, hp, he⟩ := bind_some_out (a := ev (callD P.T k) n c ρ2 S2) he
    obtain ⟨b0, hb, he⟩ := bind_some_out he
    refine semT_mono ((all_at n m sc sc X gd).2.2 20 c ec c1 ρ2 S2 p.1 p.2 b0 hp hb F2 G μ2 σ2 H2 R2 RE2).1 fun v H3 ⟨ev, F3, μ3, e3, R3⟩ => ?_
    subst ev
    have e23 := e2.trans e3
    cases v with
    | true =>
      obtain ⟨r, hr, he⟩ := bind_some_out (a := exs g body ρ2 p.2) he
      rw [if_pos rfl]
      refine ⟨fun σ' H' => ∃ F4 μ4 S4 ρ4, Ext F μ S F4 μ4 S4 ∧ Rel X.K F4 G μ4 S4 H' ∧ RelEnv X.K F4 μ4 S4 ρ4 σ' ∧ whileL (DL.ev (callD P.T k) n) g c body w ρ4 S4 = some (o, S'), fun σ' H' hN => ⟨w, Nat.lt_succ_self _, hN⟩, ?_⟩
      refine sndL h h2 hf body bE c3 ρ2 p.2 r.1 r.2 hr F3 G μ3 σ2 H3 R3 (RE2.mono e3) _ ?_
      obtain ⟨r1, r2⟩ := r
      cases r1 with
      | nx ρ4 => exact fun F4 μ4 σ4 H4 e4 R4 RE4 => ⟨F4, μ4, r2, ρ4, e23.trans e4, R4, RE4, he⟩
      | ret x =>
        have ht2 : some (Out.ret x, r2) = some (o, S') := he
        cases ht2
        exact fun v H4 l => q v H4 (l.trans e23)
    | false =>
      have ht2 : some (Out.nx ρ2, p.2) = some (o, S') := he
      cases ht2
      rw [if_neg Bool.false_ne_true]
      exact q F3 μ3 σ2 H3 e23 R3 (RE2.mono e3)
theorem nm_ne {i j : Nat} (h : (!(i == j)) = true) : i ≠ j := beq_f h
theorem stepS (gd : Good P k N sc sc X) {n : Nat} (ih : ∀ m, SndS X (ex (callD P.T k) n) (chkS P N sc m)) (m : Nat) : SndS X (ex (callD P.T k) (n + 1)) (chkS P N sc m) := by
  intro s st c ρ S o S' he F G μ σ H R RE D q
  cases m with
  | zero => cases c
  | succ m =>
    have h := ih m
    have hf := frzOk (C := callD P.T k) n
    unfold ex at he
    unfold chkS at c
    split at c
    · obtain ⟨c, c3⟩ := and2 c
      obtain ⟨c1, c2⟩ := and2 c
      obtain ⟨p, hp, he⟩ := bind_some_out he
      simp only at he
      split at he
      · cases he
        exact st_asg gd (of_decide_eq_true c1) c2 c3 hp R RE D q
      · cases he
    · obtain ⟨c, c4⟩ := and2 c
      obtain ⟨c, c3⟩ := and2 c
      obtain ⟨c1, c2⟩ := and2 c
      obtain ⟨p, hp, he⟩ := bind_some_out he
      simp only at he
      obtain ⟨d, hd, he⟩ := bind_some_out he
      obtain ⟨ρ1, hb, he⟩ := bind_some_out he
      cases he
      exact st_asgT gd c1 c2 c3 c4 hp hd hb R RE D q
    · obtain ⟨c, c6⟩ := and2 c
      obtain ⟨c, c5⟩ := and2 c
      obtain ⟨c, c4⟩ := and2 c
      obtain ⟨c, c3⟩ := and2 c
      obtain ⟨c1, c2⟩ := and2 c
      obtain ⟨p, hp, he⟩ := bind_some_out he
      obtain ⟨r, hr, he⟩ := bind_some_out he
      split at he
      · cases he
        exact st_par gd (of_decide_eq_true c1) (of_decide_eq_true c2) (nm_ne c3) c4 c5 c6 hp hr R RE D q
      · cases he
    · obtain ⟨c, c10⟩ := and2 c
      obtain ⟨c, c9⟩ := and2 c
      obtain ⟨c, c8⟩ := and2 c
      obtain ⟨c, c7⟩ := and2 c
      obtain ⟨c, c6⟩ := and2 c
      obtain ⟨c, c5⟩ := and2 c
      obtain ⟨c, c4⟩ := and2 c
      obtain ⟨c, c3⟩ := and2 c
      obtain ⟨c1, c2⟩ := and2 c
      obtain ⟨p, hp, he⟩ := bind_some_out he
      obtain ⟨r, hr, he⟩ := bind_some_out he
      obtain ⟨r3, hr3, he⟩ := bind_some_out he
      split at he
      · cases he
        exact st_par3 gd (of_decide_eq_true c1) (of_decide_eq_true c2) (of_decide_eq_true c3) (nm_ne c4) (nm_ne c5) (nm_ne c6) c7 c8 c9 c10 hp hr hr3 R RE D q
      · cases he
    · obtain ⟨c, c3⟩ := and2 c
      obtain ⟨c1, c2⟩ := and2 c
      obtain ⟨p, hp, he⟩ := bind_some_out he
      obtain ⟨q1, hq, he⟩ := bind_some_out he
      obtain ⟨r, hr, he⟩ := bind_some_out he
      obtain ⟨x, hx, he⟩ := bind_some_out he
      obtain ⟨y, hy, he⟩ := bind_some_out he
      obtain ⟨kk, hk, he⟩ := bind_some_out he
      split at he
      · rename_i mm hm
        split at he
        · rename_i xs hs
          obtain ⟨j, hj, he⟩ := bind_some_out he
          cases he
          exact st_setI gd c1 c2 c3 hp hq hr hx (by rw [asD_out hy, asI_out hk]) hm hs hj R RE D q
        · cases he
      · cases he
    · obtain ⟨c1, c2⟩ := and2 c
      obtain ⟨p, hp, he⟩ := bind_some_out he
      cases he
      exact to_semS (ps_expr pe_sem (swaps_of c2)) (sem_mono ((all_at fuelE fuelK sc sc X gd).1 _ _ c1 ρ S p.1 p.2 hp F G μ σ H R RE) fun v H1 ⟨F1, μ1, e1, R1, r1⟩ => q F1 μ1 σ H1 e1 R1 (RE.mono e1))
    · obtain ⟨c, c3⟩ := and2 c
      obtain ⟨c1, c2⟩ := and2 c
      obtain ⟨p, hp, he⟩ := bind_some_out he
      obtain ⟨b0, hb, he⟩ := bind_some_out he
      exact st_if gd h (sndG gd n) hf c1 c2 c3 hp hb he R RE D q
    · obtain ⟨c, c3⟩ := and2 c
      obtain ⟨c1, c2⟩ := and2 c
      obtain ⟨p, hp, he⟩ := bind_some_out he
      obtain ⟨ds, hw, he⟩ := bind_some_out he
      exact st_for gd h (sndG gd n) hf c1 c2 c3 hp hw he R RE D q
    · obtain ⟨c1, c2⟩ := and2 c
      exact st_while gd h (sndG gd n) hf c1 c2 he R RE D q
    · obtain ⟨p, hp, he⟩ := bind_some_out he
      cases he
      exact to_semS (ps_ret pe_sem) (sem_mono ((all_at fuelE fuelK sc sc X gd).1 _ _ c ρ S p.1 p.2 hp F G μ σ H R RE) fun v H1 l => q v H1 l)
    · cases he
      exact to_semS ps_pass (q F μ σ H (Ext.refl _ _ _) R RE)
    · cases he
    · cases c
theorem all_st (gd : Good P k N sc sc X) : ∀ n m, SndS X (ex (callD P.T k) n) (chkS P N sc m)
  | 0, m => fun s st c ρ S o S' he => by cases he
  | n + 1, m => stepS gd (all_st gd n) m
end
end DL
end

section
set_option autoImplicit false
set_option linter.all false
/-! Defs keep their promises; the law's end. -/
namespace DL
open PySem PySem.Spec PyProof.Rows L2
variable [TabI]

theorem deeper_guards {A : Around} {env : PySem.Env} (h : A.guards = some []) : (A.deeper env).guards = some [] := by
  first
    | exact h
    | simpa [Around.deeper, Around.under] using h
section
variable {P : Program} {w : World} {K : PySem.W.Frag} {mg : Str → Option Value} {base : Heap}
/-- a def of the text at its object -/
structure DefAt (K : PySem.W.Frag) (mg : Str → Option Value) (fn : Fn) (st : Stmt) : Prop where
  at_ : ∃ fa fd, Fun K fn.name fn.name st fa fd ∧ mg fn.name = some (.ref fa)
  sc : FnScope fn.N fn.ps (defScope st)
  bp : ∀ (kV doc pm : Value) (an : Option Addr) (cdv ct : Value) (us : List Value), us.length = fn.ps.length → bindArgs (PySem.W.fnOf fn.name fn.name (defArgs st) (defBody st) (defScope st) .none kV doc pm an cdv ct) ⟨us, []⟩ = pure (fn.ps.zip us)
  bk : ∀ (kV doc pm : Value) (an : Option Addr) (cdv ct : Value) (us : List Value), us.length = fn.ps.length → bindArgs (PySem.W.fnOf fn.name fn.name (defArgs st) (defBody st) (defScope st) .none kV doc pm an cdv ct) ⟨[], fn.ps.zip us⟩ = pure (fn.ps.zip us)
theorem DefAt.fnF {fn : Fn} {st : Stmt} (d : DefAt K mg fn st) : ∃ fa fd, Fun K fn.name fn.name st fa fd ∧ FnF K mg fn fa fd := by
  obtain ⟨fa, fd, F, hm⟩ := d.at_
  obtain ⟨oc, od, kV, doc, pm, an, cdv, ct, osl, e, lk, hcd⟩ := F.ex
  refine ⟨fa, fd, F, hm, F.kp, fun us hl => ?_, fun us hl => ?_⟩
  · rw [e]
    exact d.bp kV doc pm an cdv ct us hl
  · rw [e]
    exact d.bk kV doc pm an cdv ct us hl
theorem gok_of {k : Nat} {fn : Fn} {st : Stmt} {fa : Addr} {fd : FuncData} {sp : Sp} (F : Fun K fn.name fn.name st fa fd) (SC : FnScope fn.N fn.ps (defScope st)) (len : ∀ vs H Q E, sp vs H Q E → vs.length = fn.ps.length)
    (hbody : ∀ (cdv : Value) (lk : ∃ (oc : Value) (od : Option Addr) (kV doc pm : Value) (an : Option Addr) (ct : Value) (osl : Array (Option Value)), K.lookup fa = some ⟨oc, od, .func (PySem.W.fnOf fn.name fn.name (defArgs st) (defBody st) (defScope st) .none kV doc pm an cdv ct), osl⟩) (A : Around) (outer : List PySem.Env) (s : Shared) (H : Hp) (vs : List V) (Q : VK), Room k (A.deeper (envOfC fn.name (defScope st) s.heap.objs.size fa cdv)) → A.guards = some [] → Mod K mg base → sp vs H Q E0 →
      semSs (cxOf CX0 P w K mg base fn.N fn.name (defScope st) fa cdv A outer s H E0).nox (defBody st) { nx := fun _ H' => Q .non H', rt := Q } (L2.start fn.N vs) H) : GOk P w K mg base (k + 1) fa fd fn.ps sp := by
  obtain ⟨oc, od, kV, doc, pm, an, cdv, ct, osl, e, lk, hcd⟩ := F.ex
  subst e
  refine ⟨len, fun A outer s H ar us vs Q hgu hroom env0 hbi rvs hsp => ?_⟩
  have hvl := len _ _ _ _ hsp
  have KIn : K.In s.heap := env0.mod.kin.keeps fun b o e => (env0.bs b o e).1
  have noLim : s.heap.NoLimit := env0.mod.nolimit.keeps fun b o e => (env0.bs b o e).1
  refine codeAny_call_function hroom.depth (KIn _ _ lk) rfl SC.co SC.gen rfl (PySem.W.codeRec_of KIn hcd) (hbi _ _ _ _ ?_)
  refine wpAny_newFunctionEnv_cells SC.kind (fun ⟨n, v⟩ hy => ?_) fun env he s1 x => ?_
  · rcases SC.par n (List.of_mem_zip hy).1 with q | q
    · exact .inl q
    · exact .inr ⟨q, PySem.W.cellsFrom_some _ _ _ (.inl q)⟩
  · subst he
    refine ⟨noLim.keeps x.toInCall.keep, codeAny_func ?_⟩
    have body := hbody cdv ⟨_, _, _, _, _, _, _, _, lk⟩ A outer s H vs Q (hroom.deeper _) hgu env0.mod hsp
    have I0 : Inv (cxOf CX0 P w K mg base fn.N fn.name (defScope st) fa cdv A outer s H E0) [] (L2.start fn.N vs) H s1 := inv_start SC hroom.hd env0 hvl rvs x
    refine wpAny_mono ((PSs.nox pss_sem).run [] s1 (L2.start fn.N vs) H _ I0 body) (fun fl s' hs => ?_) fun e s' hs => hs
    have out : ∀ {σ' : L2.St} {H' : Hp} {v : V} {u : Value}, Inv (cxOf CX0 P w K mg base fn.N fn.name (defScope st) fa cdv A outer s H E0) [] σ' H' s' → RelV v u → Q v H' → CE outer P w H s Q u s' :=
      fun {σ' H' v u} J rv q => ⟨v, H', J.os, J.bare, J.base, J.hok, rv, q⟩
    cases fl with
    | ret u =>
      obtain ⟨v, σ', H', J, rv, q⟩ := hs
      exact out J rv q
    | next =>
      obtain ⟨σ', H', J, q⟩ := hs
      exact out (v := V.non) (u := Value.none) J rfl q
    | brk =>
      obtain ⟨_, _, _, q⟩ := hs
      exact False.elim q
    | cont =>
      obtain ⟨_, _, _, q⟩ := hs
      exact False.elim q
theorem start_env {F : Hp} {μ : Nat → Addr} {S : Store} {N : List Str} {xs : List E} {vs : List V} (h : RepEs K F μ S xs vs) : RelEnv K F μ S (xs.map some ++ List.replicate (N.length - xs.length) none) (L2.start N vs) := by
  unfold L2.start
  refine ⟨by rw [List.length_append, List.length_append, List.length_map, List.length_map, List.length_replicate, List.length_replicate, h.length], fun i x hx => ?_⟩
  by_cases hi : i < xs.length
  · rw [List.getElem?_append_left (by rw [List.length_map]; exact hi), List.getElem?_map, Option.map_eq_some_iff] at hx
    obtain ⟨y, h1, h2⟩ := hx
    cases h2
    obtain ⟨v, h3, h4⟩ := h.get h1
    refine ⟨v, ?_, h4⟩
    rw [List.getElem?_append_left (by rw [List.length_map, ← h.length]; exact hi), List.getElem?_map, h3]
    rfl
  · rw [List.getElem?_append_right (by rw [List.length_map]; omega), List.getElem?_replicate] at hx
    split at hx <;> cases hx
/-- behind the callee: an own list that is handed out goes to the caller -/
theorem finish_ok {F F' G H' : Hp} {μ μ' : Nat → Addr} {S S1 S2 : Store} {x y : E} {v : V} (e : Ext F μ S F' μ' S1) (R : Rel K F' G μ' S1 H') (r : RepE K F' μ' S1 x v) (hf : finish S.length S1 x = some (y, S2)) : Lift K F G μ S y S2 v H' := by
  cases x with
  | d d =>
    cases hf
    have ex : Ext F μ S F' μ' (S1.take S.length) := ⟨e.f, e.m, by rw [List.length_take, Nat.min_eq_left e.l]; exact Nat.le_refl _⟩
    exact ⟨F', μ', ex, R.take _, r⟩
  | r m =>
    unfold finish at hf
    simp only at hf
    split at hf
    · rename_i hm
      cases hf
      have ex : Ext F μ S F' μ' (S1.take S.length) := ⟨e.f, e.m, by rw [List.length_take, Nat.min_eq_left e.l]; exact Nat.le_refl _⟩
      exact ⟨F', μ', ex, R.take _, by rw [List.length_take, Nat.min_eq_left e.l]; exact hm, r.2⟩
    · rename_i hm
      split at hf
      · rename_i xs hx
        cases hf
        have hl : (S1.take S.length).length = S.length := by rw [List.length_take, Nat.min_eq_left e.l]
        have RT := R.take S.length
        obtain ⟨vs, h1, h2⟩ := R.st m xs hx
        have old : ∀ n zs, (S1.take S.length)[n]? = some (some zs) → n < S.length ∧ S1[n]? = some (some zs) := fun n zs h => by
          have hn : n < S.length := by
            have := (List.getElem?_eq_some_iff.mp h).1
            omega
          rw [List.getElem?_take_of_lt hn] at h
          exact ⟨hn, h⟩
        refine ⟨F', put μ' S.length (μ' m), ⟨e.f, fun n hn => by rw [put_ne (Nat.ne_of_lt hn)]; exact e.m n hn, by rw [List.length_append, hl]; omega⟩, ⟨R.fr, R.gr, R.gf, fun n zs h => ?_, fun n zs h => ?_, fun n zs h => ?_, fun n n2 zs zs2 h h' em => ?_, R.tb, R.ft, R.gt⟩, ?_⟩
        · rcases snoc_cases h with ⟨hn, h⟩ | ⟨hn, h⟩
          · rw [put_ne (by omega)]
            exact RT.st n zs h
          · cases h
            rw [hn, hl, put_same]
            exact ⟨vs, h1, h2⟩
        · rcases snoc_cases h with ⟨hn, h⟩ | ⟨hn, h⟩
          · rw [put_ne (by omega)]
            exact RT.nf n zs h
          · rw [hn, hl, put_same]
            exact R.nf m xs hx
        · rcases snoc_cases h with ⟨hn, h⟩ | ⟨hn, h⟩
          · rw [put_ne (by omega)]
            exact RT.ng n zs h
          · rw [hn, hl, put_same]
            exact R.ng m xs hx
        · rcases snoc_cases h with ⟨hn, h⟩ | ⟨hn, h⟩
          · rcases snoc_cases h' with ⟨hn2, h'⟩ | ⟨hn2, h'⟩
            · rw [put_ne (by omega), put_ne (by omega)] at em
              exact RT.inj n n2 zs zs2 h h' em
            · rw [put_ne (by omega), hn2, hl, put_same] at em
              obtain ⟨o1, o2⟩ := old n zs h
              have := R.inj n m zs xs o2 hx em
              omega
          · rcases snoc_cases h' with ⟨hn2, h'⟩ | ⟨hn2, h'⟩
            · rw [hn, hl, put_same, put_ne (by omega)] at em
              obtain ⟨o1, o2⟩ := old n2 zs2 h'
              have := R.inj m n2 xs zs2 hx o2 em
              omega
            · rw [hn, hn2]
        · refine ⟨by rw [List.length_append, hl, List.length_singleton]; omega, ?_⟩
          rw [put_same]
          exact r.2
      · cases hf
/-- all defs of the table -/
structure Tab (K : PySem.W.Frag) (mg : Str → Option Value) (Pr : Prm) (sts : List Stmt) : Prop where
  ok : ∀ (f : Nat) (fn : Fn), Pr.T[f]? = some fn → ∃ st, DefAt K mg fn st ∧ chkF Pr fn st = true
  bi : ∀ x, Pr.bi.contains x = true → mg x = none
  cst : ∀ p, p ∈ Pr.cs → isLeaf p.2 = true → ∃ u v, mg p.1 = some u ∧ RelV v u ∧ ∀ F, RepP K F p.2 v
/-- the code objects and tables of the defs that make lambdas -/
def LamT (K : PySem.W.Frag) (mg : Str → Option Value) (base : Heap) (Pr : Prm) : Prop := ∀ (f : Nat) (fn : Fn), Pr.T[f]? = some fn → Pr.lams.contains fn.N = true → ∃ c Q : Addr, PySem.W.tabIn K fn.name = some (c, Q) ∧ LamX.TabB base mg c Q ∧
  (Q, fn.name ++ ".<locals>." ++ "<lambda>") ∈ TabI.T ∧ ∀ p ∈ TabI.T, p.1 = Q → p.2 = fn.name ++ ".<locals>." ++ "<lambda>"
theorem spD_len {T : List Fn} {n k f : Nat} {vs : List V} {H : Hp} {Q : VK} {E : XK} (h : spD K T n k f vs H Q E) : vs.length = n := by
  obtain ⟨F, G, μ, S, xs, x, S', R, rs, hl, _⟩ := h
  rw [← rs.length]
  exact hl
theorem fns_step {Pr : Prm} {sts : List Stmt} {k : Nat} (tb : Tab K mg Pr sts) (lm : LamT K mg base Pr) (ih : FnsOk P w K mg base Pr.T k) : FnsOk P w K mg base Pr.T (k + 1) := by
  intro f fn hf
  obtain ⟨st, d, hc⟩ := tb.ok f fn hf
  obtain ⟨fa, fd, F, ff⟩ := d.fnF
  refine ⟨fa, fd, ff, gok_of F d.sc (fun vs H Q E h => spD_len h) fun cdv ⟨oc, od, kV, doc, pm, an, ct, osl, lk⟩ A outer s H vs Q hr hgu hmod hsp => ?_⟩
  obtain ⟨F0, G, μ, S, xs, x, S', R, rs, hl, he, hq⟩ := hsp
  have gd : Good Pr k fn.N (defScope st) (defScope st) (cxOf CX0 P w K mg base fn.N fn.name (defScope st) fa cdv A outer s H E0).nox :=
    { hN := rfl, nd := d.sc.nd, hsc := rfl, own := fun _ _ => rfl, calm := rfl, room := hr, gd := deeper_guards hgu, pass := .never, bi := tb.bi, fns := ih, cst := tb.cst, lam := fun hl => by
        obtain ⟨c, Q, h1, h2, h3, h4⟩ := lm f fn hf hl
        have e := PySem.W.law_code hmod.kin hmod.glob h1 ff.mg (hmod.kin _ _ lk) rfl
        exact ⟨c, Q, h2, e, h3, h4⟩ }
  unfold callD at he
  simp only [hf] at he
  rw [if_pos hl] at he
  obtain ⟨p, hp, he⟩ := bind_some_out he
  refine sndL (all_st gd fuelS fuelK) (sndG gd fuelS) (frzOk fuelS) fn.body (defBody st) hc _ S p.1 p.2 hp F0 G μ _ H R (start_env rs) _ ?_
  obtain ⟨p1, p2⟩ := p
  cases p1 with
  | nx ρ1 =>
    have he2 : some (E.d D.non, p2.take S.length) = some (x, S') := he
    cases he2
    exact fun F' μ' σ' H' e R1 RE1 => hq _ _ (finish_ok e R1 (x := .d .non) .non rfl)
  | ret y =>
    exact fun v H' ⟨F', μ', e, R1, r1⟩ => hq _ _ (finish_ok e R1 r1 he)
theorem fns_all {Pr : Prm} {sts : List Stmt} (tb : Tab K mg Pr sts) (lm : LamT K mg base Pr) (h0 : ∀ (f : Nat) (fn : Fn), Pr.T[f]? = some fn → ∃ fa fd, FnF K mg fn fa fd) : ∀ k, FnsOk P w K mg base Pr.T k
  | 0 => fun f fn hf => by
    obtain ⟨fa, fd, ff⟩ := h0 f fn hf
    exact ⟨fa, fd, ff, fun vs H Q E h => spD_len h, fun A outer s H ar us vs Q hgu hroom env0 hbi rvs hsp => by
      obtain ⟨F0, G, μ, S, xs, x, S', R, rs, hl, he, hq⟩ := hsp
      cases he⟩
  | k + 1 => fns_step tb lm (fns_all tb lm h0 k)
end
end DL
end

section
set_option autoImplicit false
set_option linter.all false
/-! The law's end. -/
namespace DL
open PySem PySem.Spec PyProof.Rows PySem.W L2

section
variable {P : Program} {w : World} {K : PySem.W.Frag} {mg mb : Str → Option Value}
/-- what is shut at the entry: the script -/
def onlyAt (H : Hp) (a : Addr) : Hp := fun b => if b = a then H b else none
theorem rel0 [TabI] {H : Hp} {a : Addr} (tt : ∀ p ∈ TabI.T, H p.1 = some (.tbl #[])) (na : ∀ ps, H a ≠ some (.tbl ps)) : Rel K (onlyAt H a) (fun _ => none) (fun _ => 0) [] H where
  fr := fun b o e => by
    unfold onlyAt at e
    split at e
    · exact e
    · cases e
  gr := fun b o e => nomatch e
  gf := fun b o e => nomatch e
  st := fun n xs e => by simp at e
  nf := fun n xs e => by simp at e
  ng := fun n xs e => by simp at e
  inj := fun n m xs ys e => by simp at e
  tb := fun p hp => LamX.TabS.nil (tt p hp)
  ft := fun b ps e => by
    unfold onlyAt at e
    split at e
    · rename_i hb
      rw [hb] at e
      exact na ps e
    · cases e
  gt := fun b ps e => nomatch e
/-- the call of the law at its script, with tables of code objects -/
theorem call_end [TabI] {k f : Nat} {fa a : Addr} {T : List Fn} {x : Str} {s1 : Shared} {vs : List Value} {ns : List Int} {cs : List (Addr × Addr)}
    (KX : K.In s1.heap) (hNs : s1.heap.Ns mainGlobals mg) (hB : s1.heap.Ns builtinsNs mb) (hBB : ∀ x : Str, x ≠ "__name__" → mb x = bootBuiltins x) (hL : s1.heap.NoLimit) (hgens : s1.gens = #[])
    (tEmpty : ∀ p ∈ cs, s1.heap.get? p.2 = some { cls := .none, data := .fields #[] }) (tOut : ∀ p ∈ cs, K.lookup p.2 = none) (tCode : ∀ p ∈ cs, CodeHd s1.heap p.1 p.2) (tAll : ∀ p ∈ TabI.T, p.1 ∈ cs.map (·.2))
    (hBM : ∃ (bm : Addr) (ob : Obj), mg "__builtins__" = some (.ref bm) ∧ bm ≠ builtinsNs ∧ s1.heap.get? bm = some ob ∧ ob.cls = .type "module" ∧ ob.dict = some builtinsNs ∧ ob.data = .plain)
    (hObj : s1.heap.get? a = some { cls := .type "list", data := .seq vs.toArray }) (hInts : IntsAre vs ns) (hlen : ns.length ≤ sizeLine) (hroom : Room k callerA)
    (FF : ∀ base : Heap, K.In base → base.Ns mainGlobals mg → (∀ p ∈ cs, LamX.TabB base mg p.1 p.2) → ∃ fd : FuncData, GOk P w K mg base k fa fd [x] (spD K T 1 k f) ∧ bindArgs fd ⟨[.ref a], []⟩ = pure [(x, .ref a)])
    (main : callD T k f [.d (.scr (ns.map D.int))] [] = some (.d (.bl true), [])) :
    codeAny (model P w) callerA (.call (.ref fa) ⟨[.ref a], []⟩) (fun r s' => r = .ok (.ret (.bool true)) ∧ OldK s1.heap s'.heap ∧ s'.os = s1.os ∧ AllBare s'.gens) s1 := by
  have rvals := vals_ints hInts
  have lens := hInts.length
  have tabAt : ∀ b : Addr, b ∈ cs.map (·.2) → s1.heap.get? b = some { cls := .none, data := .fields #[] } := fun b hb => by
    obtain ⟨p, hp, rfl⟩ := List.mem_map.mp hb
    exact tEmpty p hp
  have apart : a ∉ cs.map (·.2) := fun z => by
    have y := (tabAt a z).symm.trans hObj
    cases (show Data.fields #[] = Data.seq vs.toArray _ from congrArg Obj.data (Option.some.inj y))
  have inT : ∀ p ∈ cs, p.2 ∈ cs.map (·.2) := fun p hp => List.mem_map.mpr ⟨p, hp, rfl⟩
  have from_ : ∀ H : Hp, (∀ p ∈ cs, H p.2 = some (.tbl #[])) → (∀ b, b ∉ cs.map (·.2) → H b = none ∨ ∃ o xs, H b = some (.frz o (.lst xs))) → SqL K (onlyAt H a) a (ns.map V.int) → HOk P w H s1.heap → (∀ b, H b ≠ none → b = a ∨ b ∈ cs.map (·.2)) → (H a ≠ none → K.lookup a = none) →
      codeAny (model P w) callerA (.call (.ref fa) ⟨[.ref a], []⟩) (fun r s' => r = .ok (.ret (.bool true)) ∧ OldK s1.heap s'.heap ∧ s'.os = s1.os ∧ AllBare s'.gens) s1 := by
    intro H tH only hS ok alone hK
    have stay : ∀ {b : Addr} {o : Obj}, s1.heap.get? b = some o → H b = none → (hidT s1.heap H).get? b = some o := fun e n => hidT_get e n
    have out : ∀ {b : Addr} {o : Obj}, s1.heap.get? b = some o → (∀ us n, o.data ≠ .seq us n) → o.data ≠ .fields #[] → H b = none := fun {b o} e d1 d2 => by
      cases q : H b with
      | none => rfl
      | some u =>
        rcases alone b (by rw [q]; simp) with eb | eb
        · subst eb
          rw [hObj] at e
          cases e
          exact absurd rfl (d1 _ _)
        · rw [tabAt b eb] at e
          cases e
          exact absurd rfl d2
    have dicts : ∀ {b : Addr} {o : Obj} {es : Array DictEntry} {ep : Nat}, s1.heap.get? b = some o → o.data = .dict es ep → H b = none := fun {b o es ep} e d =>
      out e (fun us n z => by
        rw [d] at z
        cases z) fun z => by
        rw [d] at z
        cases z
    have nss : ∀ {b : Addr} {m : Str → Option Value}, s1.heap.Ns b m → (hidT s1.heap H).Ns b m := fun {b m} ⟨o, es, ep, e, d, r⟩ => ⟨o, es, ep, stay e (dicts e d), d, r⟩
    have kin : K.In (hidT s1.heap H) := fun b o e => stay (KX b o e) (by
      cases q : H b with
      | none => rfl
      | some u =>
        rcases alone b (by rw [q]; simp) with eb | eb
        · subst eb
          rw [hK (by rw [q]; simp)] at e
          cases e
        · obtain ⟨p, hp, rfl⟩ := List.mem_map.mp eb
          rw [tOut p hp] at e
          cases e)
    have hMod : Mod K mg (hidT s1.heap H) := ⟨kin, nss hNs, ⟨mb, nss hB, hBB⟩, let ⟨mc, h1, h2⟩ := hL; ⟨mc, nss h1, h2⟩⟩
    have tabs : ∀ p ∈ cs, LamX.TabB (hidT s1.heap H) mg p.1 p.2 := fun p hp => by
      have tp := tEmpty p hp
      refine ⟨?_, ?_, fun z => ?_⟩
      · obtain ⟨o, us, fl, tf, fg, tg, iF, tx, tt, e1, y1, y2, y3, y4, y5, y6, y7, y8, y9⟩ := tCode p hp
        refine ⟨o, us, fl, tf, fg, tg, iF, tx, tt, stay e1 (out e1 (fun us n z => ?_) fun z => ?_), y1, y2, y3, y4, y5, y6, y7, y8, y9⟩
        · rw [y2] at z
          cases z
        · rw [y2] at z
          cases z
          simp at y3
      · obtain ⟨bm, ob, b1, b2, b3, b4, b5, b6⟩ := hBM
        have g1 : bm ≠ mainGlobals := fun z => by
          obtain ⟨o, es, ep, e, hd, _⟩ := hNs
          rw [← z, b3] at e
          cases e
          rw [b6] at hd
          cases hd
        have g2 : bm ≠ p.2 := fun z => by
          rw [z, tp] at b3
          cases b3
          cases b6
        exact ⟨bm, ob, b1, b2, g1, g2, stay b3 (out b3 (fun us n z => by
          rw [b6] at z
          cases z) fun z => by
          rw [b6] at z
          cases z), b4, b5, b6⟩
      · obtain ⟨o, es, ep, e, hd, _⟩ := hNs
        rw [z, tp] at e
        cases e
        cases hd
    have env0 : Env0 P w K mg (hidT s1.heap H) callerA [] s1 H := ⟨rfl, hMod, fun b o e => of_hidT e, Nat.le_of_eq (hidT_size _ _), trivial, (fun b hb => by cases hb), ok, .of_eq hgens⟩
    have tT : ∀ p ∈ TabI.T, H p.1 = some (.tbl #[]) := fun p hp => by
      obtain ⟨q, hq, e⟩ := List.mem_map.mp (tAll p hp)
      rw [← e]
      exact tH q hq
    have na : ∀ ps, H a ≠ some (.tbl ps) := fun ps z => by
      rcases only a apart with y | ⟨o, xs, y⟩
      · rw [y] at z
        cases z
      · rw [y] at z
        cases z
    have hsp : spD K T 1 k f [.ref a] H (fun v _ => v = .bl true) E0 := ⟨onlyAt H a, fun _ => none, fun _ => 0, [], [.d (.scr (ns.map D.int))], _, _, rel0 tT na, .cons (.scr hS (RepL.ofInts ns)) .nil, rfl, main, fun v H' ⟨F', μ', e, R, r⟩ => by
      cases (show RepP K F' (.bl true) v from r)
      rfl⟩
    obtain ⟨fd, gk, hbi⟩ := FF (hidT s1.heap H) kin (nss hNs) tabs
    refine codeAny_mono (gk.run callerA [] s1 H ⟨[.ref a], []⟩ [.ref a] [.ref a] _ rfl hroom env0 (.of_eq hbi) (.cons rfl .nil) hsp) fun r s' h => ?_
    cases r with
    | error e => exact False.elim h
    | ok fl =>
      cases fl with
      | next => exact False.elim h
      | brk => exact False.elim h
      | cont => exact False.elim h
      | ret u =>
        obtain ⟨v, H', osE, bareE, un, okE, rE, vE⟩ := h
        have vT : v = .bl true := vE
        subst vT
        cases (show u = Value.bool true from rE)
        have same : ∀ b o, b ∉ cs.map (·.2) → s1.heap.get? b = some o → s'.heap.get? b = some o := fun b o nb e => by
          cases q : H b with
          | none => exact un.keep b o e q (by intro z; cases z) (by simp)
          | some u =>
            rcases only b nb with z | ⟨ob, xs, z⟩
            · rw [q] at z
              cases z
            · obtain ⟨e1, _⟩ := ok b _ z
              obtain ⟨e2, _⟩ := okE b _ (un.frzs b ob _ z)
              rw [e] at e1
              cases e1
              exact e2
        have grew : ∀ b, b ∈ cs.map (·.2) → ∃ (p : Addr × Addr) (us : Array Value), p ∈ cs ∧ p.2 = b ∧ s'.heap.get? b = some { cls := .none, data := .fields us } := fun b hb => by
          obtain ⟨p, hp, rfl⟩ := List.mem_map.mp hb
          obtain ⟨us, z⟩ := un.tbls p.2 #[] (tH p hp)
          exact ⟨p, _, hp, rfl, okE p.2 _ z⟩
        refine ⟨rfl, ⟨fun b o e => ?_, fun b o e => ?_⟩, osE, bareE⟩
        · by_cases hb : b ∈ cs.map (·.2)
          · obtain ⟨p, us, hp, rfl, z⟩ := grew b hb
            rw [tEmpty p hp] at e
            cases e
            exact .inr (.inl ⟨((tCode p hp).tab (tEmpty p hp)).isCodeTable, rfl, #[], us, rfl, by rw [Array.empty_append]; exact z⟩)
          · exact .inl (same b o hb e)
        · by_cases hb : b ∈ cs.map (·.2)
          · obtain ⟨p, us, hp, _, z⟩ := grew b hb
            exact ⟨_, z⟩
          · exact ⟨o, same b o hb e⟩
  cases hk : K.lookup a with
  | some o =>
    have e := KX a o hk
    rw [hObj] at e
    cases e
    refine from_ (fun b => if b ∈ cs.map (·.2) then some (.tbl #[]) else none) (fun p hp => if_pos (inT p hp)) (fun b nb => .inl (if_neg nb)) (.inr ⟨_, vs.toArray, _, hk, rfl, rfl, rfl, by rw [List.size_toArray, lens]; exact hlen, by simpa using rvals⟩) (fun b u z => ?_) (fun b z => ?_) fun z => absurd (if_neg apart) z
    · by_cases hb : b ∈ cs.map (·.2)
      · cases (if_pos hb).symm.trans z
        exact tabAt b hb
      · cases (if_neg hb).symm.trans z
    · by_cases hb : b ∈ cs.map (·.2)
      · exact .inr hb
      · exact absurd (if_neg hb) z
  | none =>
    refine from_ (fun b => if b = a then some (.frz { cls := .type "list", data := .seq vs.toArray } (.lst (ns.map V.int))) else if b ∈ cs.map (·.2) then some (.tbl #[]) else none) (fun p hp => ?_) (fun b nb => ?_) (.inl (.inr ⟨{ cls := .type "list", data := .seq vs.toArray }, ?_⟩)) (fun b u z => ?_) (fun b z => ?_) fun _ => hk
    · exact (if_neg fun z => apart (by rw [← z]; exact inT p hp)).trans (if_pos (inT p hp))
    · by_cases hb : b = a
      · exact .inr ⟨_, _, if_pos hb⟩
      · exact .inl ((if_neg hb).trans (if_neg nb))
    · exact (if_pos rfl).trans (if_pos rfl)
    · by_cases hb : b = a
      · subst hb
        cases (if_pos rfl).symm.trans z
        exact ⟨hObj, by rw [List.length_map]; exact hlen, vs, _, rvals, hObj⟩
      · have y := (if_neg hb).symm.trans z
        by_cases hb2 : b ∈ cs.map (·.2)
        · cases (if_pos hb2).symm.trans y
          exact tabAt b hb2
        · cases (if_neg hb2).symm.trans y
    · by_cases hb : b = a
      · exact .inl hb
      · by_cases hb2 : b ∈ cs.map (·.2)
        · exact .inr hb2
        · exact absurd ((if_neg hb).trans (if_neg hb2)) z
end
/-- the goal that the head leaves, from the tongue's answer; lf: the defs that make lambdas -/
theorem walk_D {l : PySem.W.OpenLaw} {q : Program} {loose : List Str} {XP : (Str → Option Value) → Heap → Prop} {YP : World → Heap → Prop} {d : DefRec} {K : Params → PySem.W.Frag} {Pr : Prm} {sts : List Stmt} {k f : Nat} {fn : Fn} (lf : Params → List (Str × Addr × Addr))
    (hn : l.most = some 63) (hdf : d.params.defaults = []) (hroom : Room k callerA) (hf : Pr.T[f]? = some fn) (hnm : fn.name = d.name) (hps : fn.ps = [("script" : Str)])
    (hY : ∀ (w : World) (h : Heap), YP w h → (K w.params).In h)
    (tab : ∀ (w : World) (mg : Str → Option Value) (h : Heap), (K w.params).In h → h.Ns mainGlobals mg → Tab (K w.params) mg Pr sts)
    (hlf : ∀ (w : World) (p : Str × Addr × Addr), p ∈ lf w.params → tabIn (K w.params) p.1 = some p.2 ∧ (K w.params).lookup p.2.2 = none ∧ (∃ dr, (recsOf q).find? (fun e => e.name == p.1) = some dr) ∧ ∀ r ∈ lf w.params, r.2.2 = p.2.2 → r.1 = p.1)
    (hlam : ∀ (w : World) (f : Nat) (fn : Fn), Pr.T[f]? = some fn → Pr.lams.contains fn.N = true → ∃ p ∈ lf w.params, p.1 = fn.name)
    (main : ∀ ns : List Int, ns.length ≤ 63 → (∀ z ∈ ns, Builtin.Int.intBits z ≤ 1048576) → callD Pr.T k f [.d (.scr (ns.map D.int))] [] = some (.d (.bl true), [])) :
    PySem.W.WalkO q loose XP YP l.row.toRowW d [] (fun f vs => PySem.call f vs) := by
  refine Att.attach_callB hn hdf fun w s0 s1 mg mb fa o pm cd doc a vs ns G Y ho hd hcd hmg hobj hints hlen hbits hg => ?_
  have KX := hY w _ Y
  letI : TabI := ⟨(lf w.params).map fun p => (p.2.2, p.1 ++ ".<locals>." ++ "<lambda>")⟩
  have tb := tab w mg _ KX G.T.g
  have h0 : ∀ (f : Nat) (fn : Fn), Pr.T[f]? = some fn → ∃ fa fd, FnF (K w.params) mg fn fa fd := fun f fn hf => by
    obtain ⟨st, dd, _⟩ := tb.ok f fn hf
    obtain ⟨fa, fd, _, ff⟩ := dd.fnF
    exact ⟨fa, fd, ff⟩
  have tabs : ∀ p ∈ lf w.params, CodeHd s1.heap p.2.1 p.2.2 ∧ s1.heap.get? p.2.2 = some { cls := .none, data := .fields #[] } := fun p hp => by
    obtain ⟨h1, _, ⟨dr, h2⟩, _⟩ := hlf w p hp
    exact tab_of G.T KX h2 h1
  refine call_end (x := "script") (T := Pr.T) (k := k) (f := f) (cs := (lf w.params).map (·.2)) KX G.T.g G.T.b G.T.builtins G.T.nolimit hg (fun p hp => ?_) (fun p hp => ?_) (fun p hp => ?_) (fun p hp => ?_) G.T.bmain hobj hints (Nat.le_trans hlen (by rw [sizeLine_eq]; omega)) hroom (fun base kb nb tbb => ?_) (main ns hlen hbits)
  · obtain ⟨r, hr, rfl⟩ := List.mem_map.mp hp
    exact (tabs r hr).2
  · obtain ⟨r, hr, rfl⟩ := List.mem_map.mp hp
    exact (hlf w r hr).2.1
  · obtain ⟨r, hr, rfl⟩ := List.mem_map.mp hp
    exact (tabs r hr).1
  · obtain ⟨r, hr, rfl⟩ := List.mem_map.mp hp
    exact List.mem_map.mpr ⟨r.2, List.mem_map.mpr ⟨r, hr, rfl⟩, rfl⟩
  have lm : LamT (K w.params) mg base Pr := fun f fn hf hl => by
    obtain ⟨p, hp, e⟩ := hlam w f fn hf hl
    obtain ⟨h1, _, _, h4⟩ := hlf w p hp
    refine ⟨p.2.1, p.2.2, by rw [← e]; exact h1, tbb p.2 (List.mem_map.mpr ⟨p, hp, rfl⟩), List.mem_map.mpr ⟨p, hp, by rw [e]⟩, fun r hr hq => ?_⟩
    obtain ⟨u, hu, rfl⟩ := List.mem_map.mp hr
    show u.1 ++ ".<locals>." ++ "<lambda>" = _
    rw [h4 u hu hq, e]
  obtain ⟨fa2, fd2, ff2, gk⟩ := fns_all (P := l.prog) (w := w) (base := base) tb lm h0 k f fn hf
  have z := ff2.mg
  rw [hnm, hmg] at z
  cases z
  have e1 : fn.ps.length = 1 := by rw [hps]; rfl
  rw [e1] at gk
  have hb2 := ff2.bp [.ref a] (by rw [hps]; rfl)
  rw [hps] at hb2 gk
  exact ⟨fd2, gk, hb2⟩
end DL
end

section
set_option autoImplicit false
set_option linter.all false
/-! The law's end where one def makes a lambda. -/
namespace DL
open PySem PySem.Spec PyProof.Rows L2 PySem.W
def tabB (K : PySem.W.Frag) (x : Str) : Bool := match tabIn K x with
  | some cp => (K.lookup cp.2).isNone
  | none => false
def lf1 (K : Params → PySem.W.Frag) (x : Str) : Params → List (Str × Addr × Addr) := fun P => match tabIn (K P) x with
  | some cp => [(x, cp)]
  | none => []
theorem tabB_out {K : PySem.W.Frag} {x : Str} (h : tabB K x = true) : ∃ cp, tabIn K x = some cp ∧ K.lookup cp.2 = none := by
  unfold tabB at h
  split at h
  · rename_i cp e
    exact ⟨cp, e, by simpa using h⟩
  · cases h
theorem walk_D1 {l : PySem.W.OpenLaw} {q : Program} {loose : List Str} {XP : (Str → Option Value) → Heap → Prop} {YP : World → Heap → Prop} {d : DefRec} {K : Params → PySem.W.Frag} {Pr : Prm} {sts : List Stmt} {k f : Nat} {fn : Fn} (x : Str)
    (hn : l.most = some 63) (hdf : d.params.defaults = []) (hroom : Room k callerA) (hf : Pr.T[f]? = some fn) (hnm : fn.name = d.name) (hps : fn.ps = [("script" : Str)])
    (hY : ∀ (w : World) (h : Heap), YP w h → (K w.params).In h)
    (tab : ∀ (w : World) (mg : Str → Option Value) (h : Heap), (K w.params).In h → h.Ns mainGlobals mg → Tab (K w.params) mg Pr sts)
    (hB : ∀ w : World, tabB (K w.params) x = true) (hR : ((recsOf q).find? (fun e => e.name == x)).isSome = true)
    (hlam : (Pr.T.all fun fn => !Pr.lams.contains fn.N || decide (fn.name = x)) = true)
    (main : ∀ ns : List Int, ns.length ≤ 63 → (∀ z ∈ ns, Builtin.Int.intBits z ≤ 1048576) → callD Pr.T k f [.d (.scr (ns.map D.int))] [] = some (.d (.bl true), [])) :
    PySem.W.WalkO q loose XP YP l.row.toRowW d [] (fun f vs => PySem.call f vs) := by
  refine walk_D (lf1 K x) hn hdf hroom hf hnm hps hY tab (fun w p hp => ?_) (fun w g fn hg hl => ?_) main
  · obtain ⟨cp, h1, h2⟩ := tabB_out (hB w)
    have e : lf1 K x w.params = [(x, cp)] := by
      unfold lf1
      rw [h1]
    rw [e] at hp ⊢
    rw [List.mem_singleton] at hp
    subst hp
    refine ⟨h1, h2, Option.isSome_iff_exists.mp hR, fun r hr _ => ?_⟩
    rw [List.mem_singleton] at hr
    rw [hr]
  · obtain ⟨cp, h1, h2⟩ := tabB_out (hB w)
    have e : lf1 K x w.params = [(x, cp)] := by
      unfold lf1
      rw [h1]
    refine ⟨(x, cp), by rw [e]; exact List.mem_singleton.mpr rfl, ?_⟩
    have h3 := List.all_eq_true.mp hlam fn (List.mem_of_getElem? hg)
    rw [hl] at h3
    have h4 : fn.name = x := by simpa using h3
    exact h4.symm
end DL
end

section
set_option autoImplicit false
set_option linter.all false
set_option maxRecDepth 100000
namespace K56
open PySem L2 DL
def top (i : Nat) : Stmt := PySem.Challenge.pw_enoughvoices_k56_whole_seats_by_steps.main.body.getD i (.Pass ⟨0, 0, 0, 0⟩)
/-- is_integer -/
def f0 : Fn := ⟨"is_integer", ["value"], ["value"], [
  .ret (.and (.isa .int (.var 0)) (.not (.isa .bool (.var 0))))]⟩
/-- is_between -/
def f1 : Fn := ⟨"is_between", ["value", "least", "most"], ["value", "least", "most"], [
  .ret (.and (.call 0 [.var 0]) (.chain .le .le (.var 1) (.var 0) (.var 2)))]⟩
/-- check_votes -/
def f2 : Fn := ⟨"check_votes", ["votes", "seats"], ["votes", "seats", "one"], [
  .ife (.or (.not (.isa .tuple (.var 0))) (.not (.chain .lt .le (.cst (.int 0)) (.o1 .len (.var 0)) (.glob "MOST_WEIGHTS" (.int 20))))) [.raise] [],
  .ife (.not (.o1 .all (.lc (.call 1 [.var 2, .cst (.int 1), .glob "MOST_VOTES" (.int 1000000000)]) (.nm 2) .tup [.var 0] [] [2]))) [.raise] [],
  .ife (.not (.call 1 [.var 1, .cst (.int 0), .glob "MOST_SEATS" (.int 500)])) [.raise] []]⟩
/-- dues_of -/
def f3 : Fn := ⟨"dues_of", ["votes", "seats"], ["votes", "seats", "whole", "one"], [
  .asg (.nm 2) (.o1 .sumT (.var 0)),
  .ret (.lc (.tup [.o2 .fdiv (.o2 .mul (.var 3) (.var 1)) (.var 2), .o2 .mod (.o2 .mul (.var 3) (.var 1)) (.var 2)]) (.nm 3) .tup [.var 0] [] [3])]⟩
/-- due_seats -/
def f4 : Fn := ⟨"due_seats", ["votes", "seats"], ["votes", "seats", "rows", "left", "order", "at", "low", "rest"], [
  .asg (.nm 2) (.call 3 [.var 0, .var 1]),
  .asg (.nm 3) (.o2 .sub (.var 1) (.o1 .sum (.lc (.var 6) (.tp [(.nm 6), (.nm 7)]) .lst [.var 2] [] [6, 7]))),
  .asg (.nm 4) (.srt (.o1 .len (.var 2)) 2),
  .ret (.o1 .tupleL (.lc (.o2 .add (.var 6) (.o1 .int (.o2 .isIn (.var 5) (.slL (.var 4) none (some (.var 3)))))) (.tp [(.nm 5), (.tp [(.nm 6), (.nm 7)])]) .enumL [.var 2] [] [5, 6, 7]))]⟩
/-- by_due -/
def f5 : Fn := ⟨"by_due", ["votes", "seats"], ["votes", "seats"], [
  .expr (.call 2 [.var 0, .var 1]),
  .ret (.call 4 [.var 0, .var 1])]⟩
/-- are_seats -/
def f6 : Fn := ⟨"are_seats", ["votes", "seats", "value"], ["votes", "seats", "value", "one"], [
  .ife (.or (.not (.isa .tuple (.var 2))) (.o2 .ne (.o1 .len (.var 2)) (.o1 .len (.var 0)))) [.ret (.cst (.bl false))] [],
  .ret (.and (.o1 .all (.lc (.call 1 [.var 3, .cst (.int 0), .var 1]) (.nm 3) .tup [.var 2] [] [3])) (.o2 .eq (.o1 .sumT (.var 2)) (.var 1)))]⟩
/-- is_within -/
def f7 : Fn := ⟨"is_within", ["votes", "seats", "value"], ["votes", "seats", "value", "one", "low", "rest"], [
  .expr (.call 2 [.var 0, .var 1]),
  .ife (.not (.call 6 [.var 0, .var 1, .var 2])) [.ret (.cst (.bl false))] [],
  .ret (.o1 .all (.lc (.chain .le .le (.var 4) (.var 3) (.o2 .add (.var 4) (.o1 .int (.o2 .gt (.var 5) (.cst (.int 0)))))) (.tp [(.nm 3), (.tp [(.nm 4), (.nm 5)])]) .zipTL [.var 2, .call 3 [.var 0, .var 1]] [] [3, 4, 5]))]⟩
/-- check_steps -/
def f8 : Fn := ⟨"check_steps", ["votes", "seats", "kind"], ["votes", "seats", "kind"], [
  .expr (.call 2 [.var 0, .var 1]),
  .ife (.or (.not (.isa .str (.var 2))) (.o2 .notIn (.var 2) (.tup [.glob "DOWN" (.str "down"), .glob "HALF" (.str "half"), .glob "UP" (.str "up")]))) [.raise] []]⟩
/-- step -/
def f9 : Fn := ⟨"step", ["kind", "seats"], ["kind", "seats"], [
  .ife (.o2 .eq (.var 0) (.glob "HALF" (.str "half"))) [.ret (.o2 .add (.o2 .mul (.cst (.int 2)) (.var 1)) (.cst (.int 1)))] [],
  .ret (.ite (.o2 .eq (.var 0) (.glob "DOWN" (.str "down"))) (.o2 .add (.var 1) (.cst (.int 1))) (.var 1))]⟩
/-- by_steps -/
def f10 : Fn := ⟨"by_steps", ["votes", "seats", "kind"], ["votes", "seats", "kind", "found", "lap", "best", "at"], [
  .expr (.call 8 [.var 0, .var 1, .var 2]),
  .asg (.nm 3) (.new (.o2 .repL (.lst [.cst (.int 0)]) (.o1 .len (.var 0)))),
  .for_ (.nm 4) .rng1 [.var 1] [.asg (.nm 5) (.cst (.int 0)), .for_ (.nm 6) .rng2 [.cst (.int 1), .o1 .len (.var 0)] [.ife (.o2 .gt (.o2 .mul (.idxT (.var 0) (.var 6)) (.call 9 [.var 2, .idxL (.var 3) (.var 5)])) (.o2 .mul (.idxT (.var 0) (.var 5)) (.call 9 [.var 2, .idxL (.var 3) (.var 6)]))) [.asg (.nm 5) (.var 6)] []], .setI (.var 3) (.var 5) (.o2 .add (.idxL (.var 3) (.var 5)) (.cst (.int 1)))],
  .frz 3,
  .ret (.o1 .tupleL (.var 3))]⟩
/-- shows_by_steps -/
def f11 : Fn := ⟨"shows_by_steps", ["votes", "seats", "kind", "value"], ["votes", "seats", "kind", "value", "at", "one", "to", "other"], [
  .expr (.call 8 [.var 0, .var 1, .var 2]),
  .ife (.not (.call 6 [.var 0, .var 1, .var 3])) [.ret (.cst (.bl false))] [],
  .for_ (.tp [(.nm 4), (.nm 5)]) .enumT [.var 3] [.for_ (.tp [(.nm 6), (.nm 7)]) .enumT [.var 3] [.ife (.and (.o2 .ne (.var 4) (.var 6)) (.and (.o2 .gt (.var 7) (.cst (.int 0))) (.o2 .gt (.o2 .mul (.idxT (.var 0) (.var 4)) (.call 9 [.var 2, .o2 .sub (.var 7) (.cst (.int 1))])) (.o2 .mul (.idxT (.var 0) (.var 6)) (.call 9 [.var 2, .var 5]))))) [.ret (.cst (.bl false))] []]],
  .ret (.cst (.bl true))]⟩
/-- _law_pot -/
def f12 : Fn := ⟨"_law_pot", ["script", "place"], ["script", "place", "cell", "own", "small"], [
  .asg (.nm 2) (.ite (.o2 .lt (.var 1) (.o1 .len (.var 0))) (.idxL (.var 0) (.var 1)) (.o2 .add (.o2 .add (.o2 .mod (.o1 .sum (.slL (.var 0) none (some (.cst (.int 1))))) (.cst (.int 1000003))) (.o2 .mul (.cst (.int 9673)) (.var 1))) (.cst (.int 7137)))),
  .asg (.nm 3) (.o2 .mul (.o2 .mod (.o1 .int (.o1 .abs (.var 2))) (.o2 .pow (.o2 .pow (.cst (.int 10)) (.cst (.int 60))) (.cst (.int 5)))) (.o1 .int (.o2 .ge (.o1 .abs (.var 2)) (.o2 .pow (.cst (.int 10)) (.cst (.int 18)))))),
  .asg (.nm 4) (.o2 .mod (.o1 .int (.var 2)) (.cst (.int 2305843009213693951))),
  .ret (.new (.lst [.var 3, .o2 .mod (.o1 .int (.o2 .add (.o2 .add (.o2 .mul (.var 4) (.cst (.int 76743))) (.o2 .mul (.o2 .mul (.cst (.int 7125)) (.var 1)) (.var 1))) (.cst (.int 2565)))) (.cst (.int 2305843009213693921)), .cst (.int 0)]))]⟩
/-- _law_take -/
def f13 : Fn := ⟨"_law_take", ["pot", "upto"], ["pot", "upto", "prime", "blend", "digit"], [
  .ife (.o2 .gt (.idxL (.var 0) (.cst (.int 0))) (.cst (.int 0))) [.asg (.nm 4) (.o2 .mod (.o1 .int (.idxL (.var 0) (.cst (.int 0)))) (.var 1)), .setI (.var 0) (.cst (.int 0)) (.o2 .fdiv (.idxL (.var 0) (.cst (.int 0))) (.var 1)), .ret (.var 4)] [],
  .setI (.var 0) (.cst (.int 2)) (.o2 .add (.idxL (.var 0) (.cst (.int 2))) (.cst (.int 1))),
  .asg (.nm 2) (.idxL (.lst [.cst (.int 2147483647), .cst (.int 2147483629), .cst (.int 2147483587), .cst (.int 2147483579), .cst (.int 2147483563)]) (.o2 .mod (.o1 .int (.idxL (.var 0) (.cst (.int 2)))) (.cst (.int 5)))),
  .asg (.nm 3) (.o2 .mod (.o1 .int (.o2 .pow (.o1 .int (.o2 .add (.o2 .add (.idxL (.var 0) (.cst (.int 1))) (.o2 .mul (.o2 .mul (.cst (.int 99684)) (.idxL (.var 0) (.cst (.int 2)))) (.idxL (.var 0) (.cst (.int 2))))) (.cst (.int 2565)))) (.cst (.int 3)))) (.var 2)),
  .asg (.nm 3) (.o2 .mod (.o1 .int (.o2 .mul (.var 3) (.o2 .add (.o2 .mod (.o1 .int (.var 3)) (.cst (.int 16138))) (.o2 .mul (.cst (.int 55)) (.idxL (.var 0) (.cst (.int 2))))))) (.cst (.int 2305843009213693907))),
  .ret (.o2 .mod (.o1 .int (.o2 .fdiv (.var 3) (.cst (.int 128)))) (.var 1))]⟩
/-- _law_of -/
def f14 : Fn := ⟨"_law_of", ["pot", "some"], ["pot", "some"], [
  .ret (.idxL (.var 1) (.call 13 [.var 0, .o1 .len (.var 1)]))]⟩
/-- _law_cells -/
def f15 : Fn := ⟨"_law_cells", ["script", "limit"], ["script", "limit"], [
  .ret (.lstRg1 (.max2 (.cst (.int 1)) (.min2 (.var 1) (.o1 .len (.var 0)))))]⟩
/-- _law_bent -/
def f16 : Fn := ⟨"_law_bent", ["pot", "value"], ["pot", "value", "way", "at"], [
  .ife (.and (.isa .tuple (.var 1)) (.and (.o2 .ne (.var 1) (.tup [])) (.o2 .gt (.call 13 [.var 0, .cst (.int 5)]) (.cst (.int 0))))) [.par 2 3 (.call 13 [.var 0, .cst (.int 8)]) (.call 13 [.var 0, .o1 .len (.var 1)]), .ife (.o2 .lt (.var 2) (.cst (.int 4))) [.ret (.o2 .catT (.o2 .catT (.slT (.var 1) none (some (.var 3))) (.tup [.call 16 [.var 0, .idxT (.var 1) (.var 3)]])) (.slT (.var 1) (some (.o2 .add (.var 3) (.cst (.int 1)))) none))] [], .ret (.idxL (.lst [.o2 .catT (.slT (.var 1) none (some (.var 3))) (.slT (.var 1) (some (.o2 .add (.var 3) (.cst (.int 1)))) none), .o2 .catT (.slT (.var 1) none (some (.o2 .add (.var 3) (.cst (.int 1))))) (.slT (.var 1) (some (.var 3)) none), .revT (.var 1), .o1 .listT (.var 1)]) (.o2 .sub (.var 2) (.cst (.int 4))))] [],
  .ife (.and (.isa .int (.var 1)) (.not (.isa .bool (.var 1)))) [.ret (.call 14 [.var 0, .lst [.o2 .add (.var 1) (.cst (.int 1)), .o2 .sub (.var 1) (.cst (.int 1)), .o2 .sub (.cst (.int 0)) (.var 1), .o2 .eq (.var 1) (.cst (.int 1)), .cst .non, .o1 .str (.var 1), .tup [.var 1], .cst (.int 99), .cst (.int 100)]])] [],
  .ret (.call 14 [.var 0, .lst [.cst (.str "down"), .cst (.str "up"), .cst (.str "a"), .cst (.str "b"), .cst (.str "c"), .cst (.str ""), .cst .non, .tup [], .lst [], .cst (.int 0), .dnew]])]⟩
/-- _law_step -/
def f17 : Fn := ⟨"_law_step", ["kind", "seats"], ["kind", "seats"], [
  .ret (.idxD (.dsp ["down", "half", "up"] [.o2 .add (.var 1) (.cst (.int 1)), .o2 .add (.o2 .mul (.cst (.int 2)) (.var 1)) (.cst (.int 1)), .var 1]) (.var 0))]⟩
/-- _law_is_right -/
def f18 : Fn := ⟨"_law_is_right", ["votes", "seats", "kind", "value"], ["votes", "seats", "kind", "value", "at", "one", "to", "other"], [
  .ife (.or (.not (.isa .tuple (.var 3))) (.o2 .ne (.o1 .len (.var 3)) (.o1 .len (.var 0)))) [.ret (.cst (.bl false))] [],
  .ife (.not (.o1 .all (.lc (.and (.isa .int (.var 5)) (.and (.not (.isa .bool (.var 5))) (.o2 .ge (.var 5) (.cst (.int 0))))) (.nm 5) .tup [.var 3] [] [5]))) [.ret (.cst (.bl false))] [],
  .ife (.o2 .ne (.o1 .sumT (.var 3)) (.var 1)) [.ret (.cst (.bl false))] [],
  .for_ (.tp [(.nm 4), (.nm 5)]) .enumT [.var 3] [.for_ (.tp [(.nm 6), (.nm 7)]) .enumT [.var 3] [.ife (.and (.o2 .ne (.var 4) (.var 6)) (.o2 .gt (.var 7) (.cst (.int 0)))) [.ife (.o2 .gt (.o2 .mul (.idxT (.var 0) (.var 4)) (.call 17 [.var 2, .o2 .sub (.var 7) (.cst (.int 1))])) (.o2 .mul (.idxT (.var 0) (.var 6)) (.call 17 [.var 2, .var 5]))) [.ret (.cst (.bl false))] []] []]],
  .ret (.cst (.bl true))]⟩
/-- _law_all_seats -/
def f19 : Fn := ⟨"_law_all_seats", ["many", "seats"], ["many", "seats", "rows", "lap", "longer", "row", "one"], [
  .asg (.nm 2) (.lst [.tup []]),
  .for_ (.nm 3) .rng1 [.var 0] [.asg (.nm 4) (.new (.lst [])), .for_ (.nm 5) .lst [.var 2] [.expr (.ext (.var 4) (.lc (.o2 .catT (.var 5) (.tup [.var 6])) (.nm 6) .rng1 [.o2 .add (.o2 .sub (.var 1) (.o1 .sumT (.var 5))) (.cst (.int 1))] [] [6]))], .frz 4, .asg (.nm 2) (.var 4)],
  .ret (.lc (.var 5) (.nm 5) .lst [.var 2] [.o2 .eq (.o1 .sumT (.var 5)) (.var 1)] [5])]⟩
/-- _law_is_bounded -/
def f20 : Fn := ⟨"_law_is_bounded", ["votes", "seats", "kind", "row"], ["votes", "seats", "kind", "row", "whole", "one", "vote"], [
  .asg (.nm 4) (.o1 .sumT (.var 0)),
  .ife (.o2 .eq (.var 2) (.cst (.str "down"))) [.ret (.o1 .all (.lc (.o2 .ge (.var 5) (.o2 .fdiv (.o2 .mul (.var 6) (.var 1)) (.var 4))) (.tp [(.nm 5), (.nm 6)]) .zipTT [.var 3, .var 0] [] [5, 6]))] [],
  .ife (.o2 .eq (.var 2) (.cst (.str "up"))) [.ret (.o1 .all (.lc (.or (.o2 .lt (.o2 .mul (.o2 .sub (.var 5) (.cst (.int 1))) (.var 4)) (.o2 .mul (.var 6) (.var 1))) (.o2 .eq (.var 5) (.cst (.int 0)))) (.tp [(.nm 5), (.nm 6)]) .zipTT [.var 3, .var 0] [] [5, 6]))] [],
  .ret (.or (.o2 .ne (.o1 .len (.var 0)) (.cst (.int 2))) (.o1 .all (.lc (.o2 .lt (.o1 .abs (.o2 .sub (.o2 .mul (.var 5) (.var 4)) (.o2 .mul (.var 6) (.var 1)))) (.var 4)) (.tp [(.nm 5), (.nm 6)]) .zipTT [.var 3, .var 0] [] [5, 6])))]⟩
/-- _law_is_kind_right -/
def f21 : Fn := ⟨"_law_is_kind_right", ["pot", "votes", "seats", "kind"], ["pot", "votes", "seats", "kind", "told", "every", "good", "values", "value", "more", "both", "rows", "sign", "due", "row", "lap", "one", "other"], [
  .asg (.tp [(.nm 4), (.nm 5)]) (.tup [.callK 10 [.var 1, .var 2, .var 3], .call 19 [.o1 .len (.var 1), .var 2]]),
  .asg (.nm 6) (.lc (.var 14) (.nm 14) .lst [.var 5] [.call 18 [.var 1, .var 2, .var 3, .var 14]] [14]),
  .ife (.or (.o2 .notInD (.var 4) (.var 6)) (.not (.o1 .all (.lc (.call 20 [.var 1, .var 2, .var 3, .var 14]) (.nm 14) .lst [.var 6] [] [14])))) [.ret (.cst (.bl false))] [],
  .asg (.nm 7) (.o2 .catL (.slL (.var 5) none (some (.cst (.int 80)))) (.lst [.o1 .listT (.var 4), .revT (.var 4), .slT (.var 4) (some (.cst (.int 1))) none, .o2 .catT (.var 4) (.tup [.cst (.int 0)]), .cst .non, .o1 .tupleL (.lc (.o2 .eq (.var 16) (.cst (.int 1))) (.nm 16) .tup [.var 4] [] [16])])),
  .for_ (.nm 8) .lst [.o2 .catL (.var 7) (.lc (.call 16 [.var 0, .var 4]) (.nm 15) .rng1 [.cst (.int 6)] [] [15])] [.asg (.nm 13) (.call 18 [.var 1, .var 2, .var 3, .var 8]), .ife (.o2 .ne (.o1 .repr (.callK 11 [.var 1, .var 2, .var 3, .var 8])) (.o1 .repr (.var 13))) [.ret (.cst (.bl false))] []],
  .asg (.nm 9) (.lc (.var 14) (.nm 14) .lst [.call 19 [.o1 .len (.var 1), .o2 .add (.var 2) (.cst (.int 1))]] [.call 18 [.var 1, .o2 .add (.var 2) (.cst (.int 1)), .var 3, .var 14]] [14]),
  .ife (.not (.o1 .any (.lc (.o1 .all (.lc (.o2 .le (.var 16) (.var 17)) (.tp [(.nm 16), (.nm 17)]) .zipTT [.var 4, .var 14] [] [16, 17])) (.nm 14) .lst [.var 9] [] [14]))) [.ret (.cst (.bl false))] [],
  .ife (.o2 .notInD (.call 10 [.var 1, .o2 .add (.var 2) (.cst (.int 1)), .var 3]) (.var 9)) [.ret (.cst (.bl false))] [],
  .ife (.or (.o2 .lt (.o1 .len (.var 1)) (.cst (.int 2))) (.o2 .eq (.var 3) (.cst (.str "half")))) [.ret (.or (.o2 .ne (.o1 .len (.var 1)) (.cst (.int 2))) (.call 18 [.var 1, .var 2, .var 3, .call 5 [.var 1, .var 2]]))] [],
  .asg (.nm 10) (.o2 .catT (.tup [.o2 .add (.idxT (.var 1) (.cst (.int 0))) (.idxT (.var 1) (.cst (.int 1)))]) (.slT (.var 1) (some (.cst (.int 2))) none)),
  .asg (.nm 11) (.lc (.var 14) (.nm 14) .lst [.call 19 [.o1 .len (.var 10), .var 2]] [.call 18 [.var 10, .var 2, .var 3, .var 14]] [14]),
  .asg (.nm 12) (.ite (.o2 .eq (.var 3) (.cst (.str "down"))) (.cst (.int 1)) (.o1 .neg (.cst (.int 1)))),
  .ret (.o1 .any (.lc (.o2 .ge (.o2 .mul (.var 12) (.o2 .sub (.o2 .sub (.idxT (.var 14) (.cst (.int 0))) (.idxT (.var 4) (.cst (.int 0)))) (.idxT (.var 4) (.cst (.int 1))))) (.cst (.int 0))) (.nm 14) .lst [.var 11] [] [14]))]⟩
/-- _law_are_few_right -/
def f22 : Fn := ⟨"_law_are_few_right", ["pot"], ["pot", "votes", "seats", "at", "kind"], [
  .asg (.nm 1) (.o1 .tupleL (.lc (.o1 .int (.o2 .add (.cst (.int 1)) (.call 13 [.var 0, .call 14 [.var 0, .lst [.cst (.int 3), .cst (.int 20), .cst (.int 999)]]]))) (.nm 3) .rng1 [.o2 .add (.cst (.int 1)) (.call 13 [.var 0, .cst (.int 4)])] [] [3])),
  .asg (.nm 2) (.o1 .int (.call 13 [.var 0, .cst (.int 8)])),
  .ret (.o1 .all (.lc (.call 21 [.var 0, .var 1, .var 2, .var 4]) (.nm 4) .tup [.tup [.cst (.str "down"), .cst (.str "half"), .cst (.str "up")]] [] [4]))]⟩
/-- _law_are_many_right -/
def f23 : Fn := ⟨"_law_are_many_right", ["pot"], ["pot", "votes", "seats", "kind", "told", "at"], [
  .asg (.nm 1) (.o1 .tupleL (.lc (.o1 .int (.o2 .add (.cst (.int 1)) (.call 13 [.var 0, .call 14 [.var 0, .lst [.cst (.int 20), .o2 .pow (.cst (.int 10)) (.cst (.int 9))]]]))) (.nm 5) .rng1 [.o2 .add (.cst (.int 5)) (.call 13 [.var 0, .cst (.int 16)])] [] [5])),
  .asg (.nm 2) (.o1 .int (.call 13 [.var 0, .cst (.int 501)])),
  .for_ (.nm 3) .tup [.tup [.cst (.str "down"), .cst (.str "half"), .cst (.str "up")]] [.asg (.nm 4) (.call 10 [.var 1, .var 2, .var 3]), .ife (.or (.not (.call 18 [.var 1, .var 2, .var 3, .var 4])) (.not (.call 20 [.var 1, .var 2, .var 3, .var 4]))) [.ret (.cst (.bl false))] [], .ife (.notB true (.call 11 [.var 1, .var 2, .var 3, .var 4])) [.ret (.cst (.bl false))] []],
  .ret (.cst (.bl true))]⟩
/-- _law_are_known_right -/
def f24 : Fn := ⟨"_law_are_known_right", [], ["few"], [
  .asg (.nm 0) (.tup [.cst (.int 90), .cst (.int 2), .cst (.int 2), .cst (.int 2), .cst (.int 2), .cst (.int 2)]),
  .ife (.or (.o2 .ne (.call 10 [.tup [.cst (.int 90), .cst (.int 8), .cst (.int 2)], .cst (.int 10), .cst (.str "down")]) (.tup [.cst (.int 10), .cst (.int 0), .cst (.int 0)])) (.o2 .ne (.call 10 [.var 0, .cst (.int 10), .cst (.str "up")]) (.tup [.cst (.int 5), .cst (.int 1), .cst (.int 1), .cst (.int 1), .cst (.int 1), .cst (.int 1)]))) [.ret (.cst (.bl false))] [],
  .ife (.notB false (.call 7 [.var 0, .cst (.int 10), .tup [.cst (.int 5), .cst (.int 1), .cst (.int 1), .cst (.int 1), .cst (.int 1), .cst (.int 1)]])) [.ret (.cst (.bl false))] [],
  .ret (.and (.o2 .eq (.call 10 [.tup [.cst (.int 5), .cst (.int 3)], .cst (.int 0), .cst (.str "half")]) (.tup [.cst (.int 0), .cst (.int 0)])) (.o2 .eq (.call 10 [.tup [.cst (.int 1), .cst (.int 1), .cst (.int 1)], .cst (.int 3), .cst (.str "up")]) (.tup [.cst (.int 1), .cst (.int 1), .cst (.int 1)])))]⟩
/-- law -/
def f25 : Fn := ⟨"law", ["script"], ["script", "place", "pot", "lap"], [
  .for_ (.nm 1) .lst [.call 15 [.var 0, .cst (.int 2)]] [.asg (.nm 2) (.call 12 [.var 0, .var 1]), .ife (.or (.not (.o1 .all (.lc (.call 22 [.var 2]) (.nm 3) .rng1 [.cst (.int 2)] [] [3]))) (.not (.call 23 [.var 2]))) [.ret (.cst (.bl false))] [], .ife (.not (.call 24 [])) [.ret (.cst (.bl false))] []],
  .ret (.cst (.bl true))]⟩
def tab : List Fn := [f0, f1, f2, f3, f4, f5, f6, f7, f8, f9, f10, f11, f12, f13, f14, f15, f16, f17, f18, f19, f20, f21, f22, f23, f24, f25]
def prm : Prm := ⟨tab, [("DOWN", .str "down"), ("HALF", .str "half"), ("MOST_SEATS", .int 500), ("MOST_VOTES", .int 1000000000), ("MOST_WEIGHTS", .int 20), ("UP", .str "up")], ["abs", "all", "any", "bool", "enumerate", "int", "isinstance", "len", "list", "max", "min", "range", "repr", "sorted", "str", "sum", "tuple", "zip"], [f4.N]⟩
theorem c0 : chkF prm f0 (top 6) = true := by decide +kernel
theorem c1 : chkF prm f1 (top 7) = true := by decide +kernel
theorem c2 : chkF prm f2 (top 15) = true := by decide +kernel
theorem c3 : chkF prm f3 (top 16) = true := by decide +kernel
theorem c4 : chkF prm f4 (top 17) = true := by decide +kernel
theorem c5 : chkF prm f5 (top 18) = true := by decide +kernel
theorem c6 : chkF prm f6 (top 19) = true := by decide +kernel
theorem c7 : chkF prm f7 (top 20) = true := by decide +kernel
theorem c8 : chkF prm f8 (top 21) = true := by decide +kernel
theorem c9 : chkF prm f9 (top 22) = true := by decide +kernel
theorem c10 : chkF prm f10 (top 23) = true := by decide +kernel
theorem c11 : chkF prm f11 (top 24) = true := by decide +kernel
theorem c12 : chkF prm f12 (top 26) = true := by decide +kernel
theorem c13 : chkF prm f13 (top 27) = true := by decide +kernel
theorem c14 : chkF prm f14 (top 28) = true := by decide +kernel
theorem c15 : chkF prm f15 (top 29) = true := by decide +kernel
theorem c16 : chkF prm f16 (top 30) = true := by decide +kernel
theorem c17 : chkF prm f17 (top 31) = true := by decide +kernel
theorem c18 : chkF prm f18 (top 32) = true := by decide +kernel
theorem c19 : chkF prm f19 (top 33) = true := by decide +kernel
theorem c20 : chkF prm f20 (top 34) = true := by decide +kernel
theorem c21 : chkF prm f21 (top 35) = true := by decide +kernel
theorem c22 : chkF prm f22 (top 36) = true := by decide +kernel
theorem c23 : chkF prm f23 (top 37) = true := by decide +kernel
theorem c24 : chkF prm f24 (top 38) = true := by decide +kernel
theorem c25 : chkF prm f25 (top 39) = true := by decide +kernel
theorem s0 : FnScope f0.N f0.ps (defScope (top 6)) := ⟨rfl, rfl, rfl, by decide +kernel, rfl, by decide +kernel, by decide +kernel⟩
theorem s1 : FnScope f1.N f1.ps (defScope (top 7)) := ⟨rfl, rfl, rfl, by decide +kernel, rfl, by decide +kernel, by decide +kernel⟩
theorem s2 : FnScope f2.N f2.ps (defScope (top 15)) := ⟨rfl, rfl, rfl, by decide +kernel, rfl, by decide +kernel, by decide +kernel⟩
theorem s3 : FnScope f3.N f3.ps (defScope (top 16)) := ⟨rfl, rfl, rfl, by decide +kernel, rfl, by decide +kernel, by decide +kernel⟩
theorem s4 : FnScope f4.N f4.ps (defScope (top 17)) := ⟨rfl, rfl, rfl, by decide +kernel, rfl, by decide +kernel, by decide +kernel⟩
theorem s5 : FnScope f5.N f5.ps (defScope (top 18)) := ⟨rfl, rfl, rfl, by decide +kernel, rfl, by decide +kernel, by decide +kernel⟩
theorem s6 : FnScope f6.N f6.ps (defScope (top 19)) := ⟨rfl, rfl, rfl, by decide +kernel, rfl, by decide +kernel, by decide +kernel⟩
theorem s7 : FnScope f7.N f7.ps (defScope (top 20)) := ⟨rfl, rfl, rfl, by decide +kernel, rfl, by decide +kernel, by decide +kernel⟩
theorem s8 : FnScope f8.N f8.ps (defScope (top 21)) := ⟨rfl, rfl, rfl, by decide +kernel, rfl, by decide +kernel, by decide +kernel⟩
theorem s9 : FnScope f9.N f9.ps (defScope (top 22)) := ⟨rfl, rfl, rfl, by decide +kernel, rfl, by decide +kernel, by decide +kernel⟩
theorem s10 : FnScope f10.N f10.ps (defScope (top 23)) := ⟨rfl, rfl, rfl, by decide +kernel, rfl, by decide +kernel, by decide +kernel⟩
theorem s11 : FnScope f11.N f11.ps (defScope (top 24)) := ⟨rfl, rfl, rfl, by decide +kernel, rfl, by decide +kernel, by decide +kernel⟩
theorem s12 : FnScope f12.N f12.ps (defScope (top 26)) := ⟨rfl, rfl, rfl, by decide +kernel, rfl, by decide +kernel, by decide +kernel⟩
theorem s13 : FnScope f13.N f13.ps (defScope (top 27)) := ⟨rfl, rfl, rfl, by decide +kernel, rfl, by decide +kernel, by decide +kernel⟩
theorem s14 : FnScope f14.N f14.ps (defScope (top 28)) := ⟨rfl, rfl, rfl, by decide +kernel, rfl, by decide +kernel, by decide +kernel⟩
theorem s15 : FnScope f15.N f15.ps (defScope (top 29)) := ⟨rfl, rfl, rfl, by decide +kernel, rfl, by decide +kernel, by decide +kernel⟩
theorem s16 : FnScope f16.N f16.ps (defScope (top 30)) := ⟨rfl, rfl, rfl, by decide +kernel, rfl, by decide +kernel, by decide +kernel⟩
theorem s17 : FnScope f17.N f17.ps (defScope (top 31)) := ⟨rfl, rfl, rfl, by decide +kernel, rfl, by decide +kernel, by decide +kernel⟩
theorem s18 : FnScope f18.N f18.ps (defScope (top 32)) := ⟨rfl, rfl, rfl, by decide +kernel, rfl, by decide +kernel, by decide +kernel⟩
theorem s19 : FnScope f19.N f19.ps (defScope (top 33)) := ⟨rfl, rfl, rfl, by decide +kernel, rfl, by decide +kernel, by decide +kernel⟩
theorem s20 : FnScope f20.N f20.ps (defScope (top 34)) := ⟨rfl, rfl, rfl, by decide +kernel, rfl, by decide +kernel, by decide +kernel⟩
theorem s21 : FnScope f21.N f21.ps (defScope (top 35)) := ⟨rfl, rfl, rfl, by decide +kernel, rfl, by decide +kernel, by decide +kernel⟩
theorem s22 : FnScope f22.N f22.ps (defScope (top 36)) := ⟨rfl, rfl, rfl, by decide +kernel, rfl, by decide +kernel, by decide +kernel⟩
theorem s23 : FnScope f23.N f23.ps (defScope (top 37)) := ⟨rfl, rfl, rfl, by decide +kernel, rfl, by decide +kernel, by decide +kernel⟩
theorem s24 : FnScope f24.N f24.ps (defScope (top 38)) := ⟨rfl, rfl, rfl, by decide +kernel, rfl, by decide +kernel, by decide +kernel⟩
theorem s25 : FnScope f25.N f25.ps (defScope (top 39)) := ⟨rfl, rfl, rfl, by decide +kernel, rfl, by decide +kernel, by decide +kernel⟩
end K56
end

section
set_option autoImplicit false
set_option linter.all false
/-! The tongue's answers, step by step. -/
namespace DL
open PySem
/-- bind on a value: not by definition for simp, so that the kernel need not find the reduct itself -/
@[simp] theorem bnd {α β : Type} (x : α) (f : α → Option β) : (some x).bind f = f x := (rfl)
/-! eliminators, so that no match is left to be reduced -/
def getV (ρ : Env) (S : Store) (i : Nat) : Rs E := match ρ[i]? with
  | some (some x) => some (x, S)
  | _ => none
@[simp] theorem getV_zero (x : E) (r : Env) (S : Store) : getV (some x :: r) S 0 = some (x, S) := (rfl)
@[simp] theorem getV_succ (x : Option E) (r : Env) (S : Store) (i : Nat) : getV (x :: r) S (i + 1) = getV r S i := (rfl)
def thenO {α : Type} (o : Out) (f : Env → Option α) (h : E → Option α) : Option α := match o with
  | .nx ρ => f ρ
  | .ret x => h x
@[simp] theorem thenO_nx {α : Type} (ρ : Env) (f : Env → Option α) (h : E → Option α) : thenO (.nx ρ) f h = f ρ := (rfl)
@[simp] theorem thenO_ret {α : Type} (x : E) (f : Env → Option α) (h : E → Option α) : thenO (.ret x) f h = h x := (rfl)
def onSeq {α : Type} (x : D) (f : List D → Option α) : Option α := match x with
  | .lst xs => f xs
  | .scr xs => f xs
  | _ => none
@[simp] theorem onSeq_lst {α : Type} (xs : List D) (f : List D → Option α) : onSeq (.lst xs) f = f xs := (rfl)
@[simp] theorem onSeq_scr {α : Type} (xs : List D) (f : List D → Option α) : onSeq (.scr xs) f = f xs := (rfl)
def onT {α : Type} (x : D) (f : List D → Option α) : Option α := match x with
  | .tup xs => f xs
  | _ => none
@[simp] theorem onT_tup {α : Type} (xs : List D) (f : List D → Option α) : onT (.tup xs) f = f xs := (rfl)
def onDct {α : Type} (x : D) (f : List (L2.Key × D) → Option α) : Option α := match x with
  | .dct xs => f xs
  | _ => none
@[simp] theorem onDct_dct {α : Type} (xs : List (L2.Key × D)) (f : List (L2.Key × D) → Option α) : onDct (.dct xs) f = f xs := (rfl)
def onBl {α : Type} (x : D) (f : Bool → Option α) : Option α := match x with
  | .bl true => f true
  | .bl false => f false
  | _ => none
@[simp] theorem onBl_bl {α : Type} (b : Bool) (f : Bool → Option α) : onBl (.bl b) f = f b := by cases b <;> rfl
def onR {α : Type} (x : E) (f : Nat → Option α) : Option α := match x with
  | .r m => f m
  | _ => none
@[simp] theorem onR_r {α : Type} (m : Nat) (f : Nat → Option α) : onR (.r m) f = f m := (rfl)
def onL {α : Type} (x : E) (f : List D → Option α) : Option α := match x with
  | .d (.lst xs) => f xs
  | _ => none
@[simp] theorem onL_lst {α : Type} (xs : List D) (f : List D → Option α) : onL (.d (.lst xs)) f = f xs := (rfl)
def onG {α : Type} (x : E) (f : List D → List D → Option α) : Option α := match x with
  | .d (.lst (.lst (_ :: ys) :: r)) => f ys r
  | _ => none
@[simp] theorem onG_lst {α : Type} (y : D) (ys r : List D) (f : List D → List D → Option α) : onG (.d (.lst (.lst (y :: ys) :: r))) f = f ys r := (rfl)
/-- the open list m of the store -/
def getS {α : Type} (S : Store) (m : Nat) (f : List D → Option α) : Option α := match S[m]? with
  | some (some xs) => f xs
  | _ => none
theorem getS_of {α : Type} {S : Store} {m : Nat} {xs : List D} (h : S[m]? = some (some xs)) (f : List D → Option α) : getS S m f = f xs := by
  unfold getS
  rw [h]
theorem deref_r {S : Store} {m : Nat} {xs : List D} (h : S[m]? = some (some xs)) : deref S (.r m) = some (.lst xs) := by
  unfold deref
  simp only [h]
@[simp] theorem getS_snoc {α : Type} {S : Store} {xs : List D} (f : List D → Option α) : getS (S ++ [some xs]) S.length f = f xs := getS_of (by simp) f
@[simp] theorem deref_snoc {S : Store} {xs : List D} : deref (S ++ [some xs]) (.r S.length) = some (.lst xs) := deref_r (by simp)
section
variable {C : Call} {n : Nat} {ρ : Env} {S : Store}
@[simp] theorem deref_d (x : D) : deref S (.d x) = some x := (rfl)
@[simp] theorem asD_d (x : D) : asD (.d x) = some x := (rfl)
@[simp] theorem asI_int (i : Int) : asI (.int i) = some i := (rfl)
@[simp] theorem asL_lst (i : List D) : asL (.lst i) = some i := (rfl)
@[simp] theorem asT_tup (i : List D) : asT (.tup i) = some i := (rfl)
@[simp] theorem isTrueD_bl (b : Bool) : isTrueD (.d (.bl b)) = some b := (rfl)
@[simp] theorem asDs_nil : asDs [] = some [] := (rfl)
@[simp] theorem asDs_cons (x : D) (r : List E) : asDs (.d x :: r) = (asDs r).map (x :: ·) := (rfl)
@[simp] theorem ev_var (i : Nat) : ev C (n + 1) (.var i) ρ S = getV ρ S i := (rfl)
@[simp] theorem ev_cst (x : D) : ev C (n + 1) (.cst x) ρ S = some (.d x, S) := (rfl)
@[simp] theorem ev_glob (x : Str) (v : D) : ev C (n + 1) (.glob x v) ρ S = some (.d v, S) := (rfl)
@[simp] theorem ev_o2 (o : O2) (a b : Tm) : ev C (n + 1) (.o2 o a b) ρ S = (ev C n a ρ S).bind fun p => (ev C n b ρ p.2).bind fun q => (deref q.2 p.1).bind fun x => (deref q.2 q.1).bind fun y => (DL.o2 o x y).bind fun z => some (.d z, q.2) := (rfl)
@[simp] theorem ev_chain (o o' : O2) (a b c : Tm) : ev C (n + 1) (.chain o o' a b c) ρ S = (ev C n a ρ S).bind fun p => (ev C n b ρ p.2).bind fun q => (deref q.2 p.1).bind fun x => (deref q.2 q.1).bind fun y => (DL.o2 o x y).bind fun z => onBl z fun k =>
      if k = true then (ev C n c ρ q.2).bind fun r => (deref r.2 q.1).bind fun y' => (deref r.2 r.1).bind fun w => (DL.o2 o' y' w).bind fun u => some (.d u, r.2)
      else some (.d (.bl false), q.2) := (rfl)
@[simp] theorem ev_and (a b : Tm) : ev C (n + 1) (.and a b) ρ S = (ev C n a ρ S).bind fun p => (isTrueD p.1).bind fun c => if c = true then ev C n b ρ p.2 else some (.d (.bl false), p.2) := (rfl)
@[simp] theorem ev_or (a b : Tm) : ev C (n + 1) (.or a b) ρ S = (ev C n a ρ S).bind fun p => (isTrueD p.1).bind fun c => if c = true then some (.d (.bl true), p.2) else ev C n b ρ p.2 := (rfl)
@[simp] theorem ev_not (a : Tm) : ev C (n + 1) (.not a) ρ S = (ev C n a ρ S).bind fun p => (isTrueD p.1).bind fun c => some (.d (.bl (!c)), p.2) := (rfl)
@[simp] theorem ev_ite (c a b : Tm) : ev C (n + 1) (.ite c a b) ρ S = (ev C n c ρ S).bind fun p => (isTrueD p.1).bind fun k => if k = true then ev C n a ρ p.2 else ev C n b ρ p.2 := (rfl)
@[simp] theorem ev_o1 (o : O1) (a : Tm) : ev C (n + 1) (.o1 o a) ρ S = (ev C n a ρ S).bind fun p => (deref p.2 p.1).bind fun x => (DL.o1 o x).bind fun z => some (.d z, p.2) := (rfl)
@[simp] theorem ev_max2 (a b : Tm) : ev C (n + 1) (.max2 a b) ρ S = (ev C n a ρ S).bind fun p => (ev C n b ρ p.2).bind fun q => (asD p.1).bind fun x => (asD q.1).bind fun y => (asI x).bind fun i => (asI y).bind fun j => some (.d (.int (if j > i then j else i)), q.2) := (rfl)
@[simp] theorem ev_min2 (a b : Tm) : ev C (n + 1) (.min2 a b) ρ S = (ev C n a ρ S).bind fun p => (ev C n b ρ p.2).bind fun q => (asD p.1).bind fun x => (asD q.1).bind fun y => (asI x).bind fun i => (asI y).bind fun j => some (.d (.int (if j < i then j else i)), q.2) := (rfl)
@[simp] theorem ev_isa (k : Ty) (a : Tm) : ev C (n + 1) (.isa k a) ρ S = (ev C n a ρ S).bind fun p => (asD p.1).bind fun x => some (.d (.bl (DL.isa k x)), p.2) := (rfl)
@[simp] theorem ev_call (f : Nat) (as : List Tm) : ev C (n + 1) (.call f as) ρ S = (evs (ev C n) as ρ S).bind fun p => C f p.1 p.2 := (rfl)
@[simp] theorem ev_callK (f : Nat) (as : List Tm) : ev C (n + 1) (.callK f as) ρ S = (evs (ev C n) as ρ S).bind fun p => C f p.1 p.2 := (rfl)
@[simp] theorem ev_tup (as : List Tm) : ev C (n + 1) (.tup as) ρ S = (evs (ev C n) as ρ S).bind fun p => (asDs p.1).bind fun xs => if fits xs.length = true then some (.d (.tup xs), p.2) else none := (rfl)
@[simp] theorem ev_lst (as : List Tm) : ev C (n + 1) (.lst as) ρ S = (evs (ev C n) as ρ S).bind fun p => (asDs p.1).bind fun xs => if fits xs.length = true then some (.d (.lst xs), p.2) else none := (rfl)
@[simp] theorem ev_idxL (a b : Tm) : ev C (n + 1) (.idxL a b) ρ S = (ev C n a ρ S).bind fun p => (ev C n b ρ p.2).bind fun q => (deref q.2 p.1).bind fun x => (asD q.1).bind fun y => (asI y).bind fun i => onSeq x fun xs => (atD xs i).bind fun z => some (.d z, q.2) := (rfl)
@[simp] theorem ev_idxT (a b : Tm) : ev C (n + 1) (.idxT a b) ρ S = (ev C n a ρ S).bind fun p => (ev C n b ρ p.2).bind fun q => (asD p.1).bind fun x => (asD q.1).bind fun y => (asI y).bind fun i => onT x fun xs => (atD xs i).bind fun z => some (.d z, q.2) := (rfl)
@[simp] theorem ev_idxD (a b : Tm) : ev C (n + 1) (.idxD a b) ρ S = (ev C n a ρ S).bind fun p => (ev C n b ρ p.2).bind fun q => (asD p.1).bind fun x => (asD q.1).bind fun y => (keyOf y).bind fun k => onDct x fun kvs => (valD kvs k).bind fun z => some (.d z, q.2) := (rfl)
@[simp] theorem ev_slL (a : Tm) (lo hi : Option Tm) : ev C (n + 1) (.slL a lo hi) ρ S = (ev C n a ρ S).bind fun p => (evO (ev C n) lo ρ p.2).bind fun l => (evO (ev C n) hi ρ l.2).bind fun h => (deref h.2 p.1).bind fun x => onSeq x fun xs => some (.d (.lst (cutD xs l.1 h.1)), h.2) := (rfl)
@[simp] theorem ev_slT (a : Tm) (lo hi : Option Tm) : ev C (n + 1) (.slT a lo hi) ρ S = (ev C n a ρ S).bind fun p => (evO (ev C n) lo ρ p.2).bind fun l => (evO (ev C n) hi ρ l.2).bind fun h => (asD p.1).bind fun x => onT x fun xs => some (.d (.tup (cutD xs l.1 h.1)), h.2) := (rfl)
@[simp] theorem ev_lc (elt : Tm) (tg : Tg) (k : IK) (its ifs : List Tm) (own : List Nat) : ev C (n + 1) (.lc elt tg k its ifs own) ρ S = (evs (ev C n) its ρ S).bind fun p => (walked p.2 k p.1).bind fun xs => (turns (ev C n) elt tg ifs own ρ xs [] p.2).bind fun q => some (.d (.lst q.1), q.2) := (rfl)
@[simp] theorem ev_app (a b : Tm) : ev C (n + 1) (.app a b) ρ S = (ev C n a ρ S).bind fun p => (deref p.2 p.1).bind fun _ => (ev C n b ρ p.2).bind fun q => (asD q.1).bind fun y => onR p.1 fun m => getS q.2 m fun xs => if xs.length < 10000000 then some (.d .non, q.2.set m (some (xs ++ [y]))) else none := (rfl)
@[simp] theorem ev_ext (a b : Tm) : ev C (n + 1) (.ext a b) ρ S = (ev C n a ρ S).bind fun p => (deref p.2 p.1).bind fun _ => (ev C n b ρ p.2).bind fun q => (asD q.1).bind fun y => onR p.1 fun m => (asL y).bind fun ys => getS q.2 m fun xs => if fits (xs.length + ys.length) = true then some (.d .non, q.2.set m (some (xs ++ ys))) else none := by
  conv => lhs; unfold ev
  show Option.bind _ _ = _
  congr 1
  funext p
  congr 1
  funext _
  congr 1
  funext q
  congr 1
  funext y
  cases p.1 <;> cases y <;> rfl
@[simp] theorem ev_new (a : Tm) : ev C (n + 1) (.new a) ρ S = (ev C n a ρ S).bind fun p => onL p.1 fun xs => some (.r p.2.length, p.2 ++ [some xs]) := (rfl)
@[simp] theorem ev_lstRg1 (a : Tm) : ev C (n + 1) (.lstRg1 a) ρ S = (ev C n a ρ S).bind fun p => (asD p.1).bind fun x => (asI x).bind fun j => if rgOk 0 j = true then some (.d (.lst (rangeD 0 j)), p.2) else none := (rfl)
@[simp] theorem ev_tupZip (a b : Tm) : ev C (n + 1) (.tupZip a b) ρ S = (ev C n a ρ S).bind fun p => (ev C n b ρ p.2).bind fun q => (asD p.1).bind fun x => (asD q.1).bind fun y => (asT x).bind fun xs => (asT y).bind fun ys => if decide (xs.length ≤ ys.length) = true then some (.d (.tup (zipD xs ys)), q.2) else none := (rfl)
@[simp] theorem ev_sortSetT (a : Tm) : ev C (n + 1) (.sortSetT a) ρ S = (ev C n a ρ S).bind fun p => (asD p.1).bind fun x => (asT x).bind fun xs => (intsOf xs).bind fun ns => if decide (ns.length < 63) = true then some (.d (.lst ((sortSet ns).map .int)), p.2) else none := (rfl)
@[simp] theorem ev_dictL (a : Tm) : ev C (n + 1) (.dictL a) ρ S = (ev C n a ρ S).bind fun p => (asD p.1).bind fun x => (asL x).bind fun xs => (pairsOf xs).bind fun kvs => some (.d (.dct (mergeD [] kvs)), p.2) := (rfl)
@[simp] theorem ev_revT (a : Tm) : ev C (n + 1) (.revT a) ρ S = (ev C n a ρ S).bind fun p => (asD p.1).bind fun x => (asT x).bind fun xs => some (.d (.tup xs.reverse), p.2) := (rfl)
@[simp] theorem ev_lenT (a : Tm) : ev C (n + 1) (.lenT a) ρ S = (ev C n a ρ S).bind fun p => (asD p.1).bind fun x => (asT x).bind fun xs => (intsOf xs).bind fun ns => if decide (ns.length ≤ 1000) = true then some (.d (.int (sortSet ns).length), p.2) else none := (rfl)
@[simp] theorem ev_lenL (a : Tm) : ev C (n + 1) (.lenL a) ρ S = (ev C n a ρ S).bind fun p => (asD p.1).bind fun x => (asL x).bind fun xs => (intsOf xs).bind fun ns => if decide (ns.length ≤ 1000) = true then some (.d (.int (sortSet ns).length), p.2) else none := (rfl)
@[simp] theorem ev_dnew : ev C (n + 1) .dnew ρ S = some (.d (.dct []), S) := (rfl)
@[simp] theorem ev_dsp (ks : List Str) (as : List Tm) : ev C (n + 1) (.dsp ks as) ρ S = (evs (ev C n) as ρ S).bind fun p => (asDs p.1).bind fun xs => if (decide (ks.length = xs.length) && decide (ks.length ≤ 15) && !ks.isEmpty) = true then some (.d (.dct (mergeD [] (List.zip (ks.map .inr) xs))), p.2) else none := (rfl)
@[simp] theorem ev_srt (a : Tm) (v : Nat) : ev C (n + 1) (.srt a v) ρ S = (ev C n a ρ S).bind fun p => (asD p.1).bind fun x => (asI x).bind fun i => (getV ρ S v).bind fun q => onL q.1 fun xs => if (decide (i = (xs.length : Int)) && decide (xs.length < 1000000) && xs.all isRest) = true then some (.d (.lst ((orderOf xs.length (restAt xs)).map fun (j : Nat) => .int (j : Int))), p.2) else none := by
  conv => lhs; unfold ev
  show Option.bind _ _ = _
  congr 1
  funext p
  congr 1
  funext x
  congr 1
  funext i
  unfold getV
  rcases ρ[v]? with _ | (_ | (x | m))
  · rfl
  · rfl
  · cases x <;> rfl
  · rfl
@[simp] theorem evs_nil (g : Ev) : evs g [] ρ S = some ([], S) := (rfl)
@[simp] theorem evs_cons (g : Ev) (t : Tm) (ts : List Tm) : evs g (t :: ts) ρ S = (g t ρ S).bind fun p => (evs g ts ρ p.2).bind fun q => some (p.1 :: q.1, q.2) := (rfl)
@[simp] theorem evO_none (g : Ev) : evO g none ρ S = some (none, S) := (rfl)
@[simp] theorem evO_some (g : Ev) (t : Tm) : evO g (some t) ρ S = (g t ρ S).bind fun p => (asD p.1).bind fun x => (asI x).bind fun i => some (some i, p.2) := (rfl)
@[simp] theorem evT_nil (g : Ev) : evT g [] ρ S = some (true, S) := (rfl)
@[simp] theorem evT_cons (g : Ev) (t : Tm) (ts : List Tm) : evT g (t :: ts) ρ S = (g t ρ S).bind fun p => (isTrueD p.1).bind fun b => if b = true then evT g ts ρ p.2 else some (false, p.2) := by
  show ((g t ρ S).bind fun p => match p.1 with
    | .d (.bl b) => if b = true then evT g ts ρ p.2 else some (false, p.2)
    | _ => none) = _
  congr 1
  funext p
  cases p.1 with
  | d x => cases x <;> rfl
  | r m => rfl
@[simp] theorem exs_nil (g : Ex) : exs g [] ρ S = some (.nx ρ, S) := (rfl)
@[simp] theorem exs_cons (g : Ex) (s : Stm) (r : List Stm) : exs g (s :: r) ρ S = (g s ρ S).bind fun p => thenO p.1 (fun ρ1 => exs g r ρ1 p.2) fun x => some (.ret x, p.2) := (rfl)
@[simp] theorem ex_asgN (i : Nat) (e : Tm) : ex C (n + 1) (.asg (.nm i) e) ρ S = (ev C 40 e ρ S).bind fun p => if i < ρ.length then some (.nx (ρ.set i (some p.1)), p.2) else none := (rfl)
@[simp] theorem ex_asgT (ts : List Tg) (e : Tm) : ex C (n + 1) (.asg (.tp ts) e) ρ S = (ev C 40 e ρ S).bind fun p => (asD p.1).bind fun x => (bindT (.tp ts) x ρ).bind fun ρ1 => some (.nx ρ1, p.2) := (rfl)
@[simp] theorem ex_par (i j : Nat) (a b : Tm) : ex C (n + 1) (.par i j a b) ρ S = (ev C 40 a ρ S).bind fun p => (ev C 40 b ρ p.2).bind fun q => if i < ρ.length ∧ j < ρ.length then some (.nx ((ρ.set i (some p.1)).set j (some q.1)), q.2) else none := (rfl)
@[simp] theorem ex_par3 (i j l : Nat) (a b c : Tm) : ex C (n + 1) (.par3 i j l a b c) ρ S = (ev C 40 a ρ S).bind fun p => (ev C 40 b ρ p.2).bind fun q => (ev C 40 c ρ q.2).bind fun r => if i < ρ.length ∧ j < ρ.length ∧ l < ρ.length then some (.nx (((ρ.set i (some p.1)).set j (some q.1)).set l (some r.1)), r.2) else none := (rfl)
@[simp] theorem ex_setI (o i e : Tm) : ex C (n + 1) (.setI o i e) ρ S = (ev C 40 e ρ S).bind fun p => (ev C 40 o ρ p.2).bind fun q => (ev C 40 i ρ q.2).bind fun r => (asD p.1).bind fun x => (asD r.1).bind fun y => (asI y).bind fun k => onR q.1 fun m => getS r.2 m fun xs => (place xs.length k).bind fun j => some (.nx ρ, r.2.set m (some (xs.set j x))) := (rfl)
@[simp] theorem ex_grid (i : Nat) (a : Tm) (v : D) : ex C (n + 1) (.grid i a v) ρ S = (ev C 40 a ρ S).bind fun p => onG p.1 fun ys r => if i < ρ.length then some (.nx (ρ.set i (some (.d (.lst (.lst (v :: ys) :: r))))), p.2) else none := (rfl)
@[simp] theorem ex_expr (e : Tm) : ex C (n + 1) (.expr e) ρ S = (ev C 40 e ρ S).bind fun p => some (.nx ρ, p.2) := (rfl)
@[simp] theorem ex_ife (c : Tm) (a b : List Stm) : ex C (n + 1) (.ife c a b) ρ S = (ev C 40 c ρ S).bind fun p => (isTrueD p.1).bind fun k => if k = true then exs (ex C n) a ρ p.2 else exs (ex C n) b ρ p.2 := (rfl)
@[simp] theorem ex_for (t : Tg) (k : IK) (its : List Tm) (body : List Stm) : ex C (n + 1) (.for_ t k its body) ρ S = (evs (ev C 40) its ρ S).bind fun p => (walked p.2 k p.1).bind fun xs => forL (ex C n) t body xs ρ p.2 := (rfl)
@[simp] theorem ex_while (c : Tm) (body : List Stm) : ex C (n + 1) (.while_ c body) ρ S = whileL (ev C 40) (ex C n) c body fuelW ρ S := (rfl)
@[simp] theorem ex_ret (e : Tm) : ex C (n + 1) (.ret e) ρ S = (ev C 40 e ρ S).bind fun p => some (.ret p.1, p.2) := (rfl)
@[simp] theorem ex_pass : ex C (n + 1) .pass ρ S = some (.nx ρ, S) := (rfl)
@[simp] theorem ex_frz (i : Nat) : ex C (n + 1) (.frz i) ρ S = (getV ρ S i).bind fun p => onR p.1 fun m => getS S m fun xs => some (.nx (ρ.set i (some (.d (.lst xs)))), S.set m none) := by
  unfold ex getV
  dsimp only
  rcases ρ[i]? with _ | (_ | (_ | _)) <;> rfl
theorem whileL_succ (e : Ev) (g : Ex) (c : Tm) (body : List Stm) (m : Nat) : whileL e g c body (m + 1) ρ S = (e c ρ S).bind fun q => (isTrueD q.1).bind fun k => if k = true then (exs g body ρ q.2).bind fun p => thenO p.1 (fun ρ2 => whileL e g c body m ρ2 p.2) (fun y => some (.ret y, p.2)) else some (.nx ρ, q.2) := (rfl)
@[simp] theorem forL_nil (g : Ex) (tg : Tg) (body : List Stm) : forL g tg body [] ρ S = some (.nx ρ, S) := (rfl)
theorem forL_cons (g : Ex) (tg : Tg) (body : List Stm) (x : D) (xs : List D) : forL g tg body (x :: xs) ρ S = (bindT tg x ρ).bind fun ρ1 => (exs g body ρ1 S).bind fun p => thenO p.1 (fun ρ2 => forL g tg body xs ρ2 p.2) fun y => some (.ret y, p.2) := (rfl)
@[simp] theorem turns_nil (g : Ev) (elt : Tm) (tg : Tg) (ifs : List Tm) (own : List Nat) (acc : List D) : turns g elt tg ifs own ρ [] acc S = some (acc, S) := (rfl)
theorem turns_cons (g : Ev) (elt : Tm) (tg : Tg) (ifs : List Tm) (own : List Nat) (x : D) (xs acc : List D) : turns g elt tg ifs own ρ (x :: xs) acc S = (bindT tg x (wipe ρ own)).bind fun ρ1 => (evT g ifs ρ1 S).bind fun b =>
      if b.1 = true then (g elt ρ1 b.2).bind fun p => (asD p.1).bind fun y => if acc.length < 10000000 then turns g elt tg ifs own ρ xs (acc ++ [y]) p.2 else none
      else turns g elt tg ifs own ρ xs acc b.2 := (rfl)
@[simp] theorem bindT_nm (i : Nat) (x : D) : bindT (.nm i) x ρ = if i < ρ.length then some (ρ.set i (some (.d x))) else none := by
  unfold bindT
  rfl
@[simp] theorem bindT_tp (ts : List Tg) (xs : List D) : bindT (.tp ts) (.tup xs) ρ = bindTs ts xs ρ := by
  conv => lhs; unfold bindT
@[simp] theorem bindTs_nil : bindTs [] [] ρ = some ρ := by
  unfold bindTs
  rfl
@[simp] theorem bindTs_cons (t : Tg) (ts : List Tg) (x : D) (xs : List D) : bindTs (t :: ts) (x :: xs) ρ = (bindT t x ρ).bind fun ρ1 => bindTs ts xs ρ1 := by
  conv => lhs; unfold bindTs
@[simp] theorem wipe_nil : wipe ρ [] = ρ := (rfl)
@[simp] theorem wipe_cons (v : Nat) (vs : List Nat) : wipe ρ (v :: vs) = (wipe ρ vs).set v none := (rfl)
end
@[simp] theorem finish_d (n : Nat) (S : Store) (x : D) : finish n S (.d x) = some (.d x, S.take n) := (rfl)
/-- a call, its body run -/
theorem callD_run {T : List Fn} {k f : Nat} {fn : Fn} {xs : List E} {S : Store} (hf : T[f]? = some fn) (hl : xs.length = fn.ps.length) :
    callD T (k + 1) f xs S = (exs (ex (callD T k) 20) fn.body (xs.map some ++ List.replicate (fn.N.length - xs.length) none) S).bind fun p => thenO p.1 (fun _ => some (.d .non, p.2.take S.length)) fun x => finish S.length p.2 x := by
  unfold callD
  simp only [hf, hl, if_true]
  congr 1
  funext p
  cases p.1 <;> rfl
/-! operators -/
@[simp] theorem o2_add (i j : Int) : o2 .add (.int i) (.int j) = some (.int (i + j)) := (rfl)
@[simp] theorem o2_sub (i j : Int) : o2 .sub (.int i) (.int j) = some (.int (i - j)) := (rfl)
@[simp] theorem o2_band (i j : Int) : o2 .band (.int i) (.int j) = some (.int (Builtin.bitAnd i j)) := (rfl)
@[simp] theorem o2_lt (i j : Int) : o2 .lt (.int i) (.int j) = some (.bl (decide (i < j))) := (rfl)
@[simp] theorem o2_le (i j : Int) : o2 .le (.int i) (.int j) = some (.bl (decide (i ≤ j))) := (rfl)
@[simp] theorem o2_gt (i j : Int) : o2 .gt (.int i) (.int j) = some (.bl (decide (j < i))) := (rfl)
@[simp] theorem o2_ge (i j : Int) : o2 .ge (.int i) (.int j) = some (.bl (decide (j ≤ i))) := (rfl)
theorem o2_mul {i j : Int} (h : mulOk i j = true) : o2 .mul (.int i) (.int j) = some (.int (i * j)) := by
  show (if mulOk i j = true then _ else _) = _
  rw [if_pos h]
theorem o2_fdiv {i j : Int} (h : divOk j = true) : o2 .fdiv (.int i) (.int j) = some (.int (i / j)) := by
  show (if divOk j = true then _ else _) = _
  rw [if_pos h]
theorem o2_mod {i j : Int} (h : 0 < j) : o2 .mod (.int i) (.int j) = some (.int (i % j)) := by
  show (if decide (0 < j) = true then _ else _) = _
  rw [if_pos (decide_eq_true h)]
theorem o2_shr {i j : Int} (h : 0 ≤ j) : o2 .shr (.int i) (.int j) = some (.int (i / 2 ^ j.toNat)) := by
  show (if decide (0 ≤ j) = true then _ else _) = _
  rw [if_pos (decide_eq_true h)]
@[simp] theorem eqD_int (i j : Int) : o2 .eq (.int i) (.int j) = some (.bl (decide (i = j))) := by
  have e1 : eqOk (.int i) = true := by simp [eqOk, D.flat, D.py, SeqAt.shaped, PyData.canLay0, PyData.depth]
  have e2 : eqOk (.int j) = true := by simp [eqOk, D.flat, D.py, SeqAt.shaped, PyData.canLay0, PyData.depth]
  show (if (eqOk (.int i) && eqOk (.int j)) = true then some (D.bl (eqD (.int i) (.int j))) else none) = _
  rw [e1, e2]
  have e3 : eqD (.int i) (.int j) = decide (i = j) := by
    simp [eqD, D.py, PyData.eqv, Bool.beq_eq_decide_eq]
  rw [e3]
  rfl
@[simp] theorem neD_int (i j : Int) : o2 .ne (.int i) (.int j) = some (.bl (!decide (i = j))) := by
  have e1 : eqOk (.int i) = true := by simp [eqOk, D.flat, D.py, SeqAt.shaped, PyData.canLay0, PyData.depth]
  have e2 : eqOk (.int j) = true := by simp [eqOk, D.flat, D.py, SeqAt.shaped, PyData.canLay0, PyData.depth]
  show (if (eqOk (.int i) && eqOk (.int j)) = true then some (D.bl (!eqD (.int i) (.int j))) else none) = _
  rw [e1, e2]
  have e3 : eqD (.int i) (.int j) = decide (i = j) := by
    simp [eqD, D.py, PyData.eqv, Bool.beq_eq_decide_eq]
  rw [e3]
  rfl
end DL
end

section
set_option autoImplicit false
set_option linter.all false
/-! Loops and comprehensions of the tongue, by invariants. -/
namespace DL
open PySem
theorem bind_out {α β : Type} {a : Option α} {f : α → Option β} {z : β} (h : a.bind f = some z) : ∃ x, a = some x ∧ f x = some z := by
  cases a with
  | none => cases h
  | some x => exact ⟨x, rfl, h⟩
theorem forL_inv {g : Ex} {tg : Tg} {body : List Stm} (Inv : Nat → Env → Store → Prop) : ∀ (ds : List D) (k : Nat) (ρ : Env) (S : Store), Inv k ρ S →
    (∀ i (hi : i < ds.length) ρ S, Inv (k + i) ρ S → ∃ ρ' S', ((bindT tg ds[i] ρ).bind fun ρ1 => exs g body ρ1 S) = some (.nx ρ', S') ∧ Inv (k + i + 1) ρ' S') →
    ∃ ρ' S', forL g tg body ds ρ S = some (.nx ρ', S') ∧ Inv (k + ds.length) ρ' S'
  | [], k, ρ, S, h0, _ => ⟨ρ, S, rfl, h0⟩
  | d :: ds, k, ρ, S, h0, h => by
    obtain ⟨ρ1, S1, e1, h1⟩ := h 0 (Nat.succ_pos _) ρ S h0
    obtain ⟨ρ2, S2, e2, h2⟩ := forL_inv (g := g) (tg := tg) (body := body) Inv ds (k + 1) ρ1 S1 h1 fun i hi ρ S hI => by
      have e : k + 1 + i = k + (i + 1) := by omega
      rw [e] at hI ⊢
      exact h (i + 1) (Nat.succ_lt_succ hi) ρ S hI
    refine ⟨ρ2, S2, ?_, ?_⟩
    · rw [forL_cons]
      obtain ⟨ρb, eb, ec⟩ := bind_out (show ((bindT tg d ρ).bind fun ρ1 => exs g body ρ1 S) = some (.nx ρ1, S1) from e1)
      rw [eb, Option.bind_some, ec, Option.bind_some]
      exact e2
    · have e : k + (d :: ds).length = k + 1 + ds.length := by rw [List.length_cons]; omega
      rw [e]
      exact h2
theorem turns_pure {g : Ev} {elt : Tm} {tg : Tg} {ifs : List Tm} {own : List Nat} {ρ : Env} {S : Store} {p : D → Bool} {f : D → D} : ∀ (xs acc : List D), (∀ x ∈ xs, ∃ ρ1, bindT tg x (wipe ρ own) = some ρ1 ∧ evT g ifs ρ1 S = some (p x, S) ∧ (p x = true → g elt ρ1 S = some (.d (f x), S))) →
    acc.length + xs.length ≤ 10000000 → turns g elt tg ifs own ρ xs acc S = some (acc ++ (xs.filter p).map f, S)
  | [], acc, _, _ => by simp [-Option.bind_some]
  | x :: xs, acc, h, hl => by
    obtain ⟨ρ1, e1, e2, e3⟩ := h x List.mem_cons_self
    rw [turns_cons, e1, Option.bind_some, e2, Option.bind_some]
    rw [List.length_cons] at hl
    cases hp : p x with
    | true =>
      rw [if_pos rfl, e3 hp, Option.bind_some, asD_d, Option.bind_some, if_pos (by omega), turns_pure xs (acc ++ [f x]) (fun y hy => h y (List.mem_cons_of_mem _ hy)) (by rw [List.length_append, List.length_singleton]; omega)]
      rw [List.filter_cons_of_pos hp, List.map_cons, List.append_assoc]
      rfl
    | false =>
      rw [if_neg Bool.false_ne_true, turns_pure xs acc (fun y hy => h y (List.mem_cons_of_mem _ hy)) (by omega)]
      rw [List.filter_cons_of_neg (by rw [hp]; exact Bool.false_ne_true)]
/-- all taken, nothing changed -/
theorem turns_map {g : Ev} {elt : Tm} {tg : Tg} {own : List Nat} {ρ : Env} {S : Store} (f : D → D) (xs : List D) (h : ∀ x ∈ xs, ∃ ρ1, bindT tg x (wipe ρ own) = some ρ1 ∧ g elt ρ1 S = some (.d (f x), S))
    (hl : xs.length ≤ 10000000) : turns g elt tg [] own ρ xs [] S = some (xs.map f, S) := by
  rw [turns_pure (p := fun _ => true) (f := f) xs [] (fun x hx => by
    obtain ⟨ρ1, e1, e2⟩ := h x hx
    exact ⟨ρ1, e1, rfl, fun _ => e2⟩) (by rw [List.length_nil]; omega)]
  rw [List.filter_eq_self.mpr (fun _ _ => rfl)]
  simp [-Option.bind_some]
/-- all taken, the store turning -/
theorem turns_inv {g : Ev} {elt : Tm} {tg : Tg} {own : List Nat} {ρ : Env} (Inv : Nat → List D → Store → Prop) : ∀ (xs acc : List D) (k : Nat) (S : Store), Inv k acc S →
    (∀ i (hi : i < xs.length) acc S, Inv (k + i) acc S → ∃ y S', ((bindT tg xs[i] (wipe ρ own)).bind fun ρ1 => g elt ρ1 S) = some (.d y, S') ∧ Inv (k + i + 1) (acc ++ [y]) S') →
    acc.length + xs.length ≤ 10000000 → ∃ out S', turns g elt tg [] own ρ xs acc S = some (out, S') ∧ Inv (k + xs.length) out S'
  | [], acc, k, S, h0, _, _ => ⟨acc, S, rfl, h0⟩
  | x :: xs, acc, k, S, h0, h, hl => by
    obtain ⟨y, S1, e1, h1⟩ := h 0 (Nat.succ_pos _) acc S h0
    rw [List.length_cons] at hl
    obtain ⟨out, S2, e2, h2⟩ := turns_inv (g := g) (elt := elt) (tg := tg) (own := own) (ρ := ρ) Inv xs (acc ++ [y]) (k + 1) S1 h1 (fun i hi acc S hI => by
      have e : k + 1 + i = k + (i + 1) := by omega
      rw [e] at hI ⊢
      exact h (i + 1) (Nat.succ_lt_succ hi) acc S hI) (by rw [List.length_append, List.length_singleton]; omega)
    refine ⟨out, S2, ?_, ?_⟩
    · obtain ⟨ρb, eb, ec⟩ := bind_out (show ((bindT tg x (wipe ρ own)).bind fun ρ1 => g elt ρ1 S) = some (.d y, S1) from e1)
      rw [turns_cons, eb, Option.bind_some, evT_nil, Option.bind_some, if_pos rfl, ec, Option.bind_some, asD_d, Option.bind_some, if_pos (by omega)]
      exact e2
    · have e : k + (x :: xs).length = k + 1 + xs.length := by rw [List.length_cons]; omega
      rw [e]
      exact h2
theorem intsOf_map (ns : List Int) : intsOf (ns.map D.int) = some ns := by
  induction ns with
  | nil => rfl
  | cons n r ih => simp [-Option.bind_some, intsOf, ih]
theorem boolsOf_map (ns : List Bool) : boolsOf (ns.map D.bl) = some ns := by
  induction ns with
  | nil => rfl
  | cons n r ih => simp [-Option.bind_some, boolsOf, ih]
theorem o1_sum (ns : List Int) : o1 .sum (.lst (ns.map D.int)) = some (.int ns.sum) := by
  show (intsOf (ns.map D.int)).bind _ = _
  rw [intsOf_map]
  rfl
theorem o1_sumT (ns : List Int) : o1 .sumT (.tup (ns.map D.int)) = some (.int ns.sum) := by
  show (intsOf (ns.map D.int)).bind _ = _
  rw [intsOf_map]
  rfl
theorem o1_all (ns : List Bool) : o1 .all (.lst (ns.map D.bl)) = some (.bl (ns.all id)) := by
  show (boolsOf (ns.map D.bl)).bind _ = _
  rw [boolsOf_map]
  rfl
@[simp] theorem o1_lenL (xs : List D) : o1 .len (.lst xs) = some (.int xs.length) := (rfl)
@[simp] theorem o1_lenT (xs : List D) : o1 .len (.tup xs) = some (.int xs.length) := (rfl)
@[simp] theorem o1_lenS (xs : List D) : o1 .len (.scr xs) = some (.int xs.length) := (rfl)
@[simp] theorem o1_int (i : Int) : o1 .int (.int i) = some (.int i) := (rfl)
@[simp] theorem o1_intb (b : Bool) : o1 .int (.bl b) = some (.int (if b then 1 else 0)) := (rfl)
@[simp] theorem o1_abs (i : Int) : o1 .abs (.int i) = some (.int (if i < 0 then -i else i)) := (rfl)
@[simp] theorem o1_neg (i : Int) : o1 .neg (.int i) = some (.int (-i)) := (rfl)
@[simp] theorem o1_tupleL (xs : List D) : o1 .tupleL (.lst xs) = some (.tup xs) := (rfl)
theorem walked_r1 (S : Store) (n : Int) : walked S .rng1 [.d (.int n)] = if small62 n = true then some ((List.range n.toNat).map fun (i : Nat) => .int (i : Int)) else none := by
  simp only [walked, Int.zero_add]
theorem walked_r2 (S : Store) (a b : Int) : walked S .rng2 [.d (.int a), .d (.int b)] = if (small62 a && small62 b) = true then some ((List.range (b - a).toNat).map fun (i : Nat) => .int (a + (i : Int))) else none := (rfl)
@[simp] theorem walked_lst (S : Store) (xs : List D) : walked S .lst [.d (.lst xs)] = some xs := (rfl)
@[simp] theorem walked_tup (S : Store) (xs : List D) : walked S .tup [.d (.tup xs)] = some xs := (rfl)
@[simp] theorem walked_eL (S : Store) (xs : List D) : walked S .enumL [.d (.lst xs)] = some (enumD 0 xs) := (rfl)
@[simp] theorem walked_eT (S : Store) (xs : List D) : walked S .enumT [.d (.tup xs)] = some (enumD 0 xs) := (rfl)
@[simp] theorem walked_zL (S : Store) (xs ys : List D) : walked S .zipLL [.d (.lst xs), .d (.lst ys)] = some (zipD xs ys) := (rfl)
theorem walked_zTL (S : Store) (xs ys : List D) (h : xs.length = ys.length) : walked S .zipTL [.d (.tup xs), .d (.lst ys)] = some (zipD xs ys) := if_pos (decide_eq_true h)
theorem walked_enZ (S : Store) (xs ys : List D) (h : xs.length ≤ ys.length) : walked S .enZ [.d (.tup xs), .d (.tup ys)] = some (enumD 0 (zipD xs ys)) := if_pos (decide_eq_true h)
@[simp] theorem walked_zT (S : Store) (xs ys : List D) : walked S .zipTT [.d (.tup xs), .d (.tup ys)] = some (zipD xs ys) := (rfl)
theorem small62_int {n : Int} (h : 0 ≤ n ∧ n < 1000000000) : small62 n = true := by
  unfold small62
  rw [decide_eq_true (by omega), decide_eq_true (by omega)]
  rfl
theorem atD_nat {xs : List D} {i : Nat} (h : i < xs.length) : atD xs (i : Int) = some xs[i] := by
  unfold atD place
  rw [if_pos (by omega), if_pos (by omega), Option.bind_some]
  simp [-Option.bind_some, h]
theorem atD_last {xs : List D} {x : D} : atD (xs ++ [x]) (-1) = some x := by
  unfold atD place
  rw [if_neg (by omega), if_pos (by rw [List.length_append, List.length_singleton]; omega), Option.bind_some, List.length_append, List.length_singleton]
  have e : (-1 + ((xs.length + 1 : Nat) : Int)).toNat = xs.length := by omega
  rw [e]
  simp [-Option.bind_some]
end DL
end

section
set_option autoImplicit false
set_option linter.all false
set_option maxRecDepth 20000
/-! What all laws' plain sides use. -/
namespace DL
open PySem
theorem sum_cast (l : List Nat) (g : Nat → Nat) : (l.map fun t => ((g t : Nat) : Int)).sum = (((l.map g).sum : Nat) : Int) := by
  induction l with
  | nil => rfl
  | cons a l ih => rw [List.map_cons, List.sum_cons, ih, List.map_cons, List.sum_cons, Int.natCast_add]
theorem eqD_refl {x : D} (h : eqOk x = true) : eqD x x = true := by
  unfold eqOk at h
  rw [Bool.and_eq_true] at h
  exact SeqAt.eqv_refl _ (SeqAt.canLay_of_shaped h.2)
theorem o2_eq_of {x y : D} (hx : eqOk x = true) (hy : eqOk y = true) : o2 .eq x y = some (.bl (eqD x y)) := by
  show (if (eqOk x && eqOk y) = true then some (D.bl (eqD x y)) else none) = _
  rw [hx, hy]
  rfl
def B (n : Nat) (i : Int) : Prop := i.natAbs < 2 ^ n
theorem B.bits {n : Nat} {i : Int} (h : B n i) : Builtin.Int.intBits i ≤ n := intBits_le_iff.mpr h
theorem B.mono {n m : Nat} {i : Int} (h : B n i) (hm : n ≤ m) : B m i := Nat.lt_of_lt_of_le h (Nat.pow_le_pow_right (by decide) hm)
theorem B.mul {n m : Nat} {i j : Int} (h : B n i) (k : B m j) : B (n + m) (i * j) := by
  unfold B at *
  rw [Int.natAbs_mul, Nat.pow_add]
  exact Nat.mul_lt_mul'' h k
theorem B.add {n : Nat} {i j : Int} (h : B n i) (k : B n j) : B (n + 1) (i + j) := by
  unfold B at *
  rw [Nat.pow_succ]
  have := Int.natAbs_add_le i j
  omega
theorem mulOk_of {n m : Nat} {i j : Int} (h : B n i) (k : B m j) (hs : n + m ≤ 134217728) : mulOk i j = true := by
  have h1 := h.bits
  have h2 := k.bits
  unfold mulOk
  exact decide_eq_true (by omega)
theorem divOk_of {n : Nat} {j : Int} (h0 : 0 < j) (h : B n j) (hn : n < 9000) : divOk j = true := by
  unfold divOk
  rw [decide_eq_true h0, Bool.true_and]
  refine decide_eq_true ?_
  have : j.natAbs ≠ 0 := by omega
  exact Nat.lt_of_lt_of_le (Nat.log2_lt this |>.mpr h) (by omega)
theorem powOk_of {n : Nat} {i : Int} (h : B n i) (e : Nat) (hs : n * e ≤ 134217728) : powOk i (e : Int) = true := by
  have h1 := h.bits
  unfold powOk
  rw [decide_eq_true (by omega : (0 : Int) ≤ (e : Int)), Bool.true_and]
  refine decide_eq_true ?_
  have : (Builtin.Int.intBits i : Nat) * e ≤ n * e := Nat.mul_le_mul_right e h1
  have h3 : ((Builtin.Int.intBits i : Nat) : Int) * (e : Int) = ((Builtin.Int.intBits i * e : Nat) : Int) := by rw [Int.natCast_mul]
  rw [h3]
  omega
theorem o2_pow {i j : Int} (h : powOk i j = true) : o2 .pow (.int i) (.int j) = some (.int (i ^ j.toNat)) := by
  show (if powOk i j = true then _ else _) = _
  rw [if_pos h]
def natD (w : Nat) : D := .int (w : Int)
theorem walk_r2 {S : Store} {m : Nat} (h : m < 1000) : walked S .rng2 [.d (.int 1), .d (.int ((m : Int) + 1))] = some ((List.range m).map fun (i : Nat) => .int (1 + (i : Int))) := by
  rw [walked_r2, small62_int (n := (m : Int) + 1) (by omega), small62_int (n := 1) (by omega), Bool.and_self, if_pos rfl]
  have e : ((m : Int) + 1 - 1).toNat = m := by omega
  rw [e]
theorem walk_N (S : Store) (N : Nat) (h : N < 100000) : walked S .rng1 [.d (.int (N : Int))] = some ((List.range N).map natD) := by
  rw [walked_r1, small62_int (by omega), if_pos rfl]
  rfl
theorem enumD_nat (ws : List Nat) : ∀ i, enumD i (ws.map natD) = (ws.zipIdx i).map fun p => D.tup [.int (p.2 : Int), natD p.1] := by
  induction ws with
  | nil => exact fun _ => rfl
  | cons c r ih =>
    intro i
    rw [List.map_cons, List.zipIdx_cons, List.map_cons, ← ih (i + 1)]
    rfl
theorem turns_mapI {A : Type} {g : Ev} {elt : Tm} {tg : Tg} {own : List Nat} {ρ : DL.Env} {S : Store} (X Y : A → D) : ∀ (l : List A) (acc : List D),
    (∀ a ∈ l, ∃ ρ1, bindT tg (X a) (wipe ρ own) = some ρ1 ∧ g elt ρ1 S = some (.d (Y a), S)) → acc.length + l.length ≤ 10000000 →
    turns g elt tg [] own ρ (l.map X) acc S = some (acc ++ l.map Y, S)
  | [], acc, _, _ => by rw [List.map_nil, List.map_nil, List.append_nil]; rfl
  | a :: l, acc, h, hl => by
    obtain ⟨ρ1, e1, e2⟩ := h a List.mem_cons_self
    rw [List.length_cons] at hl
    rw [List.map_cons, turns_cons, e1, bnd, evT_nil, bnd, if_pos rfl, e2, bnd, asD_d, bnd, if_pos (by omega), turns_mapI X Y l (acc ++ [Y a]) (fun b hb => h b (List.mem_cons_of_mem _ hb)) (by rw [List.length_append, List.length_singleton]; omega), List.map_cons, List.append_assoc]
    rfl
theorem turns_selI {A : Type} {g : Ev} {elt : Tm} {tg : Tg} {ifs : List Tm} {own : List Nat} {ρ : DL.Env} {S : Store} (X Y : A → D) (P : A → Bool) : ∀ (l : List A) (acc : List D),
    (∀ a ∈ l, ∃ ρ1, bindT tg (X a) (wipe ρ own) = some ρ1 ∧ evT g ifs ρ1 S = some (P a, S) ∧ (P a = true → g elt ρ1 S = some (.d (Y a), S))) → acc.length + l.length ≤ 10000000 →
    turns g elt tg ifs own ρ (l.map X) acc S = some (acc ++ (l.filter P).map Y, S)
  | [], acc, _, _ => by rw [List.map_nil, List.filter_nil, List.map_nil, List.append_nil]; rfl
  | a :: l, acc, h, hl => by
    obtain ⟨ρ1, e1, e2, e3⟩ := h a List.mem_cons_self
    rw [List.length_cons] at hl
    cases hp : P a with
    | true =>
      rw [hp] at e2
      rw [List.map_cons, turns_cons, e1, bnd, e2, bnd, if_pos rfl, e3 hp, bnd, asD_d, bnd, if_pos (by omega), turns_selI X Y P l (acc ++ [Y a]) (fun b hb => h b (List.mem_cons_of_mem _ hb)) (by rw [List.length_append, List.length_singleton]; omega), List.filter_cons_of_pos hp, List.map_cons, List.append_assoc]
      rfl
    | false =>
      rw [hp] at e2
      rw [List.map_cons, turns_cons, e1, bnd, e2, bnd, if_neg Bool.false_ne_true, turns_selI X Y P l acc (fun b hb => h b (List.mem_cons_of_mem _ hb)) (by omega), List.filter_cons_of_neg (by rw [hp]; exact Bool.false_ne_true)]
theorem zipD_map {A : Type} (X Y : A → D) : ∀ l : List A, zipD (l.map X) (l.map Y) = l.map fun a => .tup [X a, Y a]
  | [] => rfl
  | a :: l => by
    rw [List.map_cons, List.map_cons, List.map_cons, ← zipD_map X Y l]
    rfl
theorem cut_lo (xs : List D) (lo : Nat) : cutD xs (some (lo : Int)) none = xs.drop lo := by
  unfold cutD
  rw [HT.sIx_nat, HT.sIx_none]
  by_cases h : lo ≤ xs.length
  · rw [Nat.min_eq_left h, List.take_of_length_le (by rw [List.length_drop]; omega)]
  · rw [Nat.min_eq_right (by omega), List.drop_of_length_le (Nat.le_refl _), List.drop_of_length_le (by omega), List.take_nil]
theorem exs_nx {g : Ex} {s : Stm} {r : List Stm} {ρ ρ1 : DL.Env} {S S1 : Store} (h : g s ρ S = some (.nx ρ1, S1)) : exs g (s :: r) ρ S = exs g r ρ1 S1 := by
  rw [exs_cons, h, bnd, thenO_nx]
theorem exs_rt {g : Ex} {s : Stm} {r : List Stm} {ρ : DL.Env} {x : E} {S S1 : Store} (h : g s ρ S = some (.ret x, S1)) : exs g (s :: r) ρ S = some (.ret x, S1) := by
  rw [exs_cons, h, bnd, thenO_ret]
theorem o1_sumT_nat (ws : List Nat) : o1 .sumT (.tup (ws.map natD)) = some (.int ((ws.sum : Nat) : Int)) := by
  have := o1_sumT (ws.map fun w => ((w : Nat) : Int))
  rw [List.map_map, sum_cast ws (fun w => w), List.map_id'] at this
  exact this
theorem o1_sum_nat (l : List Nat) (f : Nat → Nat) : o1 .sum (.lst (l.map fun b => natD (f b))) = some (.int (((l.map f).sum : Nat) : Int)) := by
  have := o1_sum (l.map fun b => ((f b : Nat) : Int))
  rw [List.map_map, sum_cast] at this
  exact this
theorem o2_ne_refl {x : D} (h : eqOk x = true) : o2 .ne x x = some (.bl false) := by
  show (if (eqOk x && eqOk x) = true then some (D.bl (!eqD x x)) else none) = _
  rw [h, eqD_refl h]
  rfl
theorem o2_eq_refl {x : D} (h : eqOk x = true) : o2 .eq x x = some (.bl true) := by
  rw [o2_eq_of h h, eqD_refl h]
@[simp] theorem take_set_len (S : Store) (p : Nat) (x : Option (List D)) : (S.set p x).take S.length = S.set p x := List.take_of_length_le (by simp [-Option.bind_some])
theorem getS_set {α : Type} {S : Store} {p : Nat} {ys xs : List D} (h : S[p]? = some (some ys)) (f : List D → Option α) : getS (S.set p (some xs)) p f = f xs := by
  refine getS_of ?_ f
  rw [List.getElem?_set_self (by
    rcases Nat.lt_or_ge p S.length with h' | h'
    · exact h'
    · rw [List.getElem?_eq_none h'] at h
      exact absurd h (by simp [-Option.bind_some]))]
theorem deref_set {S : Store} {p : Nat} {ys xs : List D} (h : S[p]? = some (some ys)) : deref (S.set p (some xs)) (.r p) = some (.lst xs) := by
  refine deref_r ?_
  rw [List.getElem?_set_self (by
    rcases Nat.lt_or_ge p S.length with h' | h'
    · exact h'
    · rw [List.getElem?_eq_none h'] at h
      exact absurd h (by simp [-Option.bind_some]))]
@[simp] theorem atD_3_0 (a b c : D) : atD [a, b, c] 0 = some a := (rfl)
@[simp] theorem atD_3_1 (a b c : D) : atD [a, b, c] 1 = some b := (rfl)
@[simp] theorem atD_3_2 (a b c : D) : atD [a, b, c] 2 = some c := (rfl)
@[simp] theorem place_3_0 : place 3 0 = some 0 := (rfl)
@[simp] theorem place_3_2 : place 3 2 = some 2 := (rfl)
theorem prime_at (c : Int) : ∃ P : Int, atD [.int 2147483647, .int 2147483629, .int 2147483587, .int 2147483579, .int 2147483563] (c % 5) = some (.int P) ∧ 0 < P ∧ P < 2147483648 := by
  have h : c % 5 = 0 ∨ c % 5 = 1 ∨ c % 5 = 2 ∨ c % 5 = 3 ∨ c % 5 = 4 := by omega
  rcases h with h | h | h | h | h <;> rw [h]
  · exact ⟨2147483647, rfl, by decide, by decide⟩
  · exact ⟨2147483629, rfl, by decide, by decide⟩
  · exact ⟨2147483587, rfl, by decide, by decide⟩
  · exact ⟨2147483579, rfl, by decide, by decide⟩
  · exact ⟨2147483563, rfl, by decide, by decide⟩
def potD (o m c : Int) : List D := [.int o, .int m, .int c]
def Pot (n : Int) (S : Store) (p : Nat) : Prop := ∃ o m c, S[p]? = some (some (potD o m c)) ∧ 0 ≤ o ∧ B 70 m ∧ 0 ≤ c ∧ c ≤ n
theorem lt_of_slot {S : Store} {p : Nat} {x : Option (List D)} (h : S[p]? = some x) : p < S.length := by
  rcases Nat.lt_or_ge p S.length with h' | h'
  · exact h'
  · rw [List.getElem?_eq_none h'] at h
    exact absurd h (by simp [-Option.bind_some])
theorem Pot.lt {n : Int} {S : Store} {p : Nat} (h : Pot n S p) : p < S.length := by
  obtain ⟨o, m, c, h, _⟩ := h
  exact lt_of_slot h
theorem Pot.mono {n n' : Int} {S : Store} {p : Nat} (h : Pot n S p) (hn : n ≤ n') : Pot n' S p := by
  obtain ⟨o, m, c, h, h1, h2, h3, h4⟩ := h
  exact ⟨o, m, c, h, h1, h2, h3, by omega⟩
theorem Pot.self {n : Int} {S : Store} {p : Nat} (h : Pot n S p) : ∃ xs, S = S.set p (some xs) := by
  have hl := h.lt
  obtain ⟨o, m, c, hS, _⟩ := h
  refine ⟨potD o m c, ?_⟩
  apply List.ext_getElem?
  intro i
  by_cases hi : p = i
  · subst hi
    rw [hS, List.getElem?_set_self hl]
  · rw [List.getElem?_set_ne hi]
theorem turns_draw {C : Call} {f v p : Nat} {elt : Tm} {ρ : DL.Env} (U : Nat → Prop) (d : Int) (hd : 0 ≤ d) (hv : v < ρ.length)
    (h : ∀ (x : D) (m : Int) (S : Store), Pot m S p → m < 700000 → ∃ w xs, ev C f elt ((ρ.set v none).set v (some (.d x))) S = some (.d (natD w), S.set p (some xs)) ∧ U w ∧ Pot (m + d) (S.set p (some xs)) p) :
    ∀ (l : List D) (ws0 : List Nat) (m : Int) (S : Store), Pot m S p → m + d * l.length < 700000 → ws0.length + l.length ≤ 10000000 →
    ∃ ws xs, turns (ev C f) elt (.nm v) [] [v] ρ l (ws0.map natD) S = some ((ws0 ++ ws).map natD, S.set p (some xs)) ∧ ws.length = l.length ∧ (∀ w ∈ ws, U w) ∧ Pot (m + d * l.length) (S.set p (some xs)) p
  | [], ws0, m, S, hp, _, _ => by
    obtain ⟨xs, hx⟩ := hp.self
    refine ⟨[], xs, ?_, rfl, by simp [-Option.bind_some], ?_⟩
    · rw [turns_nil, List.append_nil, ← hx]
    · rw [← hx]
      have e : m + d * (([] : List D).length : Int) = m := by simp [-Option.bind_some]
      rw [e]
      exact hp
  | x :: l, ws0, m, S, hp, hm, hl => by
    rw [List.length_cons] at hm hl
    have e : d * ((l.length + 1 : Nat) : Int) = d + d * (l.length : Int) := by
      rw [Int.natCast_add, Int.mul_add, Int.add_comm]
      show d * 1 + _ = _
      rw [Int.mul_one]
    have hdl : 0 ≤ d * (l.length : Int) := Int.mul_nonneg hd (by omega)
    rw [e] at hm
    obtain ⟨w, xs, e1, hU, hp1⟩ := h x m S hp (by omega)
    obtain ⟨ws, ys, e2, h1, h2, h3⟩ := turns_draw U d hd hv h l (ws0 ++ [w]) (m + d) (S.set p (some xs)) hp1 (by omega) (by rw [List.length_append, List.length_singleton]; omega)
    refine ⟨w :: ws, ys, ?_, by rw [List.length_cons, List.length_cons, h1], ?_, ?_⟩
    · have hb : bindT (.nm v) x (wipe ρ [v]) = some ((ρ.set v none).set v (some (.d x))) := by
        rw [wipe_cons, wipe_nil, bindT_nm, if_pos (by rw [List.length_set]; exact hv)]
      rw [turns_cons, hb, bnd, evT_nil, bnd, if_pos rfl, e1, bnd, asD_d, bnd, if_pos (by rw [List.length_map]; omega)]
      rw [List.map_append, List.map_singleton] at e2
      rw [e2, List.set_set, List.append_assoc]
      rfl
    · intro z hz
      rw [List.mem_cons] at hz
      rcases hz with rfl | hz
      · exact hU
      · exact h2 z hz
    · rw [List.set_set] at h3
      rw [List.length_cons, e, ← Int.add_assoc]
      exact h3
theorem finish_new (S : Store) (xs : List D) : DL.finish S.length (S ++ [some xs]) (.r S.length) = some (.r S.length, S ++ [some xs]) := by
  unfold DL.finish
  dsimp only
  rw [if_neg (Nat.lt_irrefl _)]
  have e : (S ++ [some xs])[S.length]? = some (some xs) := by simp [-Option.bind_some]
  simp only [e, List.take_left]
theorem pow10 (C : Call) (n : Nat) (ρ : DL.Env) (S : Store) : ∃ M : Int, 0 < M ∧ B 1000 M ∧ ev C (n + 3) (.o2 .pow (.o2 .pow (.cst (.int 10)) (.cst (.int 60))) (.cst (.int 5))) ρ S = some (.d (.int M), S) := by
  refine ⟨((10 : Int) ^ 60) ^ 5, by decide +kernel, by unfold B; decide +kernel, ?_⟩
  have h6 : powOk 10 60 = true := powOk_of (n := 10) (i := 10) (by unfold B; decide) 60 (by omega)
  rw [ev_o2, ev_o2, ev_cst, bnd, ev_cst, bnd, deref_d, bnd, deref_d, bnd, o2_pow h6, bnd, bnd, ev_cst, bnd, deref_d, bnd, deref_d, bnd]
  have h5 : powOk ((10 : Int) ^ (60 : Int).toNat) 5 = true := powOk_of (n := 200) (by unfold B; decide +kernel) 5 (by omega)
  rw [o2_pow h5, bnd]
  rfl
theorem pot_own (C : Call) (P : Tm) (M z : Int) (x y : E) (r : DL.Env) (S : Store) (hM0 : 0 < M) (hM1 : B 1000 M) (hP : ev C 38 P (some x :: some y :: some (.d (.int z)) :: r) S = some (.d (.int M), S)) :
    ∃ o : Int, 0 ≤ o ∧ ev C 40 (.o2 .mul (.o2 .mod (.o1 .int (.o1 .abs (.var 2))) P) (.o1 .int (.o2 .ge (.o1 .abs (.var 2)) (.o2 .pow (.cst (.int 10)) (.cst (.int 18)))))) (some x :: some y :: some (.d (.int z)) :: r) S = some (.d (.int o), S) := by
  generalize ha : (if z < 0 then -z else z) = a
  have h1 : powOk 10 18 = true := powOk_of (n := 10) (i := 10) (by unfold B; decide) 18 (by omega)
  have h2 : ∃ w, o2 .pow (.int 10) (.int 18) = some (.int w) := ⟨_, o2_pow h1⟩
  obtain ⟨w, h2⟩ := h2
  have b1 : B 1000 (a % M) := by
    have h3 := Int.emod_nonneg a (by omega : M ≠ 0)
    have h4 := Int.emod_lt_of_pos a hM0
    unfold B at *
    omega
  have m1 : ∀ b : Bool, mulOk (a % M) (if b then 1 else 0) = true := fun b => mulOk_of (n := 1000) (m := 2) b1 (by unfold B; cases b <;> decide) (by omega)
  refine ⟨a % M * (if decide (w ≤ a) then 1 else 0), Int.mul_nonneg (Int.emod_nonneg a (by omega)) (by split <;> decide), ?_⟩
  have m2 := m1 (decide (w ≤ a))
  simp only [ev_o2, ev_o1, ev_var, ev_cst, getV_zero, getV_succ, bnd, deref_d, o1_abs, o1_int, o1_intb, o2_ge, h2, ha, hP, o2_mod hM0, o2_mul m2]
theorem sum_le {M : Nat} : ∀ ws : List Nat, (∀ w ∈ ws, w ≤ M) → ws.sum ≤ ws.length * M
  | [], _ => Nat.zero_le _
  | w :: ws, h => by
    have h1 := h w List.mem_cons_self
    have h2 := sum_le ws fun x hx => h x (List.mem_cons_of_mem _ hx)
    rw [List.sum_cons, List.length_cons, Nat.succ_mul]
    omega
theorem le_sum {m : Nat} : ∀ ws : List Nat, (∀ w ∈ ws, m ≤ w) → ws.length * m ≤ ws.sum
  | [], _ => by simp [-Option.bind_some]
  | w :: ws, h => by
    have h1 := h w List.mem_cons_self
    have h2 := le_sum ws fun x hx => h x (List.mem_cons_of_mem _ hx)
    rw [List.sum_cons, List.length_cons, Nat.succ_mul]
    omega
theorem all_bl (n : Nat) : o1 .all (.lst (List.replicate n (D.bl true))) = some (.bl true) := by
  have := o1_all (List.replicate n true)
  rw [List.map_replicate] at this
  rw [this]
  simp [-Option.bind_some]
theorem ev_isN {C : Call} {n : Nat} {ρ : DL.Env} {S : Store} (a : Tm) : ev C (n + 1) (.isN a) ρ S = (ev C n a ρ S).bind fun p => some (.d (.bl (isNonE p.1)), p.2) := (rfl)
theorem ev_notN {C : Call} {n : Nat} {ρ : DL.Env} {S : Store} (a : Tm) : ev C (n + 1) (.notN a) ρ S = (ev C n a ρ S).bind fun p => some (.d (.bl (!isNonE p.1)), p.2) := (rfl)
theorem ev_isB {C : Call} {n : Nat} {ρ : DL.Env} {S : Store} (b : Bool) (a : Tm) : ev C (n + 1) (.isB b a) ρ S = (ev C n a ρ S).bind fun p => (isTrueD p.1).bind fun c => some (.d (.bl (decide (c = b))), p.2) := (rfl)
theorem ev_notB {C : Call} {n : Nat} {ρ : DL.Env} {S : Store} (b : Bool) (a : Tm) : ev C (n + 1) (.notB b a) ρ S = (ev C n a ρ S).bind fun p => (isTrueD p.1).bind fun c => some (.d (.bl (!decide (c = b))), p.2) := (rfl)
theorem ev_popAt {C : Call} {n : Nat} {ρ : DL.Env} {S : Store} (a b : Tm) : ev C (n + 1) (.popAt a b) ρ S = (ev C n a ρ S).bind fun p => (deref p.2 p.1).bind fun _ => (ev C n b ρ p.2).bind fun q => (asD q.1).bind fun y => (asI y).bind fun i => onR p.1 fun m => getS q.2 m fun xs => if 0 ≤ i ∧ i < (xs.length : Int) ∧ i < 10000000 then (xs[i.toNat]?).bind fun z => some (.d z, q.2.set m (some (xs.eraseIdx i.toNat))) else none := (rfl)
theorem cut_hi (xs : List D) (n : Nat) : cutD xs none (some (n : Int)) = xs.take n := by
  unfold cutD
  rw [HT.sIx_nat, HT.sIx_none, List.drop_zero, Nat.sub_zero]
  by_cases h : n ≤ xs.length
  · rw [Nat.min_eq_left h]
  · rw [Nat.min_eq_right (by omega), List.take_of_length_le (Nat.le_refl _), List.take_of_length_le (by omega)]
theorem o2_isIn_nat (i : Nat) (l : List Nat) : o2 .isIn (.int (i : Int)) (.lst (l.map natD)) = some (.bl (decide (i ∈ l))) := by
  have h1 : (l.map natD).all isLeaf = true := by
    rw [List.all_eq_true]
    intro x hx
    rw [List.mem_map] at hx
    obtain ⟨n, _, rfl⟩ := hx
    rfl
  have h2 : memD (.int (i : Int)) (l.map natD) = decide (i ∈ l) := by
    unfold memD
    induction l with
    | nil => rfl
    | cons n l ih =>
      have h1' : (l.map natD).all isLeaf = true := by
        rw [List.map_cons, List.all_cons, Bool.and_eq_true] at h1
        exact h1.2
      rw [List.map_cons, List.any_cons, ih h1']
      show (decide ((n : Int) = (i : Int)) || decide (i ∈ l)) = _
      rw [← Bool.decide_or]
      refine decide_eq_decide.mpr ?_
      rw [List.mem_cons]
      constructor
      · rintro (h | h)
        · exact .inl (by omega)
        · exact .inr h
      · rintro (h | h)
        · exact .inl (by omega)
        · exact .inr h
  show ((items (.lst (l.map natD))).bind fun ys => if memOk (.int (i : Int)) ys = true then some (D.bl (memD (.int (i : Int)) ys)) else none) = _
  show (if memOk (.int (i : Int)) (l.map natD) = true then some (D.bl (memD (.int (i : Int)) (l.map natD))) else none) = _
  rw [if_pos (by unfold memOk; rw [h1]; rfl), h2]
theorem enumD_range (X : Nat → D) (n : Nat) : enumD 0 ((List.range n).map X) = (List.range n).map fun i => .tup [.int (i : Int), X i] := by
  have go : ∀ (l : List D) (k : Nat), enumD k l = (l.zipIdx k).map fun p => D.tup [.int (p.2 : Int), p.1] := by
    intro l
    induction l with
    | nil => exact fun _ => rfl
    | cons c r ih =>
      intro i
      rw [List.zipIdx_cons, List.map_cons, ← ih (i + 1)]
      rfl
  rw [go]
  apply List.ext_getElem
  · simp [-Option.bind_some]
  · intro i h1 h2
    simp [-Option.bind_some]
theorem map_getDg {α β : Type} (d : β) (F : β → α) (ws : List β) : ((List.range ws.length).map fun i => F (ws.getD i d)) = ws.map F := by
  apply List.ext_getElem
  · simp
  · intro i h1 h2
    simp [List.getD_eq_getElem?_getD, List.getElem?_eq_getElem (by simpa using h2 : i < ws.length)]
theorem o1_sum_n (l : List Nat) : o1 .sum (.lst (l.map natD)) = some (.int ((l.sum : Nat) : Int)) := by
  have := o1_sum_nat l (fun x => x)
  rw [List.map_id'] at this
  exact this
theorem o1_all_map {A : Type} (f : A → Bool) (l : List A) : o1 .all (.lst (l.map fun a => D.bl (f a))) = some (.bl (l.all f)) := by
  have := o1_all (l.map f)
  rw [List.map_map] at this
  rw [show (D.bl ∘ f) = fun a => D.bl (f a) from rfl] at this
  rw [this, List.all_map]
  rfl
theorem ints_of : ∀ {xs : List D} {ns : List Int}, intsOf xs = some ns → xs = ns.map D.int
  | [], _, h => by
    cases h
    rfl
  | x :: xs, ns, h => by
    cases x with
    | int i =>
      cases hq : intsOf xs with
      | none =>
        rw [show intsOf (.int i :: xs) = (intsOf xs).map (i :: ·) from rfl, hq] at h
        cases h
      | some ms =>
        rw [show intsOf (.int i :: xs) = (intsOf xs).map (i :: ·) from rfl, hq] at h
        cases h
        rw [ints_of hq]
        rfl
    | _ => cases h
theorem all_ints {p : D → Bool} {q : Int → Bool} (h1 : ∀ i, p (.int i) = q i) (h2 : ∀ x, (∀ i, x ≠ .int i) → p x = false) : ∀ xs : List D, xs.all p = match intsOf xs with | some ns => ns.all q | none => false
  | [] => rfl
  | x :: xs => by
    have ih := all_ints h1 h2 xs
    cases x with
    | int i =>
      rw [List.all_cons, ih, h1, show intsOf (.int i :: xs) = (intsOf xs).map (i :: ·) from rfl]
      cases intsOf xs with
      | none => rw [Bool.and_false]; rfl
      | some ns => rfl
    | _ =>
      rw [List.all_cons, h2 _ (by intro i h; cases h), Bool.false_and]
      rfl
theorem map_getD {α : Type} (F : Nat → α) (ws : List Nat) : ((List.range ws.length).map fun i => F (ws.getD i 0)) = ws.map F := by
  apply List.ext_getElem
  · simp
  · intro i h1 h2
    simp [List.getD_eq_getElem?_getD, List.getElem?_eq_getElem (by simpa using h2 : i < ws.length)]
end DL
end

section
set_option autoImplicit false
set_option linter.all false
set_option maxRecDepth 20000
/-! Pots, drawn from: the same in all laws, but for their numbers. -/
namespace DL
open PySem
def takeF (a b c d : Int) : Fn := ⟨"_law_take", ["pot", "upto"], ["pot", "upto", "prime", "blend", "digit"], [
  .ife (.o2 .gt (.idxL (.var 0) (.cst (.int 0))) (.cst (.int 0))) [.asg (.nm 4) (.o2 .mod (.o1 .int (.idxL (.var 0) (.cst (.int 0)))) (.var 1)), .setI (.var 0) (.cst (.int 0)) (.o2 .fdiv (.idxL (.var 0) (.cst (.int 0))) (.var 1)), .ret (.var 4)] [],
  .setI (.var 0) (.cst (.int 2)) (.o2 .add (.idxL (.var 0) (.cst (.int 2))) (.cst (.int 1))),
  .asg (.nm 2) (.idxL (.lst [.cst (.int 2147483647), .cst (.int 2147483629), .cst (.int 2147483587), .cst (.int 2147483579), .cst (.int 2147483563)]) (.o2 .mod (.o1 .int (.idxL (.var 0) (.cst (.int 2)))) (.cst (.int 5)))),
  .asg (.nm 3) (.o2 .mod (.o1 .int (.o2 .pow (.o1 .int (.o2 .add (.o2 .add (.idxL (.var 0) (.cst (.int 1))) (.o2 .mul (.o2 .mul (.cst (.int a)) (.idxL (.var 0) (.cst (.int 2)))) (.idxL (.var 0) (.cst (.int 2))))) (.cst (.int b)))) (.cst (.int 3)))) (.var 2)),
  .asg (.nm 3) (.o2 .mod (.o1 .int (.o2 .mul (.var 3) (.o2 .add (.o2 .mod (.o1 .int (.var 3)) (.cst (.int c))) (.o2 .mul (.cst (.int d)) (.idxL (.var 0) (.cst (.int 2))))))) (.cst (.int 2305843009213693907))),
  .ret (.o2 .mod (.o1 .int (.o2 .fdiv (.var 3) (.cst (.int 128)))) (.var 1))]⟩
structure Nums (a b c d : Int) : Prop where
  a0 : 0 ≤ a
  a1 : a < 200000
  b0 : 0 ≤ b
  b1 : b < 200000
  c0 : 0 < c
  c1 : c < 200000
  d0 : 0 ≤ d
  d1 : d < 200000
section
variable {T : List Fn} {i : Nat} {a b c d : Int}
theorem take_own (hf : T[i]? = some (takeF a b c d)) (k : Nat) (S : Store) (p : Nat) (o m e u : Int) (hS : S[p]? = some (some (potD o m e))) (ho : 0 < o) (hu : 0 < u ∧ u < 2 ^ 60) :
    callD T (k + 1) i [.r p, .d (.int u)] S = some (.d (.int (o % u)), S.set p (some (potD (o / u) m e))) := by
  rw [callD_run (fn := takeF a b c d) hf rfl]
  have hd : divOk u = true := divOk_of (n := 60) hu.1 (by unfold B; omega) (by omega)
  simp [-Option.bind_some, takeF, deref_r hS, getS_of hS, potD, ho, o2_mod hu.1, o2_fdiv hd]
theorem take_mix (hf : T[i]? = some (takeF a b c d)) (hn : Nums a b c d) (k : Nat) (S : Store) (p : Nat) (o m e u : Int) (hS : S[p]? = some (some (potD o m e))) (ho : ¬ 0 < o) (hm : B 70 m) (hc : 0 ≤ e ∧ e < 1000000) (hu : 0 < u ∧ u < 2 ^ 60) :
    ∃ r, callD T (k + 1) i [.r p, .d (.int u)] S = some (.d (.int r), S.set p (some (potD o m (e + 1)))) ∧ 0 ≤ r ∧ r < u := by
  rw [callD_run (fn := takeF a b c d) hf rfl]
  obtain ⟨a0, a1, b0, b1, c0, c1, d0, d1⟩ := hn
  obtain ⟨P, hP, hP0, hP1⟩ := prime_at (e + 1)
  have be : B 20 (e + 1) := by unfold B; omega
  have ba : B 18 a := by unfold B; omega
  have bd : B 18 d := by unfold B; omega
  have m1 : mulOk a (e + 1) = true := mulOk_of ba be (by omega)
  have y1 : B 38 (a * (e + 1)) := B.mul ba be
  have m2 : mulOk (a * (e + 1)) (e + 1) = true := mulOk_of y1 be (by omega)
  have y2 : B 58 (a * (e + 1) * (e + 1)) := B.mul y1 be
  have y3 : B 72 (m + a * (e + 1) * (e + 1) + b) := B.add (B.add hm (y2.mono (by omega))) (by unfold B; omega)
  have hp : powOk (m + a * (e + 1) * (e + 1) + b) 3 = true := powOk_of y3 3 (by omega)
  generalize hx : (m + a * (e + 1) * (e + 1) + b) ^ 3 % P = x
  have hx0 : 0 ≤ x := by rw [← hx]; exact Int.emod_nonneg _ (by omega)
  have hx1 : x < P := by rw [← hx]; exact Int.emod_lt_of_pos _ hP0
  have m3 : mulOk d (e + 1) = true := mulOk_of bd be (by omega)
  have y5 : B 38 (d * (e + 1)) := B.mul bd be
  have z0 : 0 ≤ x % c := Int.emod_nonneg _ (by omega)
  have z1 : x % c < c := Int.emod_lt_of_pos _ c0
  have y6 : B 39 (x % c + d * (e + 1)) := B.add (by unfold B; omega) y5
  have m4 : mulOk x (x % c + d * (e + 1)) = true := mulOk_of (n := 40) (m := 39) (by unfold B; omega) y6 (by omega)
  have d1 : divOk 128 = true := divOk_of (n := 10) (by decide) (by unfold B; decide) (by omega)
  refine ⟨x * (x % c + d * (e + 1)) % 2305843009213693907 / 128 % u, ?_, Int.emod_nonneg _ (by omega : u ≠ 0), Int.emod_lt_of_pos _ hu.1⟩
  · simp [-Option.bind_some, takeF, deref_r hS, getS_of hS, deref_set hS, getS_set hS, potD, ho, o2_mod hu.1, o2_mod hP0, o2_mod (i := e + 1) (j := 5) (by decide), o2_mod (i := x) c0, o2_mod (j := 2305843009213693907) (by decide), o2_fdiv d1, o2_mul m1, o2_mul m2, o2_mul m3, o2_mul m4, o2_pow hp, hP, hx, fits]
theorem g_take (hf : T[i]? = some (takeF a b c d)) (hk : Nums a b c d) (k : Nat) {n : Int} {S : Store} {p : Nat} (u : Int) (h : Pot n S p) (hn : n < 900000) (hu : 0 < u ∧ u < 2 ^ 60) :
    ∃ r xs, callD T (k + 1) i [.r p, .d (.int u)] S = some (.d (.int r), S.set p (some xs)) ∧ 0 ≤ r ∧ r < u ∧ Pot (n + 1) (S.set p (some xs)) p := by
  have hl := h.lt
  obtain ⟨o, m, e, hS, ho, hm, hc, hc2⟩ := h
  by_cases h0 : 0 < o
  · refine ⟨_, _, take_own hf k S p o m e u hS h0 hu, Int.emod_nonneg _ (by omega), Int.emod_lt_of_pos _ hu.1, _, _, _, List.getElem?_set_self hl, Int.ediv_nonneg ho (by omega), hm, hc, by omega⟩
  · obtain ⟨r, e, h1, h2⟩ := take_mix hf hk k S p o m e u hS h0 hm ⟨hc, by omega⟩ hu
    exact ⟨_, _, e, h1, h2, _, _, _, List.getElem?_set_self hl, ho, hm, by omega, by omega⟩
end
/-- draws are promised for the def with number i -/
def Takes (T : List Fn) (i : Nat) : Prop := ∀ (k : Nat) {n : Int} {S : Store} {p : Nat} (u : Int), Pot n S p → n < 900000 → 0 < u ∧ u < 2 ^ 60 →
    ∃ r xs, callD T (k + 1) i [.r p, .d (.int u)] S = some (.d (.int r), S.set p (some xs)) ∧ 0 ≤ r ∧ r < u ∧ Pot (n + 1) (S.set p (some xs)) p
def ofF (i : Nat) : Fn := ⟨"_law_of", ["pot", "some"], ["pot", "some"], [
  .ret (.idxL (.var 1) (.call i [.var 0, .o1 .len (.var 1)]))]⟩
section
variable {T : List Fn} {i j : Nat}
theorem g_of (ht : Takes T i) (hf : T[j]? = some (ofF i)) (k : Nat) {n : Int} {S : Store} {p : Nat} (ds : List D) (h : Pot n S p) (hn : n < 900000) (hu : 0 < ds.length ∧ ds.length < 100000) :
    ∃ d xs, callD T (k + 2) j [.r p, .d (.lst ds)] S = some (.d d, S.set p (some xs)) ∧ d ∈ ds ∧ Pot (n + 1) (S.set p (some xs)) p := by
  obtain ⟨r, xs, e, h1, h2, h3⟩ := ht k (ds.length : Int) h hn (by omega)
  have er : r = ((r.toNat : Nat) : Int) := by omega
  have hr : r.toNat < ds.length := by omega
  have ea : atD ds r = some ds[r.toNat] := by
    have := atD_nat (i := r.toNat) hr
    rw [← er] at this
    exact this
  rw [callD_run (fn := ofF i) hf rfl]
  refine ⟨ds[r.toNat], xs, ?_, List.getElem_mem _, h3⟩
  simp [-Option.bind_some, ofF, e, ea]
def someF (i : Nat) : Fn := ⟨"_law_some", ["pot", "some", "amount"], ["pot", "some", "amount", "left", "found", "lap"], [
  .par 3 4 (.new (.o1 .listL (.var 1))) (.new (.lst [])),
  .for_ (.nm 5) .rng1 [.var 2] [.expr (.app (.var 4) (.popAt (.var 3) (.call i [.var 0, .o1 .len (.var 3)])))],
  .frz 3,
  .frz 4,
  .ret (.var 4)]⟩
def cellsF : Fn := ⟨"_law_cells", ["script", "limit"], ["script", "limit"], [
  .ret (.lstRg1 (.max2 (.cst (.int 1)) (.min2 (.var 1) (.o1 .len (.var 0)))))]⟩
theorem g_cells (hf : T[j]? = some cellsF) (k : Nat) (ds : List D) (lim : Int) (hl : 1 ≤ lim ∧ lim < 100) (S : Store) : ∃ j' : Int, 1 ≤ j' ∧ j' ≤ lim ∧ callD T (k + 1) j [.d (.scr ds), .d (.int lim)] S = some (.d (.lst (rangeD 0 j')), S) := by
  rw [callD_run (fn := cellsF) hf rfl]
  have h1 : ∀ j : Int, 1 ≤ j ∧ j ≤ 100 → rgOk 0 j = true := by
    intro j hj
    have f1 : fits (j - 0).toNat = true := by
      unfold fits
      exact decide_eq_true (by omega)
    unfold rgOk
    rw [small62_int (by omega), small62_int (by omega), f1]
    rfl
  refine ⟨if (if (ds.length : Int) < lim then (ds.length : Int) else lim) > 1 then (if (ds.length : Int) < lim then (ds.length : Int) else lim) else 1, ?_, ?_, ?_⟩
  · split <;> omega
  · split <;> split <;> omega
  · have h2 := h1 (if (if (ds.length : Int) < lim then (ds.length : Int) else lim) > 1 then (if (ds.length : Int) < lim then (ds.length : Int) else lim) else 1) (by constructor <;> split <;> split <;> omega)
    simp only [cellsF, exs_cons, ex_ret, ev_lstRg1, ev_max2, ev_min2, ev_cst, ev_var, ev_o1, getV_zero, getV_succ, bnd, asD_d, asI_int, deref_d, o1_lenS, List.map_cons, List.map_nil, List.cons_append, List.nil_append, h2, if_true, thenO_ret, finish_d, List.take_length]
/-! ### a pot -/
def cellE (c1 c2 : Int) : Tm := .ite (.o2 .lt (.var 1) (.o1 .len (.var 0))) (.idxL (.var 0) (.var 1)) (.o2 .add (.o2 .add (.o2 .mod (.o1 .sum (.slL (.var 0) none (some (.cst (.int 1))))) (.cst (.int 1000003))) (.o2 .mul (.cst (.int c1)) (.var 1))) (.cst (.int c2)))
def ownE (P : Tm) : Tm := .o2 .mul (.o2 .mod (.o1 .int (.o1 .abs (.var 2))) P) (.o1 .int (.o2 .ge (.o1 .abs (.var 2)) (.o2 .pow (.cst (.int 10)) (.cst (.int 18)))))
def bigE : Tm := .o2 .pow (.o2 .pow (.cst (.int 10)) (.cst (.int 60))) (.cst (.int 5))
def potF (c1 c2 c3 c4 c5 : Int) : Fn := ⟨"_law_pot", ["script", "place"], ["script", "place", "cell", "own", "small"], [
  .asg (.nm 2) (cellE c1 c2),
  .asg (.nm 3) (ownE bigE),
  .asg (.nm 4) (.o2 .mod (.o1 .int (.var 2)) (.cst (.int 2305843009213693951))),
  .ret (.new (.lst [.var 3, .o2 .mod (.o1 .int (.o2 .add (.o2 .add (.o2 .mul (.var 4) (.cst (.int c3))) (.o2 .mul (.o2 .mul (.cst (.int c4)) (.var 1)) (.var 1))) (.cst (.int c5)))) (.cst (.int 2305843009213693921)), .cst (.int 0)]))]⟩
structure Nums5 (c1 c2 c3 c4 c5 : Int) : Prop where
  h1 : 0 ≤ c1 ∧ c1 < 200000
  h2 : 0 ≤ c2 ∧ c2 < 200000
  h3 : 0 ≤ c3 ∧ c3 < 200000
  h4 : 0 ≤ c4 ∧ c4 < 200000
  h5 : 0 ≤ c5 ∧ c5 < 200000
theorem pot_cell (C : Call) {c1 c2 : Int} (hc : 0 ≤ c1 ∧ c1 < 200000) (ns : List Int) (pl : Nat) (hp : pl ≤ 63) (S : Store) (ρ : DL.Env) : ∃ z, ev C 40 (cellE c1 c2) (some (.d (.scr (ns.map D.int))) :: some (.d (.int (pl : Int))) :: ρ) S = some (.d (.int z), S) := by
  have m1 : mulOk c1 (pl : Int) = true := mulOk_of (n := 20) (m := 10) (by unfold B; omega) (by unfold B; omega) (by omega)
  unfold cellE
  by_cases h : pl < ns.length
  · have ha : atD (ns.map D.int) (pl : Int) = some (.int ns[pl]) := by
      rw [atD_nat (i := pl) (by rw [List.length_map]; exact h), List.getElem_map]
    refine ⟨ns[pl], ?_⟩
    simp [-Option.bind_some, h, ha]
  · have hs : ∃ ms : List Int, cutD (ns.map D.int) none (some 1) = ms.map D.int := by
      refine ⟨((ns.drop (HT.sIx ns.length 0 none)).take (HT.sIx ns.length ns.length (some 1) - HT.sIx ns.length 0 none)), ?_⟩
      unfold cutD
      rw [List.map_take, List.map_drop, List.length_map]
    obtain ⟨ms, hs⟩ := hs
    refine ⟨ms.sum % 1000003 + c1 * (pl : Int) + c2, ?_⟩
    simp [-Option.bind_some, h, hs, o1_sum, o2_mul m1, o2_mod (j := 1000003) (by decide)]
theorem pot_body (C : Call) {c3 c4 c5 : Int} (k3 : 0 ≤ c3 ∧ c3 < 200000) (k4 : 0 ≤ c4 ∧ c4 < 200000) (e1 e2 : Tm) (x : E) (pl : Nat) (z o : Int) (S : Store) (hp : pl ≤ 63) (h1 : ev C 40 e1 [some x, some (.d (.int (pl : Int))), none, none, none] S = some (.d (.int z), S))
    (h2 : ev C 40 e2 [some x, some (.d (.int (pl : Int))), some (.d (.int z)), none, none] S = some (.d (.int o), S)) :
    ∃ m, B 70 m ∧ exs (ex C 20) [.asg (.nm 2) e1, .asg (.nm 3) e2, .asg (.nm 4) (.o2 .mod (.o1 .int (.var 2)) (.cst (.int 2305843009213693951))),
  .ret (.new (.lst [.var 3, .o2 .mod (.o1 .int (.o2 .add (.o2 .add (.o2 .mul (.var 4) (.cst (.int c3))) (.o2 .mul (.o2 .mul (.cst (.int c4)) (.var 1)) (.var 1))) (.cst (.int c5)))) (.cst (.int 2305843009213693921)), .cst (.int 0)]))] [some x, some (.d (.int (pl : Int))), none, none, none] S = some (.ret (.r S.length), S ++ [some (potD o m 0)]) := by
  generalize hs : z % 2305843009213693951 = s
  have hs0 : 0 ≤ s := by rw [← hs]; exact Int.emod_nonneg _ (by decide)
  have hs1 : s < 2305843009213693951 := by rw [← hs]; exact Int.emod_lt_of_pos _ (by decide)
  have b4 : B 18 c4 := by unfold B; omega
  have bp : B 10 (pl : Int) := by unfold B; omega
  have m1 : mulOk s c3 = true := mulOk_of (n := 70) (m := 20) (by unfold B; omega) (by unfold B; omega) (by omega)
  have m2 : mulOk c4 (pl : Int) = true := mulOk_of b4 bp (by omega)
  have m3 : mulOk (c4 * (pl : Int)) (pl : Int) = true := mulOk_of (B.mul b4 bp) bp (by omega)
  refine ⟨(s * c3 + c4 * (pl : Int) * (pl : Int) + c5) % 2305843009213693921, ?_, ?_⟩
  · have h3 := Int.emod_nonneg (s * c3 + c4 * (pl : Int) * (pl : Int) + c5) (by decide : (2305843009213693921 : Int) ≠ 0)
    have h4 := Int.emod_lt_of_pos (s * c3 + c4 * (pl : Int) * (pl : Int) + c5) (by decide : (0 : Int) < 2305843009213693921)
    unfold B
    omega
  · simp [-Option.bind_some, h1, h2, hs, o2_mod (j := 2305843009213693951) (by decide), o2_mod (j := 2305843009213693921) (by decide), o2_mul m1, o2_mul m2, o2_mul m3, fits, potD]
theorem g_pot {c1 c2 c3 c4 c5 : Int} (hf : T[j]? = some (potF c1 c2 c3 c4 c5)) (hn : Nums5 c1 c2 c3 c4 c5) (k : Nat) (ns : List Int) (pl : Nat) (hp : pl ≤ 63) (S : Store) : ∃ xs, callD T (k + 1) j [.d (.scr (ns.map D.int)), .d (.int (pl : Int))] S = some (.r S.length, S ++ [some xs]) ∧ Pot 0 (S ++ [some xs]) S.length := by
  obtain ⟨z, hz⟩ := pot_cell (c2 := c2) (callD T k) hn.h1 ns pl hp S [none, none, none]
  obtain ⟨M, hM0, hM1, hM⟩ := pow10 (callD T k) 35 [some (.d (.scr (ns.map D.int))), some (.d (.int (pl : Int))), some (.d (.int z)), none, none] S
  obtain ⟨o, ho, hO⟩ := pot_own (callD T k) _ M z _ _ _ S hM0 hM1 hM
  obtain ⟨m, hm, hB⟩ := pot_body (c3 := c3) (c4 := c4) (c5 := c5) (callD T k) hn.h3 hn.h4 _ _ _ pl z o S hp hz hO
  refine ⟨potD o m 0, ?_, o, m, 0, by simp [-Option.bind_some], ho, hm, Int.le_refl _, Int.le_refl _⟩
  rw [callD_run (fn := potF c1 c2 c3 c4 c5) hf rfl]
  refine Eq.trans (congrArg (fun w => Option.bind w _) hB) ?_
  rw [bnd, thenO_ret, finish_new]
end
end DL
end

section
set_option autoImplicit false
set_option linter.all false
set_option maxRecDepth 20000
namespace DL
open PySem
/-! what is shown -/
/-! what is shown -/
theorem so_of (s : String) : PyData.strOk (Str.ofString s) = true := by
  rw [Str.ofString_eq_toList]
  unfold PyData.strOk
  rw [Array.all_eq_true']
  intro x hx
  rw [List.mem_toArray, List.mem_map] at hx
  obtain ⟨c, _, rfl⟩ := hx
  have h := c.valid
  have h2 : c.toNat < 0x110000 := by
    rcases h with h | ⟨_, h⟩
    · exact Nat.lt_trans h (by decide)
    · exact h
  exact decide_eq_true h2
theorem so_app (a b : Str) (ha : PyData.strOk a = true) (hb : PyData.strOk b = true) : PyData.strOk (a ++ b) = true := by
  show (a.cps ++ b.cps).all _ = true
  rw [Array.all_append]
  unfold PyData.strOk at ha hb
  rw [ha, hb]
  rfl
theorem so_join (sep : Str) (hs : PyData.strOk sep = true) : ∀ ts : List Str, (∀ t ∈ ts, PyData.strOk t = true) → PyData.strOk (Str.join sep ts) = true
  | [], _ => by
    show PyData.strOk Str.empty = true
    decide +kernel
  | [x], h => h x List.mem_cons_self
  | x :: y :: r, h => by
    show PyData.strOk (x ++ sep ++ Str.join sep (y :: r)) = true
    exact so_app _ _ (so_app _ _ (h x List.mem_cons_self) hs) (so_join sep hs (y :: r) fun t ht => h t (List.mem_cons_of_mem _ ht))
theorem so_tuple (ts : List Str) (h : ∀ t ∈ ts, PyData.strOk t = true) : PyData.strOk (tupleText ts) = true := by
  unfold tupleText
  refine so_app _ _ (so_app _ _ (so_of _) (so_join _ (so_of _) ts h)) ?_
  split <;> exact so_of _
theorem so_int (i : Int) : PyData.strOk (PyData.shown (.int i)) = true := by
  simp only [PyData.shown]
  exact so_of _
theorem int_short {i : Nat} (h : i < 10 ^ 20) : (PyData.shown (.int (i : Int))).length ≤ 20 := by
  have e : PyData.shown (.int (i : Int)) = ⟨((Nat.toDigits 10 i).map Char.toNat).toArray⟩ := by
    simp only [PyData.shown]
    exact PyProof.Rows.text_ofNat i
  rw [e]
  show (((Nat.toDigits 10 i).map Char.toNat).toArray).size ≤ 20
  rw [List.size_toArray, List.length_map]
  exact PyProof.Rows.digits10_le (by decide) h
theorem log_small {i : Nat} (h : i < 10 ^ 20) : i.log2 < 70 := by
  by_cases h0 : i = 0
  · subst h0
    decide
  · exact (Nat.log2_lt h0).mpr (Nat.lt_of_lt_of_le h (by decide))
theorem weight_nat (n : Nat) (hn : n.log2 < 70) : PyData.weight (.int (n : Int)) ≤ 70 := by
  simp only [PyData.weight]
  split
  · omega
  · rw [Int.natAbs_natCast]
    omega
theorem show_nats : ∀ t : List Nat, (∀ x ∈ t, x < 10 ^ 20) → D.flats (t.map natD) = true ∧ PyData.showableAll (D.pys (t.map natD)) = true ∧ PyData.depthAll (D.pys (t.map natD)) = 0 ∧
    PyData.leavesShortAll 20 (D.pys (t.map natD)) = true ∧ PyData.weightAll (D.pys (t.map natD)) ≤ 71 * t.length ∧ ∀ u ∈ PyData.shownAll (D.pys (t.map natD)), PyData.strOk u = true
  | [], _ => ⟨rfl, rfl, rfl, rfl, Nat.le_refl _, by simp [-Option.bind_some, D.pys, PyData.shownAll]⟩
  | x :: t, h => by
    have hx := h x List.mem_cons_self
    obtain ⟨h1, h2, h3, h4, h5, h6⟩ := show_nats t fun y hy => h y (List.mem_cons_of_mem _ hy)
    have l1 := log_small hx
    have s1 := int_short hx
    have d1 : x.log2 < 1920 := by omega
    have w1 := weight_nat x l1
    rw [List.map_cons]
    have e : natD x = .int (x : Int) := rfl
    rw [e]
    refine ⟨?_, ?_, ?_, ?_, ?_, ?_⟩
    · simp only [D.flats, D.flat, h1, Bool.and_true]
    · simp only [D.pys, D.py, PyData.showableAll, PyData.showable, h2, Int.natAbs_natCast, d1, decide_true, Bool.and_true]
    · simp only [D.pys, D.py, PyData.depthAll, PyData.depth, h3]
      rfl
    · simp only [D.pys, D.py, PyData.leavesShortAll, PyData.leavesShort, h4, s1, decide_true, Bool.and_true]
    · rw [List.length_cons]
      have e : PyData.weightAll (D.pys (.int (x : Int) :: t.map natD)) = PyData.weight (.int (x : Int)) + 1 + PyData.weightAll (D.pys (t.map natD)) := by
        simp only [D.pys, D.py, PyData.weightAll, PyData.weight]
      rw [e]
      omega
    · intro u hu
      simp only [D.pys, D.py, PyData.shownAll] at hu
      rw [List.mem_cons] at hu
      rcases hu with rfl | hu
      · exact so_int _
      · exact h6 u hu
/-- a text that is shown: alike itself -/
def Shows (x : D) : Prop := ∃ s, o1 .repr x = some (.str s) ∧ o2 .eq (.str s) (.str s) = some (.bl true) ∧ o2 .ne (.str s) (.str s) = some (.bl false)
theorem eqOk_str {s : Str} (hs : PyData.strOk s = true) : eqOk (.str s) = true := by
  simp only [eqOk, SeqAt.shaped, D.flat, D.py, PyData.canLay0, PyData.depth, hs, Nat.zero_le, decide_true, Bool.and_true]
theorem repr_nats (t : List Nat) (h : ∀ x ∈ t, x < 10 ^ 20) (hl : t.length ≤ 1000) : Shows (.tup (t.map natD)) := by
  obtain ⟨h1, h2, h3, h4, h5, h6⟩ := show_nats t h
  have hw : PyData.weight (D.py (.tup (t.map natD))) ≤ 80000 := by
    simp only [D.py, PyData.weight]
    omega
  have hsh := PyData.shown_le 20 (by decide) (D.py (.tup (t.map natD))) (by simp only [D.py, PyData.leavesShort]; exact h4)
  have hlen : (D.py (.tup (t.map natD))).shown.length ≤ 10000000 := by omega
  have hok : showOk (.tup (t.map natD)) = true := by
    have d1 : PyData.depthAll (D.pys (t.map natD)) + 1 ≤ 60 := by omega
    unfold showOk fits
    rw [decide_eq_true hlen]
    simp only [D.flat, D.py, PyData.showable, PyData.depth, h1, h2, d1, decide_true, Bool.and_true]
  have hs : PyData.strOk (D.py (.tup (t.map natD))).shown = true := by
    simp only [D.py, PyData.shown]
    exact so_tuple _ h6
  refine ⟨(D.py (.tup (t.map natD))).shown, ?_, o2_eq_refl (eqOk_str hs), o2_ne_refl (eqOk_str hs)⟩
  show (if showOk _ = true then _ else _) = _
  rw [if_pos hok]
theorem repr_bl (b : Bool) : Shows (.bl b) := by
  have hs : PyData.strOk (D.py (.bl b)).shown = true := by cases b <;> decide +kernel
  refine ⟨(D.py (.bl b)).shown, ?_, o2_eq_refl (eqOk_str hs), o2_ne_refl (eqOk_str hs)⟩
  have hok : showOk (.bl b) = true := by cases b <;> decide +kernel
  show (if showOk _ = true then _ else _) = _
  rw [if_pos hok]
end DL
end

section
set_option autoImplicit false
set_option linter.all false
/-! Who is ahead in a sorted list. -/
namespace DL
open PySem
theorem take_mem_len {α : Type} {x : α} {a b : List α} (hn : (a ++ x :: b).Nodup) (L : Nat) : x ∈ (a ++ x :: b).take L ↔ a.length < L := by
  constructor
  · intro h
    rcases Nat.lt_or_ge a.length L with h' | h'
    · exact h'
    · rw [List.take_append_of_le_length h'] at h
      have h2 := List.mem_of_mem_take h
      rw [List.nodup_append] at hn
      exact absurd rfl (hn.2.2 x h2 x List.mem_cons_self)
  · intro h
    obtain ⟨d, rfl⟩ : ∃ d, L = a.length + (d + 1) := ⟨L - a.length - 1, by omega⟩
    rw [List.take_length_add_append, List.take_succ_cons]
    exact List.mem_append_right _ List.mem_cons_self
theorem ahead {α : Type} [DecidableEq α] {le : α → α → Bool} (ht : ∀ a b c, le a b = true → le b c = true → le a c = true) (hd : ∀ a b, (le a b || le b a) = true) (ha : ∀ a b, le a b = true → le b a = true → a = b) {l : List α} (hn : l.Nodup) {x : α} (hx : x ∈ l) (L : Nat) :
    x ∈ (l.mergeSort le).take L ↔ (l.filter fun j => le j x && decide (j ≠ x)).length < L := by
  have hp := List.mergeSort_perm l le
  have hs := List.pairwise_mergeSort ht hd l
  have hm : x ∈ l.mergeSort le := hp.mem_iff.mpr hx
  have hnm : (l.mergeSort le).Nodup := hp.nodup_iff.mpr hn
  have hf : (l.filter fun j => le j x && decide (j ≠ x)).length = ((l.mergeSort le).filter fun j => le j x && decide (j ≠ x)).length := (hp.symm.filter _).length_eq
  rw [hf]
  obtain ⟨a, b, e⟩ := List.append_of_mem hm
  rw [e] at hs hnm ⊢
  rw [take_mem_len hnm L]
  rw [List.pairwise_append, List.pairwise_cons] at hs
  rw [List.nodup_append, List.nodup_cons] at hnm
  obtain ⟨s1, ⟨s2, s3⟩, s4⟩ := hs
  obtain ⟨n1, ⟨n2, n3⟩, n4⟩ := hnm
  have f1 : a.filter (fun j => le j x && decide (j ≠ x)) = a := by
    rw [List.filter_eq_self]
    intro j hj
    rw [s4 j hj x List.mem_cons_self, decide_eq_true (n4 j hj x List.mem_cons_self)]
    rfl
  have f2 : b.filter (fun j => le j x && decide (j ≠ x)) = [] := by
    rw [List.filter_eq_nil_iff]
    intro j hj hc
    rw [Bool.and_eq_true, decide_eq_true_eq] at hc
    exact hc.2 (ha j x hc.1 (s2 j hj))
  have f3 : (x :: b).filter (fun j => le j x && decide (j ≠ x)) = [] := by
    rw [List.filter_cons_of_neg (by simp), f2]
  rw [List.filter_append, f1, f3, List.append_nil]
/-- the numbers below n that come ahead of i: a greater rest, or the same and a lesser place -/
def befB (r : Nat → Nat) (j i : Nat) : Bool := decide (r i < r j ∨ (r j = r i ∧ j < i))
def cntB (n : Nat) (r : Nat → Nat) (i : Nat) : Nat := ((List.range n).filter fun j => befB r j i).length
theorem order_take (n : Nat) (r : Nat → Nat) (i L : Nat) (hi : i < n) : i ∈ (orderOf n fun j => ((r j : Nat) : Int)).take L ↔ cntB n r i < L := by
  unfold orderOf cntB
  rw [ahead (le := fun p q => decide (0 - ((r p : Nat) : Int) < 0 - ((r q : Nat) : Int) ∨ (0 - ((r p : Nat) : Int) = 0 - ((r q : Nat) : Int) ∧ (p : Int) ≤ (q : Int)))) ?_ ?_ ?_ List.nodup_range (List.mem_range.mpr hi)]
  · have e : (fun j => (decide (0 - ((r j : Nat) : Int) < 0 - ((r i : Nat) : Int) ∨ (0 - ((r j : Nat) : Int) = 0 - ((r i : Nat) : Int) ∧ (j : Int) ≤ (i : Int))) && decide (j ≠ i))) = fun j => befB r j i := by
      funext j
      unfold befB
      rw [← Bool.decide_and]
      refine decide_eq_decide.mpr ?_
      by_cases hj : j = i
      · subst hj
        omega
      · omega
    rw [e]
  · intro a b c h1 h2
    rw [decide_eq_true_eq] at *
    omega
  · intro a b
    rw [Bool.or_eq_true, decide_eq_true_eq, decide_eq_true_eq]
    omega
  · intro a b h1 h2
    rw [decide_eq_true_eq] at *
    omega
theorem order_perm (n : Nat) (r : Nat → Int) : (orderOf n r).Perm (List.range n) := List.mergeSort_perm _ _
theorem order_len (n : Nat) (r : Nat → Int) : (orderOf n r).length = n := by rw [(order_perm n r).length_eq, List.length_range]
/-- so many are ahead -/
theorem cnt_count (n : Nat) (r : Nat → Nat) (L : Nat) (h : L ≤ n) : ((List.range n).filter fun i => decide (cntB n r i < L)).length = L := by
  have e : (List.range n).filter (fun i => decide (cntB n r i < L)) = (List.range n).filter (fun i => decide (i ∈ (orderOf n fun j => ((r j : Nat) : Int)).take L)) := by
    refine List.filter_congr fun i hi => ?_
    exact decide_eq_decide.mpr (order_take n r i L (List.mem_range.mp hi)).symm
  rw [e]
  have hp := order_perm n fun j => ((r j : Nat) : Int)
  have hnd : (orderOf n fun j => ((r j : Nat) : Int)).Nodup := hp.nodup_iff.mpr List.nodup_range
  rw [(hp.symm.filter _).length_eq]
  have e2 : (orderOf n fun j => ((r j : Nat) : Int)).filter (fun i => decide (i ∈ (orderOf n fun j => ((r j : Nat) : Int)).take L)) = (orderOf n fun j => ((r j : Nat) : Int)).take L := by
    generalize (orderOf n fun j => ((r j : Nat) : Int)) = m at hnd
    have go : ∀ t d : List Nat, (t ++ d).Nodup → (t ++ d).filter (fun i => decide (i ∈ t)) = t := by
      intro t d hnd
      rw [List.nodup_append] at hnd
      rw [List.filter_append, List.filter_eq_self.mpr fun x hx => decide_eq_true hx, List.filter_eq_nil_iff.mpr, List.append_nil]
      intro x hx hc
      exact hnd.2.2 x (of_decide_eq_true hc) x hx rfl
    have := go (m.take L) (m.drop L)
    rw [List.take_append_drop] at this
    exact this hnd
  rw [e2, List.length_take, order_len]
  omega
end DL
end

section
set_option autoImplicit false
set_option linter.all false
/-! Seats by dues. -/
namespace DL
open PySem
theorem sum_add (f g : Nat → Nat) : ∀ l : List Nat, (l.map f).sum + (l.map g).sum = (l.map fun x => f x + g x).sum
  | [] => rfl
  | x :: l => by
    have := sum_add f g l
    simp only [List.map_cons, List.sum_cons]
    omega
theorem sum_mulR (f : Nat → Nat) (c : Nat) : ∀ l : List Nat, (l.map fun x => f x * c).sum = (l.map f).sum * c
  | [] => by simp
  | x :: l => by
    have := sum_mulR f c l
    simp only [List.map_cons, List.sum_cons, Nat.add_mul]
    omega
theorem sum_ind (p : Nat → Bool) : ∀ l : List Nat, (l.map fun x => if p x = true then 1 else 0).sum = (l.filter p).length
  | [] => rfl
  | x :: l => by
    have := sum_ind p l
    rw [List.map_cons, List.sum_cons, this]
    cases h : p x with
    | true => rw [List.filter_cons_of_pos h, List.length_cons, if_pos rfl, Nat.add_comm]
    | false => rw [List.filter_cons_of_neg (by rw [h]; decide), if_neg (by decide), Nat.zero_add]
theorem sum_leM (f g : Nat → Nat) : ∀ l : List Nat, (∀ x ∈ l, f x ≤ g x) → (l.map f).sum ≤ (l.map g).sum
  | [], _ => Nat.le_refl _
  | x :: l, h => by
    have h1 := h x List.mem_cons_self
    have h2 := sum_leM f g l fun y hy => h y (List.mem_cons_of_mem _ hy)
    simp only [List.map_cons, List.sum_cons]
    omega
theorem filter_mono {p q : Nat → Bool} (h : ∀ x, p x = true → q x = true) : ∀ l : List Nat, (l.filter p).length ≤ (l.filter q).length
  | [] => Nat.le_refl _
  | x :: l => by
    have ih := filter_mono h l
    cases hp : p x with
    | true =>
      rw [List.filter_cons_of_pos hp, List.filter_cons_of_pos (h x hp), List.length_cons, List.length_cons]
      omega
    | false =>
      rw [List.filter_cons_of_neg (by rw [hp]; decide)]
      cases hq : q x with
      | true =>
        rw [List.filter_cons_of_pos hq, List.length_cons]
        omega
      | false =>
        rw [List.filter_cons_of_neg (by rw [hq]; decide)]
        exact ih
def lowN (W s w : Nat) : Nat := w * s / W
def rstN (W s w : Nat) : Nat := w * s % W
def rsts (ws : List Nat) (s i : Nat) : Nat := rstN ws.sum s (ws.getD i 0)
def leftN (ws : List Nat) (s : Nat) : Nat := s - (ws.map (lowN ws.sum s)).sum
def gotB (ws : List Nat) (s i : Nat) : Bool := decide (cntB ws.length (rsts ws s) i < leftN ws s)
def dueAt (ws : List Nat) (s i : Nat) : Nat := lowN ws.sum s (ws.getD i 0) + if gotB ws s i = true then 1 else 0
def dueL (ws : List Nat) (s : Nat) : List Nat := (List.range ws.length).map (dueAt ws s)
theorem dueL_len (ws : List Nat) (s : Nat) : (dueL ws s).length = ws.length := by simp [dueL]
theorem dueL_get (ws : List Nat) (s i : Nat) (h : i < ws.length) : (dueL ws s)[i]? = some (dueAt ws s i) := by simp [dueL, h]
section
variable {ws : List Nat} {s : Nat}
theorem parts (ws : List Nat) (s : Nat) : (ws.map (lowN ws.sum s)).sum * ws.sum + (ws.map (rstN ws.sum s)).sum = s * ws.sum := by
  rw [← sum_mulR, sum_add]
  have e : (fun x => lowN ws.sum s x * ws.sum + rstN ws.sum s x) = fun x => x * s := by
    funext x
    unfold lowN rstN
    rw [Nat.mul_comm (x * s / ws.sum)]
    exact Nat.div_add_mod _ _
  rw [e, sum_mulR (fun x => x), List.map_id', Nat.mul_comm]
theorem low_le (hW : 0 < ws.sum) : (ws.map (lowN ws.sum s)).sum ≤ s := by
  have h := parts ws s
  exact Nat.le_of_mul_le_mul_right (c := ws.sum) (by omega) hW
theorem left_mul (hW : 0 < ws.sum) : leftN ws s * ws.sum = (ws.map (rstN ws.sum s)).sum := by
  have h := parts ws s
  have h2 := low_le (s := s) hW
  unfold leftN
  rw [Nat.sub_mul]
  omega
theorem rst_lt (hW : 0 < ws.sum) (i : Nat) : rsts ws s i < ws.sum := Nat.mod_lt _ hW
theorem rst_sum (ws : List Nat) (s : Nat) : ((List.range ws.length).map (rsts ws s)).sum = (ws.map (rstN ws.sum s)).sum := by
  rw [← map_getD (rstN ws.sum s) ws]
  rfl
theorem left_le (hW : 0 < ws.sum) : leftN ws s ≤ ws.length := by
  have h := left_mul (s := s) hW
  have h2 := sum_leM (rstN ws.sum s) (fun _ => ws.sum) ws fun x _ => Nat.le_of_lt (Nat.mod_lt _ hW)
  have h3 : (ws.map fun _ => ws.sum).sum = ws.length * ws.sum := by
    rw [List.map_const', List.sum_replicate_nat]
  rw [h3, ← h] at h2
  exact Nat.le_of_mul_le_mul_right h2 hW
theorem due_sum (hW : 0 < ws.sum) : (dueL ws s).sum = s := by
  unfold dueL dueAt
  rw [← sum_add, map_getD, sum_ind]
  have h := cnt_count ws.length (rsts ws s) (leftN ws s) (left_le hW)
  unfold gotB
  rw [h]
  have := low_le (s := s) hW
  unfold leftN
  omega
theorem got_mono {i j : Nat} (h : rsts ws s i < rsts ws s j) (g : gotB ws s i = true) : gotB ws s j = true := by
  unfold gotB at *
  rw [decide_eq_true_eq] at *
  refine Nat.lt_of_le_of_lt ?_ g
  unfold cntB
  refine filter_mono (fun k hk => ?_) _
  unfold befB at *
  rw [decide_eq_true_eq] at *
  omega
theorem got_pos (hW : 0 < ws.sum) {i : Nat} (hi : i < ws.length) (g : gotB ws s i = true) : 0 < rsts ws s i := by
  rcases Nat.eq_zero_or_pos (rsts ws s i) with h0 | h0
  · exfalso
    unfold gotB at g
    rw [decide_eq_true_eq] at g
    have h1 : ((List.range ws.length).filter fun j => decide (0 < rsts ws s j)).length ≤ cntB ws.length (rsts ws s) i := by
      unfold cntB
      refine filter_mono (fun k hk => ?_) _
      unfold befB
      rw [decide_eq_true_eq] at *
      omega
    have h2 := sum_leM (rsts ws s) (fun j => (if decide (0 < rsts ws s j) = true then 1 else 0) * ws.sum) (List.range ws.length) fun j _ => by
      by_cases hj : 0 < rsts ws s j
      · rw [if_pos (decide_eq_true hj), Nat.one_mul]
        exact Nat.le_of_lt (rst_lt hW j)
      · omega
    rw [sum_mulR, sum_ind, rst_sum, ← left_mul hW] at h2
    have := Nat.le_of_mul_le_mul_right h2 hW
    omega
  · exact h0
theorem max_of (f : Nat → Nat) : ∀ l : List Nat, ∃ ρ, (∀ x ∈ l, f x ≤ ρ) ∧ (ρ = 0 ∨ ∃ x ∈ l, f x = ρ)
  | [] => ⟨0, by simp, .inl rfl⟩
  | x :: l => by
    obtain ⟨ρ, h1, h2⟩ := max_of f l
    rcases Nat.lt_or_ge ρ (f x) with h | h
    · refine ⟨f x, fun y hy => ?_, .inr ⟨x, List.mem_cons_self, rfl⟩⟩
      rw [List.mem_cons] at hy
      rcases hy with rfl | hy
      · exact Nat.le_refl _
      · exact Nat.le_of_lt (Nat.lt_of_le_of_lt (h1 y hy) h)
    · refine ⟨ρ, fun y hy => ?_, ?_⟩
      · rw [List.mem_cons] at hy
        rcases hy with rfl | hy
        · exact h
        · exact h1 y hy
      · rcases h2 with h2 | ⟨y, hy, e⟩
        · exact .inl h2
        · exact .inr ⟨y, List.mem_cons_of_mem _ hy, e⟩
theorem bound (hW : 0 < ws.sum) : ∃ ρ, ρ < ws.sum ∧ ∀ i, i < ws.length → (gotB ws s i = true → ρ ≤ rsts ws s i) ∧ (gotB ws s i = false → rsts ws s i ≤ ρ) := by
  obtain ⟨ρ, h1, h2⟩ := max_of (rsts ws s) ((List.range ws.length).filter fun i => !gotB ws s i)
  refine ⟨ρ, ?_, fun i hi => ⟨fun g => ?_, fun g => h1 i ?_⟩⟩
  · rcases h2 with h2 | ⟨x, _, h2⟩
    · omega
    · rw [← h2]
      exact rst_lt hW x
  · rcases h2 with h2 | ⟨x, hx, h2⟩
    · omega
    · rw [List.mem_filter] at hx
      rcases Nat.lt_or_ge (rsts ws s i) ρ with hlt | hge
      · rw [← h2] at hlt
        have := got_mono hlt g
        rw [this] at hx
        simp at hx
      · exact hge
  · rw [List.mem_filter, g]
    exact ⟨List.mem_range.mpr hi, rfl⟩
end
/-! ### least squares -/
def sqI (W : Nat) (c : Nat) (x : Nat) : Int := ((x : Int) * (W : Int) - (c : Int)) ^ 2
theorem sq_step {W ρ q r x : Nat} {b : Bool} (hW : 0 < W) (hr : r < W) (hρ : ρ < W) (h1 : b = true → ρ ≤ r) (h2 : b = false → r ≤ ρ) :
    sqI W (q * W + r) (q + if b = true then 1 else 0) + ((W : Int) * ((W : Int) - 2 * (ρ : Int))) * ((x : Int) - ((q + if b = true then 1 else 0 : Nat) : Int)) ≤ sqI W (q * W + r) x := by
  unfold sqI
  generalize hd : (x : Int) - ((q + if b = true then 1 else 0 : Nat) : Int) = d
  have ex : (x : Int) = ((q + if b = true then 1 else 0 : Nat) : Int) + d := by omega
  rw [ex]
  cases b with
  | true =>
    have h1 := h1 rfl
    rw [if_pos rfl]
    have e1 : ((q + 1 : Nat) : Int) * (W : Int) - ((q * W + r : Nat) : Int) = (W : Int) - (r : Int) := by
      rw [Int.natCast_add, Int.natCast_add, Int.natCast_mul, Int.add_mul]
      show (q : Int) * (W : Int) + 1 * (W : Int) - ((q : Int) * (W : Int) + (r : Int)) = _
      omega
    have e2 : (((q + 1 : Nat) : Int) + d) * (W : Int) - ((q * W + r : Nat) : Int) = ((W : Int) - (r : Int)) + d * (W : Int) := by
      rw [Int.add_mul]
      omega
    rw [e1, e2]
    have key : 0 ≤ (W : Int) * (d * ((d + 1) * (W : Int) - 2 * (r : Int) + 2 * (ρ : Int))) := by
      refine Int.mul_nonneg (by omega) ?_
      rcases Int.lt_or_le d 0 with hneg | hpos
      · have a1 : d + 1 ≤ 0 := by omega
        have a2 : (d + 1) * (W : Int) ≤ 0 := Int.mul_nonpos_of_nonpos_of_nonneg a1 (by omega)
        exact Int.mul_nonneg_of_nonpos_of_nonpos (by omega) (by omega)
      · rcases Int.lt_or_le 0 d with h0 | h0
        · have a1 : 2 ≤ d + 1 := by omega
          have a2 : 2 * (W : Int) ≤ (d + 1) * (W : Int) := Int.mul_le_mul_of_nonneg_right a1 (by omega)
          exact Int.mul_nonneg (by omega) (by omega)
        · have : d = 0 := by omega
          rw [this, Int.zero_mul]
          exact Int.le_refl _
    have id : ((W : Int) - (r : Int) + d * (W : Int)) ^ 2 = ((W : Int) - (r : Int)) ^ 2 + (W : Int) * ((W : Int) - 2 * (ρ : Int)) * d + (W : Int) * (d * ((d + 1) * (W : Int) - 2 * (r : Int) + 2 * (ρ : Int))) := by
      grind
    rw [id]
    omega
  | false =>
    have h2 := h2 rfl
    rw [if_neg (by decide)]
    have e1 : ((q + 0 : Nat) : Int) * (W : Int) - ((q * W + r : Nat) : Int) = - (r : Int) := by
      rw [Nat.add_zero, Int.natCast_add, Int.natCast_mul]
      omega
    have e2 : (((q + 0 : Nat) : Int) + d) * (W : Int) - ((q * W + r : Nat) : Int) = - (r : Int) + d * (W : Int) := by
      rw [Int.add_mul]
      omega
    rw [e1, e2]
    have key : 0 ≤ (W : Int) * (d * ((d - 1) * (W : Int) - 2 * (r : Int) + 2 * (ρ : Int))) := by
      refine Int.mul_nonneg (by omega) ?_
      rcases Int.lt_or_le d 0 with hneg | hpos
      · have a1 : d - 1 ≤ -2 := by omega
        have a2 : (d - 1) * (W : Int) ≤ -2 * (W : Int) := Int.mul_le_mul_of_nonneg_right a1 (by omega)
        exact Int.mul_nonneg_of_nonpos_of_nonpos (by omega) (by omega)
      · rcases Int.lt_or_le 0 d with h0 | h0
        · have a1 : 0 ≤ d - 1 := by omega
          have a2 : 0 ≤ (d - 1) * (W : Int) := Int.mul_nonneg a1 (by omega)
          exact Int.mul_nonneg (by omega) (by omega)
        · have : d = 0 := by omega
          rw [this, Int.zero_mul]
          exact Int.le_refl _
    have id : (- (r : Int) + d * (W : Int)) ^ 2 = (- (r : Int)) ^ 2 + (W : Int) * ((W : Int) - 2 * (ρ : Int)) * d + (W : Int) * (d * ((d - 1) * (W : Int) - 2 * (r : Int) + 2 * (ρ : Int))) := by
      grind
    rw [id]
    omega
theorem sum_step (F : Nat → Nat → Int) (a b : Nat → Nat) (L : Int) : ∀ l : List Nat, (∀ i ∈ l, F i (a i) + L * ((b i : Int) - (a i : Int)) ≤ F i (b i)) →
    (l.map fun i => F i (a i)).sum + L * ((((l.map b).sum : Nat) : Int) - (((l.map a).sum : Nat) : Int)) ≤ (l.map fun i => F i (b i)).sum
  | [], _ => by simp
  | i :: l, h => by
    have h1 := h i List.mem_cons_self
    have h2 := sum_step F a b L l fun j hj => h j (List.mem_cons_of_mem _ hj)
    simp only [List.map_cons, List.sum_cons]
    have e : L * (((b i + (l.map b).sum : Nat) : Int) - ((a i + (l.map a).sum : Nat) : Int)) = L * ((b i : Int) - (a i : Int)) + L * ((((l.map b).sum : Nat) : Int) - (((l.map a).sum : Nat) : Int)) := by
      rw [← Int.mul_add]
      congr 1
      omega
    rw [e]
    omega
/-- the sum of squares -/
def sqs (ws : List Nat) (s : Nat) (row : List Nat) : Int := ((List.range ws.length).map fun i => sqI ws.sum (ws.getD i 0 * s) (row.getD i 0)).sum
theorem due_getD (ws : List Nat) (s i : Nat) (h : i < ws.length) : (dueL ws s).getD i 0 = dueAt ws s i := by
  rw [List.getD_eq_getElem?_getD, dueL_get ws s i h]
  rfl
theorem due_least {ws : List Nat} {s : Nat} (hW : 0 < ws.sum) {row : List Nat} (hl : row.length = ws.length) (hs : row.sum = s) : sqs ws s (dueL ws s) ≤ sqs ws s row := by
  obtain ⟨ρ, hρ, hb⟩ := bound (ws := ws) (s := s) hW
  have h := sum_step (fun i x => sqI ws.sum (ws.getD i 0 * s) x) (fun i => (dueL ws s).getD i 0) (fun i => row.getD i 0) ((ws.sum : Int) * ((ws.sum : Int) - 2 * (ρ : Int))) (List.range ws.length) (fun i hi => by
    rw [List.mem_range] at hi
    obtain ⟨b1, b2⟩ := hb i hi
    have e : ws.getD i 0 * s = lowN ws.sum s (ws.getD i 0) * ws.sum + rsts ws s i := by
      unfold lowN rsts rstN
      rw [Nat.mul_comm (ws.getD i 0 * s / ws.sum)]
      exact (Nat.div_add_mod _ _).symm
    show sqI ws.sum (ws.getD i 0 * s) ((dueL ws s).getD i 0) + _ ≤ sqI ws.sum (ws.getD i 0 * s) (row.getD i 0)
    rw [due_getD ws s i hi, e]
    exact sq_step hW (rst_lt hW i) hρ b1 b2)
  have e1 : ((List.range ws.length).map fun i => row.getD i 0).sum = s := by
    rw [← hl, map_getD (fun x => x), List.map_id', hs]
  have e2 : ((List.range ws.length).map fun i => (dueL ws s).getD i 0).sum = s := by
    rw [← dueL_len ws s, map_getD (fun x => x), List.map_id', due_sum hW]
  rw [e1, e2, Int.sub_self, Int.mul_zero, Int.add_zero] at h
  exact h
/-! ### within -/
theorem within_iff {W : Nat} (hW : 0 < W) (c : Nat) (x : Int) : (if x * (W : Int) - (c : Int) < 0 then -(x * (W : Int) - (c : Int)) else x * (W : Int) - (c : Int)) < (W : Int) ↔ ((c / W : Nat) : Int) ≤ x ∧ x ≤ ((c / W : Nat) : Int) + (if 0 < c % W then 1 else 0) := by
  have hc := Nat.div_add_mod c W
  generalize c / W = q at *
  have hr := Nat.mod_lt c hW
  generalize c % W = r at *
  have ec : (c : Int) = (q : Int) * (W : Int) + (r : Int) := by
    rw [← hc, Int.natCast_add, Int.natCast_mul, Int.mul_comm]
  obtain ⟨d, rfl⟩ : ∃ d : Int, x = (q : Int) + d := ⟨x - q, by omega⟩
  have e : ((q : Int) + d) * (W : Int) - (c : Int) = d * (W : Int) - (r : Int) := by
    rw [ec, Int.add_mul]
    omega
  rw [e]
  have hd : d ≤ -1 ∨ d = 0 ∨ d = 1 ∨ 2 ≤ d := by omega
  rcases hd with h | h | h | h
  · have a := Int.mul_le_mul_of_nonneg_right h (by omega : (0 : Int) ≤ (W : Int))
    split <;> split <;> omega
  · subst h
    rw [Int.zero_mul]
    split <;> split <;> omega
  · subst h
    rw [Int.one_mul]
    split <;> split <;> omega
  · have a := Int.mul_le_mul_of_nonneg_right h (by omega : (0 : Int) ≤ (W : Int))
    split <;> split <;> omega
theorem due_within {ws : List Nat} {s : Nat} (hW : 0 < ws.sum) {i : Nat} (hi : i < ws.length) : lowN ws.sum s (ws.getD i 0) ≤ dueAt ws s i ∧ dueAt ws s i ≤ lowN ws.sum s (ws.getD i 0) + if 0 < rsts ws s i then 1 else 0 := by
  unfold dueAt
  cases g : gotB ws s i with
  | true =>
    have := got_pos hW hi g
    rw [if_pos this]
    simp
  | false => simp
/-! ### sevenfold -/
theorem due_scale (c : Nat) (hc : 0 < c) (ws : List Nat) (s : Nat) : dueL (ws.map (c * ·)) s = dueL ws s := by
  have es : (ws.map (c * ·)).sum = c * ws.sum := by
    have := sum_mulR (fun x => x) c ws
    rw [List.map_id'] at this
    rw [Nat.mul_comm c, ← this]
    congr 2
    funext x
    exact Nat.mul_comm _ _
  have eg : ∀ i, (ws.map (c * ·)).getD i 0 = c * ws.getD i 0 := fun i => by
    rw [List.getD_eq_getElem?_getD, List.getD_eq_getElem?_getD, List.getElem?_map]
    cases ws[i]? <;> simp
  have el : ∀ w, lowN (c * ws.sum) s (c * w) = lowN ws.sum s w := fun w => by
    unfold lowN
    rw [Nat.mul_assoc]
    exact Nat.mul_div_mul_left _ _ hc
  have er : ∀ i, rsts (ws.map (c * ·)) s i = c * rsts ws s i := fun i => by
    unfold rsts rstN
    rw [es, eg, Nat.mul_assoc]
    exact Nat.mul_mod_mul_left _ _ _
  have ef : leftN (ws.map (c * ·)) s = leftN ws s := by
    unfold leftN
    rw [es, List.map_map]
    congr 2
    refine List.map_congr_left fun w _ => ?_
    exact el w
  have ec : ∀ i, cntB (ws.map (c * ·)).length (rsts (ws.map (c * ·)) s) i = cntB ws.length (rsts ws s) i := fun i => by
    unfold cntB
    rw [List.length_map]
    congr 2
    funext j
    unfold befB
    rw [er, er]
    refine decide_eq_decide.mpr ?_
    rw [Nat.mul_lt_mul_left hc]
    constructor
    · rintro (h | ⟨h, h2⟩)
      · exact .inl h
      · exact .inr ⟨Nat.eq_of_mul_eq_mul_left hc h, h2⟩
    · rintro (h | ⟨h, h2⟩)
      · exact .inl h
      · exact .inr ⟨by rw [h], h2⟩
  unfold dueL
  rw [List.length_map]
  refine List.map_congr_left fun i _ => ?_
  unfold dueAt gotB
  rw [es, eg, el, ec, ef]
/-! ### in another sequence -/
theorem due_perm (ws : List Nat) (s : Nat) (ps : List Nat) (hp : ps.Perm (List.range ws.length)) (hd : (ws.map (rstN ws.sum s)).Nodup) : dueL (ps.map fun i => ws.getD i 0) s = ps.map fun i => (dueL ws s).getD i 0 := by
  have hl : ps.length = ws.length := by rw [hp.length_eq, List.length_range]
  have pw : (ps.map fun i => ws.getD i 0).Perm ws := by
    have := hp.map fun i => ws.getD i 0
    rw [map_getD (fun x => x), List.map_id'] at this
    exact this
  have es : (ps.map fun i => ws.getD i 0).sum = ws.sum := pw.sum_nat
  have ef : leftN (ps.map fun i => ws.getD i 0) s = leftN ws s := by
    unfold leftN
    rw [es]
    congr 1
    exact (pw.map _).sum_nat
  have eg : ∀ i (h : i < ps.length), (ps.map fun i => ws.getD i 0).getD i 0 = ws.getD ps[i] 0 := fun i h => by
    rw [List.getD_eq_getElem?_getD, List.getElem?_map, List.getElem?_eq_getElem h]
    rfl
  have er : ∀ i (h : i < ps.length), rsts (ps.map fun i => ws.getD i 0) s i = rsts ws s ps[i] := fun i h => by
    unfold rsts
    rw [es, eg i h]
  have hlt : ∀ i (h : i < ps.length), ps[i] < ws.length := fun i h => List.mem_range.mp (hp.mem_iff.mp (List.getElem_mem h))
  have inj : ∀ i j, i < ws.length → j < ws.length → rsts ws s i = rsts ws s j → i = j := fun i j hi hj e => by
    unfold rsts at e
    rw [List.nodup_iff_pairwise_ne, List.pairwise_iff_getElem] at hd
    have gi : ws.getD i 0 = ws[i] := by rw [List.getD_eq_getElem?_getD, List.getElem?_eq_getElem hi]; rfl
    have gj : ws.getD j 0 = ws[j] := by rw [List.getD_eq_getElem?_getD, List.getElem?_eq_getElem hj]; rfl
    rw [gi, gj] at e
    rcases Nat.lt_trichotomy i j with h | h | h
    · exact absurd (by rw [List.getElem_map, List.getElem_map]; exact e) (hd i j (by simpa using hi) (by simpa using hj) h)
    · exact h
    · exact absurd (by rw [List.getElem_map, List.getElem_map]; exact e.symm) (hd j i (by simpa using hj) (by simpa using hi) h)
  have hnd : ps.Nodup := hp.nodup_iff.mpr List.nodup_range
  have ec : ∀ i (h : i < ps.length), cntB (ps.map fun i => ws.getD i 0).length (rsts (ps.map fun i => ws.getD i 0) s) i = cntB ws.length (rsts ws s) ps[i] := fun i h => by
    unfold cntB
    rw [List.length_map]
    have a1 : ((List.range ps.length).filter fun j => befB (rsts (ps.map fun i => ws.getD i 0) s) j i).length = ((List.range ps.length).filter fun j => decide (rsts ws s ps[i] < rsts ws s (ps.getD j 0))).length := by
      congr 1
      refine List.filter_congr fun j hj => ?_
      rw [List.mem_range] at hj
      unfold befB
      have gj : ps.getD j 0 = ps[j] := by rw [List.getD_eq_getElem?_getD, List.getElem?_eq_getElem hj]; rfl
      rw [er i h, er j hj, gj]
      refine decide_eq_decide.mpr ⟨?_, .inl⟩
      rintro (h1 | ⟨h1, h2⟩)
      · exact h1
      · have := inj _ _ (hlt j hj) (hlt i h) h1
        have := (List.getElem_inj hnd).mp this
        omega
    have a2 : ((List.range ws.length).filter fun j => befB (rsts ws s) j ps[i]).length = ((List.range ws.length).filter fun j => decide (rsts ws s ps[i] < rsts ws s j)).length := by
      congr 1
      refine List.filter_congr fun j hj => ?_
      rw [List.mem_range] at hj
      unfold befB
      refine decide_eq_decide.mpr ⟨?_, .inl⟩
      rintro (h1 | ⟨h1, h2⟩)
      · exact h1
      · have := inj _ _ hj (hlt i h) h1
        omega
    rw [a1, a2]
    have a3 : ∀ p : Nat → Bool, ((List.range ps.length).filter fun j => p (ps.getD j 0)).length = (ps.filter p).length := fun p => by
      have e := map_getD (fun x => x) ps
      rw [List.map_id'] at e
      conv => rhs; rw [← e, List.filter_map, List.length_map]
      rfl
    rw [a3 fun x => decide (rsts ws s ps[i] < rsts ws s x)]
    exact (hp.filter _).length_eq
  apply List.ext_getElem
  · rw [dueL_len, List.length_map, List.length_map]
  · intro i h1 h2
    rw [List.length_map] at h2
    have g1 : (dueL (ps.map fun i => ws.getD i 0) s)[i] = dueAt (ps.map fun i => ws.getD i 0) s i := by simp [dueL]
    rw [g1, List.getElem_map, due_getD ws s _ (hlt i h2)]
    unfold dueAt gotB
    rw [es, eg i h2, ec i h2, ef]
end DL
end

section
set_option autoImplicit false
set_option linter.all false
/-! Seats by steps. -/
namespace DL
open PySem
/-- no one could give a seat to another -/
def Right (n : Nat) (v : Nat → Nat) (d : Nat → Nat) (x : Nat → Nat) : Prop := ∀ i j, i < n → j < n → i ≠ j → 0 < x j → v i * d (x j - 1) ≤ v j * d (x i)
def bestTo (v d x : Nat → Nat) : Nat → Nat
  | 0 => 0
  | m + 1 => if v (bestTo v d x m) * d (x (m + 1)) < v (m + 1) * d (x (bestTo v d x m)) then m + 1 else bestTo v d x m
theorem best_le (v d x : Nat → Nat) : ∀ m, bestTo v d x m ≤ m
  | 0 => Nat.le_refl _
  | m + 1 => by
    have := best_le v d x m
    unfold bestTo
    split <;> omega
theorem best_ok (v d x : Nat → Nat) : ∀ m, (∀ i, i ≤ m → 0 < v i) → ∀ a, a ≤ m → v a * d (x (bestTo v d x m)) ≤ v (bestTo v d x m) * d (x a)
  | 0, _, a, ha => by
    have : a = 0 := by omega
    subst this
    exact Nat.le_refl _
  | m + 1, hv, a, ha => by
    have ih := best_ok v d x m fun i hi => hv i (by omega)
    have hb := best_le v d x m
    unfold bestTo
    split
    · rename_i hlt
      by_cases h : a = m + 1
      · subst h
        exact Nat.le_refl _
      · have h1 := ih a (by omega)
        have hvb := hv (bestTo v d x m) (by omega)
        refine Nat.le_of_mul_le_mul_left (c := v (bestTo v d x m)) ?_ hvb
        generalize bestTo v d x m = b at *
        calc v b * (v a * d (x (m + 1))) = v a * (v b * d (x (m + 1))) := by rw [Nat.mul_left_comm]
          _ ≤ v a * (v (m + 1) * d (x b)) := Nat.mul_le_mul_left _ (Nat.le_of_lt hlt)
          _ = v (m + 1) * (v a * d (x b)) := by rw [Nat.mul_left_comm]
          _ ≤ v (m + 1) * (v b * d (x a)) := Nat.mul_le_mul_left _ h1
          _ = v b * (v (m + 1) * d (x a)) := by rw [Nat.mul_left_comm]
    · rename_i hge
      by_cases h : a = m + 1
      · subst h
        exact Nat.le_of_not_lt hge
      · exact ih a (by omega)
def upd1 (x : Nat → Nat) (b : Nat) (i : Nat) : Nat := if i = b then x b + 1 else x i
theorem right_up {n : Nat} {v d x : Nat → Nat} (hm : ∀ a, d a ≤ d (a + 1)) {b : Nat} (hb : b < n) (h : Right n v d x) (hbest : ∀ a, a < n → v a * d (x b) ≤ v b * d (x a)) : Right n v d (upd1 x b) := by
  intro i j hi hj hne hx
  unfold upd1 at *
  by_cases h1 : j = b
  · subst h1
    rw [if_pos rfl] at hx
    rw [if_pos rfl, if_neg hne]
    show v i * d (x j) ≤ _
    exact hbest i hi
  · rw [if_neg h1] at hx ⊢
    by_cases h2 : i = b
    · subst h2
      rw [if_pos rfl]
      exact Nat.le_trans (h i j hi hj hne hx) (Nat.mul_le_mul_left _ (hm _))
    · rw [if_neg h2]
      exact h i j hi hj hne hx
/-- a seat from j to i, where that is a tie -/
theorem right_swap {n : Nat} {v d y : Nat → Nat} (hm : ∀ a b, a ≤ b → d a ≤ d b) (hv : ∀ i, i < n → 0 < v i) {i j : Nat} (hi : i < n) (hj : j < n) (hij : i ≠ j) (h : Right n v d y) (hy : 0 < y j) (tie : v i * d (y j - 1) = v j * d (y i)) :
    Right n v d (fun k => if k = i then y i + 1 else if k = j then y j - 1 else y k) := by
  intro a b ha hb hab hpos
  simp only at hpos ⊢
  have vi := hv i hi
  have vj := hv j hj
  by_cases hbi : b = i
  · subst hbi
    rw [if_pos rfl] at hpos ⊢
    show v a * d (y b + 1 - 1) ≤ _
    rw [Nat.add_sub_cancel, if_neg hab]
    by_cases haj : a = j
    · subst haj
      rw [if_pos rfl, tie]
      exact Nat.le_refl _
    · rw [if_neg haj]
      refine Nat.le_of_mul_le_mul_left (c := v j) ?_ vj
      have h1 := h a j ha hj haj hy
      calc v j * (v a * d (y b)) = v a * (v j * d (y b)) := by rw [Nat.mul_left_comm]
        _ = v a * (v b * d (y j - 1)) := by rw [tie]
        _ = v b * (v a * d (y j - 1)) := by rw [Nat.mul_left_comm]
        _ ≤ v b * (v j * d (y a)) := Nat.mul_le_mul_left _ h1
        _ = v j * (v b * d (y a)) := by rw [Nat.mul_left_comm]
  · rw [if_neg hbi] at hpos ⊢
    by_cases hbj : b = j
    · subst hbj
      rw [if_pos rfl] at hpos ⊢
      by_cases hai : a = i
      · subst hai
        rw [if_pos rfl]
        calc v a * d (y b - 1 - 1) ≤ v a * d (y b - 1) := Nat.mul_le_mul_left _ (hm _ _ (by omega))
          _ = v b * d (y a) := tie
          _ ≤ v b * d (y a + 1) := Nat.mul_le_mul_left _ (hm _ _ (by omega))
      · rw [if_neg hai, if_neg hab]
        exact Nat.le_trans (Nat.mul_le_mul_left _ (hm _ _ (by omega))) (h a b ha hb hab hy)
    · rw [if_neg hbj] at hpos ⊢
      by_cases hai : a = i
      · subst hai
        rw [if_pos rfl]
        exact Nat.le_trans (h a b ha hb hab hpos) (Nat.mul_le_mul_left _ (hm _ _ (by omega)))
      · rw [if_neg hai]
        by_cases haj : a = j
        · subst haj
          rw [if_pos rfl]
          refine Nat.le_of_mul_le_mul_left (c := v i) ?_ vi
          have h1 := h i b hi hb (fun z => hbi z.symm) hpos
          calc v i * (v a * d (y b - 1)) = v a * (v i * d (y b - 1)) := by rw [Nat.mul_left_comm]
            _ ≤ v a * (v b * d (y i)) := Nat.mul_le_mul_left _ h1
            _ = v b * (v a * d (y i)) := by rw [Nat.mul_left_comm]
            _ = v b * (v i * d (y a - 1)) := by rw [tie]
            _ = v i * (v b * d (y a - 1)) := by rw [Nat.mul_left_comm]
        · rw [if_neg haj]
          exact h a b ha hb hab hpos
/-! sums over places -/
def sumR (n : Nat) (x : Nat → Nat) : Nat := ((List.range n).map x).sum
theorem sumR_succ (n : Nat) (x : Nat → Nat) : sumR (n + 1) x = sumR n x + x n := by
  unfold sumR
  rw [List.range_succ, List.map_append, List.sum_append_nat]
  simp
theorem sumR_lt : ∀ {n : Nat} {x y : Nat → Nat}, sumR n x < sumR n y → ∃ j, j < n ∧ x j < y j
  | 0, x, y, h => by
    unfold sumR at h
    simp at h
  | n + 1, x, y, h => by
    rw [sumR_succ, sumR_succ] at h
    by_cases hn : x n < y n
    · exact ⟨n, by omega, hn⟩
    · obtain ⟨j, hj, h2⟩ := sumR_lt (n := n) (x := x) (y := y) (by omega)
      exact ⟨j, by omega, h2⟩
theorem sumR_mul (c : Nat) (x : Nat → Nat) : ∀ n, sumR n (fun i => x i * c) = sumR n x * c
  | 0 => by simp [sumR]
  | n + 1 => by rw [sumR_succ, sumR_succ, sumR_mul c x n, Nat.add_mul]
theorem sumR_le {x y : Nat → Nat} : ∀ {n : Nat}, (∀ i, i < n → x i ≤ y i) → sumR n x ≤ sumR n y
  | 0, _ => by simp [sumR]
  | n + 1, h => by
    rw [sumR_succ, sumR_succ]
    have h1 := h n (by omega)
    have h2 := sumR_le (x := x) (y := y) (n := n) fun i hi => h i (by omega)
    omega
theorem sumR_congr {x y : Nat → Nat} {n : Nat} (h : ∀ i, i < n → x i = y i) : sumR n x = sumR n y := Nat.le_antisymm (sumR_le fun i hi => Nat.le_of_eq (h i hi)) (sumR_le fun i hi => Nat.le_of_eq (h i hi).symm)
theorem sumR_upd (x : Nat → Nat) (b : Nat) : ∀ n, b < n → sumR n (upd1 x b) = sumR n x + 1
  | 0, h => absurd h (by omega)
  | n + 1, h => by
    rw [sumR_succ, sumR_succ]
    by_cases hb : b = n
    · subst hb
      have : sumR b (upd1 x b) = sumR b x := sumR_congr fun i hi => by
        unfold upd1
        rw [if_neg (by omega)]
      rw [this]
      unfold upd1
      rw [if_pos rfl]
      omega
    · have ih := sumR_upd x b n (by omega)
      have e : upd1 x b n = x n := by
        unfold upd1
        rw [if_neg (fun z => hb z.symm)]
      rw [ih, e]
      omega
/-- someone has more than is due, if someone has less -/
theorem other_more {n : Nat} {c x : Nat → Nat} {W : Nat} (hs : sumR n (fun i => x i * W) = sumR n c) {i : Nat} (hi : i < n) (hlt : x i * W < c i) : ∃ j, j < n ∧ j ≠ i ∧ c j < x j * W := by
  rcases Classical.em (∃ j, j < n ∧ j ≠ i ∧ c j < x j * W) with h | h
  · exact h
  · exfalso
    have hle : ∀ j, j < n → x j * W ≤ c j := fun j hj => by
      by_cases e : j = i
      · rw [e]
        exact Nat.le_of_lt hlt
      · exact Nat.le_of_not_lt fun z => h ⟨j, hj, e, z⟩
    have : sumR n (upd1 (fun j => x j * W) i) ≤ sumR n c := sumR_le fun j hj => by
      unfold upd1
      split
      · rename_i e
        rw [e]
        exact hlt
      · exact hle j hj
    rw [sumR_upd _ _ _ hi] at this
    omega
theorem other_less {n : Nat} {c x : Nat → Nat} {W : Nat} (hs : sumR n (fun i => x i * W) = sumR n c) {i : Nat} (hi : i < n) (hlt : c i < x i * W) : ∃ j, j < n ∧ j ≠ i ∧ x j * W < c j := by
  rcases Classical.em (∃ j, j < n ∧ j ≠ i ∧ x j * W < c j) with h | h
  · exact h
  · exfalso
    have hle : ∀ j, j < n → c j ≤ x j * W := fun j hj => by
      by_cases e : j = i
      · rw [e]
        exact Nat.le_of_lt hlt
      · exact Nat.le_of_not_lt fun z => h ⟨j, hj, e, z⟩
    have : sumR n (upd1 c i) ≤ sumR n (fun i => x i * W) := sumR_le fun j hj => by
      unfold upd1
      split
      · rename_i e
        rw [e]
        exact hlt
      · exact hle j hj
    rw [sumR_upd _ _ _ hi] at this
    omega
section
variable {n s W : Nat} {v x : Nat → Nat}
/-- the steps down leave no one below what is due -/
theorem down_bound (hW : W = sumR n v) (hs : sumR n x = s) (hv : ∀ i, i < n → 0 < v i) (h : Right n v (fun a => a + 1) x) {i : Nat} (hi : i < n) : v i * s / W ≤ x i := by
  rcases Nat.lt_or_ge (x i) (v i * s / W) with hlt | hge
  · exfalso
    have h1 : (x i + 1) * W ≤ v i * s := by
      have := Nat.div_mul_le_self (v i * s) W
      exact Nat.le_trans (Nat.mul_le_mul_right W hlt) this
    have hW0 : 0 < W := by
      rcases Nat.eq_zero_or_pos W with h0 | h0
      · rw [h0, Nat.div_zero] at hlt
        omega
      · exact h0
    have hsum : sumR n (fun i => x i * W) = sumR n (fun i => v i * s) := by
      rw [sumR_mul, sumR_mul, hs, ← hW, Nat.mul_comm]
    obtain ⟨j, hj, hji, hc⟩ := other_more hsum hi (Nat.lt_of_lt_of_le (Nat.mul_lt_mul_of_pos_right (Nat.lt_succ_self _) hW0) h1)
    have hxj : 0 < x j := by
      rcases Nat.eq_zero_or_pos (x j) with h0 | h0
      · rw [h0, Nat.zero_mul] at hc
        omega
      · exact h0
    have h2 := h i j hi hj (fun z => hji z.symm) hxj
    simp only [Nat.sub_add_cancel hxj] at h2
    have a1 : v i * (v j * s) < v i * (x j * W) := Nat.mul_lt_mul_of_pos_left hc (hv i hi)
    have a2 : v j * ((x i + 1) * W) ≤ v j * (v i * s) := Nat.mul_le_mul_left _ h1
    have a3 : v i * x j * W ≤ v j * (x i + 1) * W := Nat.mul_le_mul_right W h2
    rw [Nat.mul_assoc, Nat.mul_assoc] at a3
    have a4 : v j * (v i * s) = v i * (v j * s) := Nat.mul_left_comm _ _ _
    omega
  · exact hge
theorem up_bound (hW : W = sumR n v) (hs : sumR n x = s) (hv : ∀ i, i < n → 0 < v i) (h : Right n v (fun a => a) x) {i : Nat} (hi : i < n) (hx : 0 < x i) : (x i - 1) * W < v i * s := by
  rcases Nat.lt_or_ge ((x i - 1) * W) (v i * s) with hlt | hge
  · exact hlt
  · exfalso
    have hW0 : 0 < W := by
      rw [hW]
      have h1 := sumR_le (x := upd1 (fun _ => 0) i) (y := v) (n := n) fun j hj => by
        unfold upd1
        split
        · rename_i e
          rw [e]
          exact hv i hi
        · exact Nat.zero_le _
      rw [sumR_upd _ _ _ hi] at h1
      omega
    have hsum : sumR n (fun i => x i * W) = sumR n (fun i => v i * s) := by
      rw [sumR_mul, sumR_mul, hs, ← hW, Nat.mul_comm]
    obtain ⟨j, hj, hji, hc⟩ := other_less hsum hi (Nat.lt_of_le_of_lt hge (Nat.mul_lt_mul_of_pos_right (by omega) hW0))
    have h2 := h j i hj hi hji hx
    simp only at h2
    have a1 : v i * (x j * W) < v i * (v j * s) := Nat.mul_lt_mul_of_pos_left hc (hv i hi)
    have a2 : v j * (v i * s) ≤ v j * ((x i - 1) * W) := Nat.mul_le_mul_left _ hge
    have a3 : v j * (x i - 1) * W ≤ v i * x j * W := Nat.mul_le_mul_right W h2
    rw [Nat.mul_assoc, Nat.mul_assoc] at a3
    have a4 : v j * (v i * s) = v i * (v j * s) := Nat.mul_left_comm _ _ _
    omega
end
end DL
end

section
set_option autoImplicit false
set_option linter.all false
/-! Seats by steps: two voices, two that join. -/
namespace DL
open PySem
def dDown (a : Nat) : Nat := a + 1
def dHalf (a : Nat) : Nat := 2 * a + 1
def dUp (a : Nat) : Nat := a
theorem half_two {v x : Nat → Nat} (h0 : 0 < v 0) (h1 : 0 < v 1) (h : Right 2 v dHalf x) : v 0 * (x 0 + x 1) < (x 0 + 1) * (v 0 + v 1) ∧ x 0 * (v 0 + v 1) < v 0 * (x 0 + x 1) + (v 0 + v 1) ∧ v 1 * (x 0 + x 1) < (x 1 + 1) * (v 0 + v 1) ∧ x 1 * (v 0 + v 1) < v 1 * (x 0 + x 1) + (v 0 + v 1) := by
  have r1 := h 1 0 (by decide) (by decide) (by decide)
  have r0 := h 0 1 (by decide) (by decide) (by decide)
  unfold dHalf at r1 r0
  generalize x 0 = p at *
  generalize x 1 = q at *
  generalize v 0 = a at *
  generalize v 1 = b at *
  have k1 : b * p ≤ a * q + b + a ∨ p = 0 := by
    rcases Nat.eq_zero_or_pos p with z | z
    · exact .inr z
    · left
      have := r1 z
      obtain ⟨p', rfl⟩ : ∃ p', p = p' + 1 := ⟨p - 1, by omega⟩
      rw [Nat.add_sub_cancel] at this
      have e1 : b * (2 * p' + 1) = 2 * (b * p') + b := by rw [Nat.mul_add, Nat.mul_left_comm, Nat.mul_one]
      have e2 : a * (2 * q + 1) = 2 * (a * q) + a := by rw [Nat.mul_add, Nat.mul_left_comm, Nat.mul_one]
      have e3 : b * (p' + 1) = b * p' + b := by rw [Nat.mul_add, Nat.mul_one]
      omega
  have k1' : p = 0 ∨ b * p < a * q + b + a := by
    rcases Nat.eq_zero_or_pos p with z | z
    · exact .inl z
    · right
      have := r1 z
      obtain ⟨p', rfl⟩ : ∃ p', p = p' + 1 := ⟨p - 1, by omega⟩
      rw [Nat.add_sub_cancel] at this
      have e1 : b * (2 * p' + 1) = 2 * (b * p') + b := by rw [Nat.mul_add, Nat.mul_left_comm, Nat.mul_one]
      have e2 : a * (2 * q + 1) = 2 * (a * q) + a := by rw [Nat.mul_add, Nat.mul_left_comm, Nat.mul_one]
      have e3 : b * (p' + 1) = b * p' + b := by rw [Nat.mul_add, Nat.mul_one]
      omega
  have k0' : q = 0 ∨ a * q < b * p + b + a := by
    rcases Nat.eq_zero_or_pos q with z | z
    · exact .inl z
    · right
      have := r0 z
      obtain ⟨q', rfl⟩ : ∃ q', q = q' + 1 := ⟨q - 1, by omega⟩
      rw [Nat.add_sub_cancel] at this
      have e1 : a * (2 * q' + 1) = 2 * (a * q') + a := by rw [Nat.mul_add, Nat.mul_left_comm, Nat.mul_one]
      have e2 : b * (2 * p + 1) = 2 * (b * p) + b := by rw [Nat.mul_add, Nat.mul_left_comm, Nat.mul_one]
      have e3 : a * (q' + 1) = a * q' + a := by rw [Nat.mul_add, Nat.mul_one]
      omega
  have z1 : b * p < a * q + b + a := by
    rcases k1' with z | z
    · rw [z, Nat.mul_zero]
      omega
    · exact z
  have z0 : a * q < b * p + b + a := by
    rcases k0' with z | z
    · rw [z, Nat.mul_zero]
      omega
    · exact z
  have f1 : a * (p + q) = a * p + a * q := Nat.mul_add _ _ _
  have f2 : b * (p + q) = b * p + b * q := Nat.mul_add _ _ _
  have f3 : (p + 1) * (a + b) = a * p + b * p + a + b := by rw [Nat.add_mul, Nat.mul_add, Nat.mul_comm p a, Nat.mul_comm p b]; omega
  have f4 : p * (a + b) = a * p + b * p := by rw [Nat.mul_add, Nat.mul_comm p a, Nat.mul_comm p b]
  have f5 : (q + 1) * (a + b) = a * q + b * q + a + b := by rw [Nat.add_mul, Nat.mul_add, Nat.mul_comm q a, Nat.mul_comm q b]; omega
  have f6 : q * (a + b) = a * q + b * q := by rw [Nat.mul_add, Nat.mul_comm q a, Nat.mul_comm q b]
  rw [f1, f2, f3, f4, f5, f6]
  omega
theorem sumR_head (x : Nat → Nat) : ∀ n, sumR (n + 1) x = x 0 + sumR n fun i => x (i + 1)
  | 0 => by simp [sumR]
  | n + 1 => by
    rw [sumR_succ, sumR_head x n, sumR_succ n fun i => x (i + 1)]
    omega
def swapR (y : Nat → Nat) (i j k : Nat) : Nat := if k = i then y i + 1 else if k = j then y j - 1 else y k
theorem sumR_swap {n : Nat} {y : Nat → Nat} {i j : Nat} (hi : i < n) (hj : j < n) (hij : i ≠ j) (hy : 0 < y j) : sumR n (swapR y i j) = sumR n y := by
  have a := sumR_upd (fun k => if k = j then y j - 1 else y k) j n hj
  have b := sumR_upd (fun k => if k = j then y j - 1 else y k) i n hi
  have ea : sumR n (upd1 (fun k => if k = j then y j - 1 else y k) j) = sumR n y := sumR_congr fun k _ => by
    unfold upd1
    dsimp only
    by_cases h : k = j
    · subst h
      rw [if_pos rfl, if_pos rfl]
      omega
    · rw [if_neg h, if_neg h]
  have eb : sumR n (upd1 (fun k => if k = j then y j - 1 else y k) i) = sumR n (swapR y i j) := sumR_congr fun k _ => by
    unfold upd1 swapR
    dsimp only
    by_cases h : k = i
    · subst h
      rw [if_pos rfl, if_pos rfl, if_neg hij]
    · rw [if_neg h, if_neg h]
  omega
/-- the votes where the first two join -/
def joinV (v : Nat → Nat) (k : Nat) : Nat := if k = 0 then v 0 + v 1 else v (k + 1)
theorem mono_down : ∀ a b, a ≤ b → dDown a ≤ dDown b := fun a b h => Nat.succ_le_succ h
theorem mono_half : ∀ a b, a ≤ b → dHalf a ≤ dHalf b := fun a b h => by unfold dHalf; omega
theorem mono_up : ∀ a b, a ≤ b → dUp a ≤ dUp b := fun a b h => h
section
variable {n s : Nat} {v t : Nat → Nat}
theorem join_pos (hv : ∀ i, i < n + 2 → 0 < v i) : ∀ i, i < n + 1 → 0 < joinV v i := fun i hi => by
  unfold joinV
  split
  · have := hv 0 (by omega)
    omega
  · exact hv (i + 1) (by omega)
theorem join_down (hv : ∀ i, i < n + 2 → 0 < v i) (ht : Right (n + 2) v dDown t) (hs : sumR (n + 2) t = s) : ∀ (m : Nat) (y : Nat → Nat), Right (n + 1) (joinV v) dDown y → sumR (n + 1) y = s → t 0 + t 1 ≤ y 0 + m → ∃ z, Right (n + 1) (joinV v) dDown z ∧ sumR (n + 1) z = s ∧ t 0 + t 1 ≤ z 0
  | 0, y, h1, h2, h3 => ⟨y, h1, h2, h3⟩
  | m + 1, y, h1, h2, h3 => by
    by_cases hge : t 0 + t 1 ≤ y 0
    · exact ⟨y, h1, h2, hge⟩
    · rw [sumR_head, sumR_head (fun i => t (i + 1))] at hs
      have e01 : t (0 + 1) = t 1 := rfl
      have h2' := h2
      rw [sumR_head] at h2'
      obtain ⟨j, hj, hlt⟩ := sumR_lt (n := n) (x := fun i => t (i + 1 + 1)) (y := fun i => y (i + 1)) (by omega)
      have hy : 0 < y (j + 1) := by omega
      have q1 := h1 0 (j + 1) (by omega) (by omega) (by omega) hy
      have vj := hv (j + 2) (by omega)
      have eV0 : joinV v 0 = v 0 + v 1 := rfl
      have eVj : joinV v (j + 1) = v (j + 2) := rfl
      rw [eV0, eVj] at q1
      unfold dDown at q1
      have e1 : y (j + 1) - 1 + 1 = y (j + 1) := by omega
      rw [e1] at q1
      have b0 : v (j + 2) * t 0 ≤ v 0 * y (j + 1) := by
        rcases Nat.eq_zero_or_pos (t 0) with z | z
        · rw [z, Nat.mul_zero]
          exact Nat.zero_le _
        · have := ht (j + 2) 0 (by omega) (by omega) (by omega) z
          unfold dDown at this
          rw [show t 0 - 1 + 1 = t 0 by omega] at this
          exact Nat.le_trans this (Nat.mul_le_mul_left _ hlt)
      have b1 : v (j + 2) * t 1 ≤ v 1 * y (j + 1) := by
        rcases Nat.eq_zero_or_pos (t 1) with z | z
        · rw [z, Nat.mul_zero]
          exact Nat.zero_le _
        · have := ht (j + 2) 1 (by omega) (by omega) (by omega) z
          unfold dDown at this
          rw [show t 1 - 1 + 1 = t 1 by omega] at this
          exact Nat.le_trans this (Nat.mul_le_mul_left _ hlt)
      have b2 : v (j + 2) * (y 0 + 1) ≤ v (j + 2) * (t 0 + t 1) := Nat.mul_le_mul_left _ (by omega)
      have e2 : v (j + 2) * (t 0 + t 1) = v (j + 2) * t 0 + v (j + 2) * t 1 := Nat.mul_add _ _ _
      have e3 : (v 0 + v 1) * y (j + 1) = v 0 * y (j + 1) + v 1 * y (j + 1) := Nat.add_mul _ _ _
      have tie : joinV v 0 * dDown (y (j + 1) - 1) = joinV v (j + 1) * dDown (y 0) := by
        rw [eV0, eVj]
        unfold dDown
        rw [e1]
        omega
      have hz := right_swap mono_down (join_pos hv) (i := 0) (j := j + 1) (by omega) (by omega) (by omega) h1 hy tie
      have hsum := sumR_swap (n := n + 1) (y := y) (i := 0) (j := j + 1) (by omega) (by omega) (by omega) hy
      exact join_down hv ht (by rw [sumR_head, sumR_head (fun i => t (i + 1))]; exact hs) m (swapR y 0 (j + 1)) hz (by rw [hsum]; exact h2) (by
        have : swapR y 0 (j + 1) 0 = y 0 + 1 := rfl
        omega)
theorem join_up (hv : ∀ i, i < n + 2 → 0 < v i) (ht : Right (n + 2) v dUp t) (hs : sumR (n + 2) t = s) : ∀ (m : Nat) (y : Nat → Nat), Right (n + 1) (joinV v) dUp y → sumR (n + 1) y = s → y 0 ≤ t 0 + t 1 + m → ∃ z, Right (n + 1) (joinV v) dUp z ∧ sumR (n + 1) z = s ∧ z 0 ≤ t 0 + t 1
  | 0, y, h1, h2, h3 => ⟨y, h1, h2, h3⟩
  | m + 1, y, h1, h2, h3 => by
    by_cases hge : y 0 ≤ t 0 + t 1
    · exact ⟨y, h1, h2, hge⟩
    · rw [sumR_head, sumR_head (fun i => t (i + 1))] at hs
      have e01 : t (0 + 1) = t 1 := rfl
      have h2' := h2
      rw [sumR_head] at h2'
      obtain ⟨j, hj, hlt⟩ := sumR_lt (n := n) (x := fun i => y (i + 1)) (y := fun i => t (i + 1 + 1)) (by omega)
      have hy : 0 < y 0 := by omega
      have q1 := h1 (j + 1) 0 (by omega) (by omega) (by omega) hy
      have v0 := hv 0 (by omega)
      have eV0 : joinV v 0 = v 0 + v 1 := rfl
      have eVj : joinV v (j + 1) = v (j + 2) := rfl
      rw [eV0, eVj] at q1
      unfold dUp at q1
      have tj : 0 < t (j + 2) := by
        have : t (j + 1 + 1) = t (j + 2) := rfl
        omega
      have b0 := ht 0 (j + 2) (by omega) (by omega) (by omega) tj
      have b1 := ht 1 (j + 2) (by omega) (by omega) (by omega) tj
      unfold dUp at b0 b1
      have hle : y (j + 1) ≤ t (j + 2) - 1 := by
        have : t (j + 1 + 1) = t (j + 2) := rfl
        omega
      have c0 : v 0 * y (j + 1) ≤ v 0 * (t (j + 2) - 1) := Nat.mul_le_mul_left _ hle
      have c1 : v 1 * y (j + 1) ≤ v 1 * (t (j + 2) - 1) := Nat.mul_le_mul_left _ hle
      have b2 : v (j + 2) * (t 0 + t 1) ≤ v (j + 2) * (y 0 - 1) := Nat.mul_le_mul_left _ (by omega)
      have e2 : v (j + 2) * (t 0 + t 1) = v (j + 2) * t 0 + v (j + 2) * t 1 := Nat.mul_add _ _ _
      have e3 : (v 0 + v 1) * y (j + 1) = v 0 * y (j + 1) + v 1 * y (j + 1) := Nat.add_mul _ _ _
      have tie : joinV v (j + 1) * dUp (y 0 - 1) = joinV v 0 * dUp (y (j + 1)) := by
        rw [eV0, eVj]
        unfold dUp
        omega
      have hz := right_swap mono_up (join_pos hv) (i := j + 1) (j := 0) (by omega) (by omega) (by omega) h1 hy tie
      have hsum := sumR_swap (n := n + 1) (y := y) (i := j + 1) (j := 0) (by omega) (by omega) (by omega) hy
      exact join_up hv ht (by rw [sumR_head, sumR_head (fun i => t (i + 1))]; exact hs) m (swapR y (j + 1) 0) hz (by rw [hsum]; exact h2) (by
        have : swapR y (j + 1) 0 0 = y 0 - 1 := by
          unfold swapR
          rw [if_neg (by omega), if_pos rfl]
        omega)
end
/-! ### by dues, two voices: right by halves -/
theorem due_half {ws : List Nat} {s : Nat} (hW : 0 < ws.sum) (hn : ws.length = 2) : Right 2 (fun i => ws.getD i 0) dHalf (fun i => (dueL ws s).getD i 0) := by
  obtain ⟨ρ, hρ, hb⟩ := bound (ws := ws) (s := s) hW
  have eS : ws.sum = ws.getD 0 0 + ws.getD 1 0 := by
    have := map_getD (fun x => x) ws
    rw [List.map_id', hn] at this
    conv => lhs; rw [← this]
    rfl
  have eD : dueAt ws s 0 + dueAt ws s 1 = s := by
    have h := due_sum (s := s) hW
    unfold dueL at h
    rw [hn] at h
    simpa [List.range_succ] using h
  have d0 := due_getD ws s 0 (by omega)
  have d1 := due_getD ws s 1 (by omega)
  have p0 : lowN ws.sum s (ws.getD 0 0) * ws.sum + rsts ws s 0 = ws.getD 0 0 * s := by
    unfold lowN rsts rstN
    rw [Nat.mul_comm (ws.getD 0 0 * s / ws.sum)]
    exact Nat.div_add_mod _ _
  have p1 : lowN ws.sum s (ws.getD 1 0) * ws.sum + rsts ws s 1 = ws.getD 1 0 * s := by
    unfold lowN rsts rstN
    rw [Nat.mul_comm (ws.getD 1 0 * s / ws.sum)]
    exact Nat.div_add_mod _ _
  have l0 := rst_lt (s := s) hW 0
  have l1 := rst_lt (s := s) hW 1
  have b0 := hb 0 (by omega)
  have b1 := hb 1 (by omega)
  -- c: how much more than due, times W
  have key : ∃ c : Int, ((dueAt ws s 0 : Nat) : Int) * (ws.sum : Int) = ((ws.getD 0 0 : Nat) : Int) * (s : Int) + c ∧ ((dueAt ws s 1 : Nat) : Int) * (ws.sum : Int) = ((ws.getD 1 0 : Nat) : Int) * (s : Int) - c ∧ 2 * c ≤ (ws.sum : Int) ∧ -(ws.sum : Int) ≤ 2 * c := by
    have q0 : ((lowN ws.sum s (ws.getD 0 0) : Nat) : Int) * (ws.sum : Int) + ((rsts ws s 0 : Nat) : Int) = ((ws.getD 0 0 : Nat) : Int) * (s : Int) := by
      rw [← Int.natCast_mul, ← Int.natCast_mul, ← Int.natCast_add, p0]
    have q1 : ((lowN ws.sum s (ws.getD 1 0) : Nat) : Int) * (ws.sum : Int) + ((rsts ws s 1 : Nat) : Int) = ((ws.getD 1 0 : Nat) : Int) * (s : Int) := by
      rw [← Int.natCast_mul, ← Int.natCast_mul, ← Int.natCast_add, p1]
    have qs : ((dueAt ws s 0 : Nat) : Int) * (ws.sum : Int) + ((dueAt ws s 1 : Nat) : Int) * (ws.sum : Int) = ((ws.getD 0 0 : Nat) : Int) * (s : Int) + ((ws.getD 1 0 : Nat) : Int) * (s : Int) := by
      rw [← Int.add_mul, ← Int.add_mul, ← Int.natCast_add, ← Int.natCast_add, eD, ← eS, Int.mul_comm]
    refine ⟨((dueAt ws s 0 : Nat) : Int) * (ws.sum : Int) - ((ws.getD 0 0 : Nat) : Int) * (s : Int), by omega, by omega, ?_, ?_⟩
    · unfold dueAt at qs ⊢
      cases g0 : gotB ws s 0 <;> cases g1 : gotB ws s 1 <;> simp only [g0, g1, if_true, Bool.false_eq_true, if_false, Nat.add_zero, Int.natCast_add, Int.add_mul] at qs ⊢
      · omega
      · omega
      · have a := b0.1 g0
        have b := b1.2 g1
        rw [show (((1 : Nat) : Int)) * (ws.sum : Int) = (ws.sum : Int) from Int.one_mul _] at qs ⊢
        omega
      · rw [show (((1 : Nat) : Int)) * (ws.sum : Int) = (ws.sum : Int) from Int.one_mul _] at qs ⊢
        omega
    · unfold dueAt at qs ⊢
      cases g0 : gotB ws s 0 <;> cases g1 : gotB ws s 1 <;> simp only [g0, g1, if_true, Bool.false_eq_true, if_false, Nat.add_zero, Int.natCast_add, Int.add_mul] at qs ⊢
      · omega
      · have a := b1.1 g1
        have b := b0.2 g0
        rw [show (((1 : Nat) : Int)) * (ws.sum : Int) = (ws.sum : Int) from Int.one_mul _] at qs
        omega
      · rw [show (((1 : Nat) : Int)) * (ws.sum : Int) = (ws.sum : Int) from Int.one_mul _] at qs ⊢
        omega
      · rw [show (((1 : Nat) : Int)) * (ws.sum : Int) = (ws.sum : Int) from Int.one_mul _] at qs ⊢
        omega
  obtain ⟨c, c0, c1, c2, c3⟩ := key
  -- one way, for any two
  have go : ∀ (a b x y : Nat) (c : Int), (x : Int) * (ws.sum : Int) = (a : Int) * (s : Int) + c → (y : Int) * (ws.sum : Int) = (b : Int) * (s : Int) - c → 2 * c ≤ (ws.sum : Int) → 0 < x → b * (2 * (x - 1) + 1) ≤ a * (2 * y + 1) := by
    intro a b x y c hx hy hc hx0
    have hW' : (0 : Int) < (ws.sum : Int) := by omega
    have m1 : 0 ≤ (b : Int) * ((ws.sum : Int) - 2 * c) := Int.mul_nonneg (by omega) (by omega)
    have m2 : 0 ≤ (a : Int) * ((ws.sum : Int) - 2 * c) := Int.mul_nonneg (by omega) (by omega)
    have e : ((b * (2 * (x - 1) + 1) : Nat) : Int) = (b : Int) * (2 * (x : Int) - 1) := by
      rw [Int.natCast_mul]
      congr 1
      omega
    have e' : ((a * (2 * y + 1) : Nat) : Int) = (a : Int) * (2 * (y : Int) + 1) := by
      rw [Int.natCast_mul]
      congr 1
    have f1 : (b : Int) * (2 * (x : Int) - 1) * (ws.sum : Int) = 2 * ((b : Int) * ((a : Int) * (s : Int))) - (b : Int) * ((ws.sum : Int) - 2 * c) := by
      have : (b : Int) * (2 * (x : Int) - 1) * (ws.sum : Int) = (b : Int) * (2 * ((x : Int) * (ws.sum : Int)) - (ws.sum : Int)) := by grind
      rw [this, hx]
      grind
    have f2 : (a : Int) * (2 * (y : Int) + 1) * (ws.sum : Int) = 2 * ((b : Int) * ((a : Int) * (s : Int))) + (a : Int) * ((ws.sum : Int) - 2 * c) := by
      have : (a : Int) * (2 * (y : Int) + 1) * (ws.sum : Int) = (a : Int) * (2 * ((y : Int) * (ws.sum : Int)) + (ws.sum : Int)) := by grind
      rw [this, hy]
      grind
    have le : (b : Int) * (2 * (x : Int) - 1) * (ws.sum : Int) ≤ (a : Int) * (2 * (y : Int) + 1) * (ws.sum : Int) := by
      rw [f1, f2]
      omega
    have := Int.le_of_mul_le_mul_right le hW'
    omega
  intro i j hi hj hne hx
  have hc : (i = 0 ∧ j = 1) ∨ (i = 1 ∧ j = 0) := by omega
  simp only at hx ⊢
  unfold dHalf
  rcases hc with ⟨rfl, rfl⟩ | ⟨rfl, rfl⟩
  · rw [d1] at hx
    rw [d1, d0]
    exact go _ _ _ _ (-c) (by omega) (by omega) (by omega) hx
  · rw [d0] at hx
    rw [d1, d0]
    exact go _ _ _ _ c c0 c1 c2 hx
end DL
end

section
set_option autoImplicit false
set_option linter.all false
/-! Seats by steps, as lists. -/
namespace DL
open PySem
inductive Kd where
  | down | half | up
  deriving DecidableEq
def dOf : Kd → Nat → Nat
  | .down => dDown
  | .half => dHalf
  | .up => dUp
def strOf : Kd → Str
  | .down => "down"
  | .half => "half"
  | .up => "up"
theorem mono_of (k : Kd) : ∀ a b, a ≤ b → dOf k a ≤ dOf k b := by
  cases k
  · exact mono_down
  · exact mono_half
  · exact mono_up
theorem dOf_le (k : Kd) (a : Nat) : dOf k a ≤ 2 * a + 1 := by
  cases k
  · show a + 1 ≤ _
    omega
  · exact Nat.le_refl _
  · show a ≤ _
    omega
def at0 (l : List Nat) (i : Nat) : Nat := l.getD i 0
def addAt (x : List Nat) (b : Nat) : List Nat := x.set b (at0 x b + 1)
def stepL (ws : List Nat) (k : Kd) (x : List Nat) : List Nat := addAt x (bestTo (at0 ws) (dOf k) (at0 x) (ws.length - 1))
def seatsL (ws : List Nat) (k : Kd) : Nat → List Nat
  | 0 => List.replicate ws.length 0
  | s + 1 => stepL ws k (seatsL ws k s)
theorem at0_addAt {x : List Nat} {b : Nat} (hb : b < x.length) : at0 (addAt x b) = upd1 (at0 x) b := by
  funext i
  unfold at0 addAt upd1
  rw [List.getD_eq_getElem?_getD, List.getElem?_set]
  by_cases h : b = i
  · subst h
    rw [if_pos rfl, if_pos hb, if_pos rfl]
    rfl
  · rw [if_neg h, if_neg (fun z => h z.symm)]
    exact (List.getD_eq_getElem?_getD).symm
theorem sum_at0 (l : List Nat) : l.sum = sumR l.length (at0 l) := by
  have := map_getD (fun x => x) l
  rw [List.map_id'] at this
  conv => lhs; rw [← this]
  rfl
theorem seatsL_len (ws : List Nat) (k : Kd) : ∀ s, (seatsL ws k s).length = ws.length
  | 0 => List.length_replicate
  | s + 1 => by
    show (addAt _ _).length = _
    unfold addAt
    rw [List.length_set]
    exact seatsL_len ws k s
theorem best_lt {ws : List Nat} (h0 : 0 < ws.length) (k : Kd) (x : List Nat) : bestTo (at0 ws) (dOf k) (at0 x) (ws.length - 1) < ws.length := by
  have := best_le (at0 ws) (dOf k) (at0 x) (ws.length - 1)
  omega
theorem pos_at {ws : List Nat} (hv : ∀ w ∈ ws, 1 ≤ w) (i : Nat) (hi : i < ws.length) : 0 < at0 ws i := by
  unfold at0
  rw [List.getD_eq_getElem?_getD, List.getElem?_eq_getElem hi]
  exact hv _ (List.getElem_mem _)
theorem at0_zero (n i : Nat) : at0 (List.replicate n 0) i = 0 := by
  unfold at0
  rw [List.getD_eq_getElem?_getD, List.getElem?_replicate]
  split <;> rfl
theorem seats_right {ws : List Nat} (h0 : 0 < ws.length) (hv : ∀ w ∈ ws, 1 ≤ w) (k : Kd) : ∀ s, Right ws.length (at0 ws) (dOf k) (at0 (seatsL ws k s))
  | 0 => fun i j _ _ _ h => by
    rw [show seatsL ws k 0 = List.replicate ws.length 0 from rfl, at0_zero] at h
    omega
  | s + 1 => by
    have ih := seats_right h0 hv k s
    have hb := best_lt h0 k (seatsL ws k s)
    show Right _ _ _ (at0 (addAt (seatsL ws k s) _))
    rw [at0_addAt (by rw [seatsL_len]; exact hb)]
    exact right_up (fun a => mono_of k a (a + 1) (by omega)) hb ih fun a ha => best_ok (at0 ws) (dOf k) (at0 (seatsL ws k s)) (ws.length - 1) (fun i hi => pos_at hv i (by omega)) a (by omega)
theorem seats_sum {ws : List Nat} (h0 : 0 < ws.length) (k : Kd) : ∀ s, (seatsL ws k s).sum = s
  | 0 => by
    show (List.replicate ws.length 0).sum = 0
    rw [List.sum_replicate_nat, Nat.mul_zero]
  | s + 1 => by
    have ih := seats_sum h0 k s
    have hb := best_lt h0 k (seatsL ws k s)
    rw [sum_at0, seatsL_len] at ih ⊢
    show sumR _ (at0 (addAt (seatsL ws k s) _)) = _
    rw [at0_addAt (by rw [seatsL_len]; exact hb), sumR_upd _ _ _ hb, ih]
theorem seats_le {ws : List Nat} (h0 : 0 < ws.length) (k : Kd) (s i : Nat) : at0 (seatsL ws k s) i ≤ at0 (seatsL ws k (s + 1)) i := by
  have hb := best_lt h0 k (seatsL ws k s)
  show _ ≤ at0 (addAt (seatsL ws k s) _) i
  rw [at0_addAt (by rw [seatsL_len]; exact hb)]
  unfold upd1
  split
  · rename_i h
    rw [← h]
    omega
  · exact Nat.le_refl _
/-- a place that could give a seat, and one that could take it -/
def badB (ws : List Nat) (k : Kd) (row : List Nat) (i j : Nat) : Bool := decide (i ≠ j) && (decide (0 < at0 row j) && decide (at0 ws j * dOf k (at0 row i) < at0 ws i * dOf k (at0 row j - 1)))
def rightB (ws : List Nat) (k : Kd) (row : List Nat) : Bool := !((List.range ws.length).any fun i => (List.range ws.length).any fun j => badB ws k row i j)
theorem right_iff {ws : List Nat} {k : Kd} {row : List Nat} : rightB ws k row = true ↔ Right ws.length (at0 ws) (dOf k) (at0 row) := by
  unfold rightB Right
  rw [Bool.not_eq_true', ← Bool.not_eq_true, List.any_eq_true]
  constructor
  · intro h i j hi hj hne hpos
    refine Nat.le_of_not_lt fun hlt => h ⟨i, List.mem_range.mpr hi, List.any_eq_true.mpr ⟨j, List.mem_range.mpr hj, ?_⟩⟩
    unfold badB
    rw [decide_eq_true hne, decide_eq_true hpos, decide_eq_true hlt]
    rfl
  · rintro h ⟨i, hi, h2⟩
    obtain ⟨j, hj, h3⟩ := List.any_eq_true.mp h2
    unfold badB at h3
    rw [Bool.and_eq_true, Bool.and_eq_true, decide_eq_true_eq, decide_eq_true_eq, decide_eq_true_eq] at h3
    have := h i j (List.mem_range.mp hi) (List.mem_range.mp hj) h3.1 h3.2.1
    omega
/-- what the law says of a right row -/
def boundB (ws : List Nat) (s : Nat) (k : Kd) (row : List Nat) : Bool := match k with
  | .down => (List.range ws.length).all fun i => decide (at0 ws i * s / ws.sum ≤ at0 row i)
  | .up => (List.range ws.length).all fun i => decide (((at0 row i : Int) - 1) * (ws.sum : Int) < ((at0 ws i : Nat) : Int) * (s : Int)) || decide (at0 row i = 0)
  | .half => !decide (ws.length = 2) || (List.range ws.length).all fun i => decide ((if ((at0 row i : Nat) : Int) * (ws.sum : Int) - ((at0 ws i : Nat) : Int) * (s : Int) < 0 then -(((at0 row i : Nat) : Int) * (ws.sum : Int) - ((at0 ws i : Nat) : Int) * (s : Int)) else ((at0 row i : Nat) : Int) * (ws.sum : Int) - ((at0 ws i : Nat) : Int) * (s : Int)) < (ws.sum : Int))
theorem bound_ok {ws : List Nat} (h0 : 0 < ws.length) (hv : ∀ w ∈ ws, 1 ≤ w) {s : Nat} {k : Kd} {row : List Nat} (hl : row.length = ws.length) (hs : row.sum = s) (hr : rightB ws k row = true) : boundB ws s k row = true := by
  have hr := right_iff.mp hr
  have hs' := hs
  rw [sum_at0, hl] at hs'
  have hp := pos_at hv
  have hW := sum_at0 ws
  cases k with
  | down =>
    unfold boundB
    rw [List.all_eq_true]
    intro i hi
    rw [List.mem_range] at hi
    exact decide_eq_true (down_bound hW hs' hp hr hi)
  | up =>
    unfold boundB
    rw [List.all_eq_true]
    intro i hi
    rw [List.mem_range] at hi
    rw [Bool.or_eq_true, decide_eq_true_eq, decide_eq_true_eq]
    rcases Nat.eq_zero_or_pos (at0 row i) with z | z
    · exact .inr z
    · left
      have h := up_bound hW hs' hp hr hi z
      have e : ((at0 row i : Nat) : Int) - 1 = ((at0 row i - 1 : Nat) : Int) := by omega
      rw [e, ← Int.natCast_mul, ← Int.natCast_mul]
      omega
  | half =>
    unfold boundB
    by_cases hn : ws.length = 2
    · rw [decide_eq_true hn, Bool.not_true, Bool.false_or, List.all_eq_true]
      rw [hn] at hr hs' hW hp
      have e1 : sumR 2 (at0 row) = at0 row 0 + at0 row 1 := by simp [sumR, List.range_succ]
      have e2 : sumR 2 (at0 ws) = at0 ws 0 + at0 ws 1 := by simp [sumR, List.range_succ]
      rw [e1] at hs'
      rw [e2] at hW
      obtain ⟨a, b, c, d⟩ := half_two (hp 0 (by decide)) (hp 1 (by decide)) hr
      rw [hs', ← hW] at a b c d
      intro i hi
      rw [hn, List.mem_range] at hi
      rw [decide_eq_true_eq, ← Int.natCast_mul, ← Int.natCast_mul]
      have hc : i = 0 ∨ i = 1 := by omega
      rw [Nat.add_mul, Nat.one_mul] at a c
      rcases hc with rfl | rfl <;> split <;> omega
    · rw [decide_eq_false hn]
      rfl
/-! ### joining -/
theorem join_list (a b : Nat) (r : List Nat) : at0 ((a + b) :: r) = joinV (at0 (a :: b :: r)) := by
  funext i
  unfold joinV at0
  cases i with
  | zero => rfl
  | succ i => rfl
theorem joins {a b : Nat} {r : List Nat} (hv : ∀ w ∈ a :: b :: r, 1 ≤ w) {s : Nat} {k : Kd} {row : List Nat} (hl : row.length = (a :: b :: r).length) (hs : row.sum = s) (hr : rightB (a :: b :: r) k row = true) :
    (k = .down → ∃ z : List Nat, z.length = ((a + b) :: r).length ∧ z.sum = s ∧ rightB ((a + b) :: r) k z = true ∧ at0 row 0 + at0 row 1 ≤ at0 z 0) ∧ (k = .up → ∃ z : List Nat, z.length = ((a + b) :: r).length ∧ z.sum = s ∧ rightB ((a + b) :: r) k z = true ∧ at0 z 0 ≤ at0 row 0 + at0 row 1) := by
  have hr := right_iff.mp hr
  rw [sum_at0, hl] at hs
  have hp : ∀ i, i < r.length + 2 → 0 < at0 (a :: b :: r) i := pos_at hv
  have hv2 : ∀ w ∈ (a + b) :: r, 1 ≤ w := fun w hw => by
    rw [List.mem_cons] at hw
    rcases hw with rfl | hw
    · have := hv a List.mem_cons_self
      omega
    · exact hv w (List.mem_cons_of_mem _ (List.mem_cons_of_mem _ hw))
  have y1 := seats_right (ws := (a + b) :: r) (Nat.succ_pos _) hv2 k s
  have y2 := seats_sum (ws := (a + b) :: r) (Nat.succ_pos _) k s
  rw [sum_at0, seatsL_len] at y2
  rw [join_list] at y1
  have mk : ∀ z : Nat → Nat, Right (r.length + 1) (joinV (at0 (a :: b :: r))) (dOf k) z → sumR (r.length + 1) z = s → ∃ l : List Nat, l.length = ((a + b) :: r).length ∧ l.sum = s ∧ rightB ((a + b) :: r) k l = true ∧ at0 l 0 = z 0 := fun z h1 h2 => by
    have hat : ∀ i, i < r.length + 1 → at0 ((List.range (r.length + 1)).map z) i = z i := fun i hi => by
      unfold at0
      rw [List.getD_eq_getElem?_getD, List.getElem?_map, List.getElem?_range hi]
      rfl
    refine ⟨(List.range (r.length + 1)).map z, by simp, h2, right_iff.mpr ?_, hat 0 (by omega)⟩
    rw [join_list]
    intro i j hi hj hne hpos
    rw [hat j hj] at hpos ⊢
    rw [hat i hi]
    exact h1 i j hi hj hne hpos
  constructor
  · rintro rfl
    obtain ⟨z, z1, z2, z3⟩ := join_down hp hr hs (at0 row 0 + at0 row 1) (at0 (seatsL ((a + b) :: r) .down s)) y1 y2 (by omega)
    obtain ⟨l, l1, l2, l3, l4⟩ := mk z z1 z2
    exact ⟨l, l1, l2, l3, by omega⟩
  · rintro rfl
    obtain ⟨z, z1, z2, z3⟩ := join_up hp hr hs (at0 (seatsL ((a + b) :: r) .up s) 0) (at0 (seatsL ((a + b) :: r) .up s)) y1 y2 (by omega)
    obtain ⟨l, l1, l2, l3, l4⟩ := mk z z1 z2
    exact ⟨l, l1, l2, l3, by omega⟩
end DL
end

section
set_option autoImplicit false
set_option linter.all false
set_option maxRecDepth 20000
namespace K56
open PySem DL
theorem takes : Takes tab 13 := fun k n S p u => g_take (T := tab) (i := 13) (a := 99684) (b := 2565) (c := 16138) (d := 55) rfl ⟨by decide, by decide, by decide, by decide, by decide, by decide, by decide, by decide⟩ k u
def isInt : D → Bool
  | .int _ => true
  | _ => false
theorem r_is_integer (k : Nat) (x : D) (S : Store) : callD tab (k + 1) 0 [.d x] S = some (.d (.bl (isInt x)), S) := by
  rw [callD_run (fn := f0) rfl rfl]
  cases x <;> simp [-Option.bind_some, f0, isa, isInt]
def betw (a b : Int) : D → Bool
  | .int i => decide (a ≤ i) && decide (i ≤ b)
  | _ => false
theorem r_is_between (k : Nat) (x : D) (a b : Int) (S : Store) : callD tab (k + 2) 1 [.d x, .d (.int a), .d (.int b)] S = some (.d (.bl (betw a b x)), S) := by
  rw [callD_run (fn := f1) rfl rfl]
  cases x with
  | int i =>
    simp [-Option.bind_some, f1, r_is_integer, isInt, betw]
    by_cases h : a ≤ i <;> simp [-Option.bind_some, h]
  | _ => simp [-Option.bind_some, f1, r_is_integer, isInt, betw]
structure Votes (ws : List Nat) : Prop where
  l0 : 0 < ws.length
  l1 : ws.length ≤ 20
  w0 : ∀ w ∈ ws, 1 ≤ w
  w1 : ∀ w ∈ ws, w ≤ 1000000000
theorem Votes.pos {ws : List Nat} (v : Votes ws) : 0 < ws.sum := by
  have h := le_sum ws v.w0
  have := v.l0
  omega
theorem Votes.le {ws : List Nat} (v : Votes ws) : ws.sum ≤ 20000000000 := by
  have h := sum_le ws v.w1
  have := Nat.mul_le_mul_right 1000000000 v.l1
  omega
theorem Votes.each {ws : List Nat} (v : Votes ws) (i : Nat) : ws.getD i 0 ≤ 1000000000 := by
  rw [List.getD_eq_getElem?_getD]
  cases h : ws[i]? with
  | none => exact Nat.zero_le _
  | some w => exact v.w1 w (List.mem_of_getElem? h)
theorem r_check (k : Nat) {ws : List Nat} (v : Votes ws) (s : Nat) (hs : s ≤ 500) (S : Store) : callD tab (k + 3) 2 [.d (.tup (ws.map natD)), .d (.int (s : Int))] S = some (.d .non, S) := by
  rw [callD_run (fn := f2) rfl rfl]
  have ht := turns_mapI (g := ev (callD tab (k + 2)) 37) (elt := .call 1 [.var 2, .cst (.int 1), .glob "MOST_VOTES" (.int 1000000000)]) (tg := .nm 2) (own := [2]) (ρ := [some (.d (.tup (ws.map natD))), some (.d (.int (s : Int))), none]) (S := S) natD (fun _ => .bl true) ws [] (fun w hw => by
    refine ⟨[some (.d (.tup (ws.map natD))), some (.d (.int (s : Int))), some (.d (natD w))], by simp [-Option.bind_some], ?_⟩
    have h1 := v.w0 w hw
    have h2 := v.w1 w hw
    have hb : betw 1 1000000000 (natD w) = true := by
      show (decide ((1 : Int) ≤ (w : Int)) && decide ((w : Int) ≤ 1000000000)) = true
      rw [decide_eq_true (by omega), decide_eq_true (by omega)]
      rfl
    have e := r_is_between k (natD w) 1 1000000000 S
    rw [hb] at e
    simp only [ev_call, evs_cons, evs_nil, ev_var, ev_cst, ev_glob, getV_zero, getV_succ, bnd, e]) (by have := v.l1; simp [-Option.bind_some]; omega)
  have ha : o1 .all (.lst (ws.map fun _ => D.bl true)) = some (.bl true) := by
    have := o1_all (ws.map fun _ => true)
    rw [List.map_map] at this
    rw [show (D.bl ∘ fun _ : Nat => true) = fun _ => D.bl true from rfl] at this
    rw [this]
    congr 2
    rw [List.all_eq_true]
    intro x hx
    rw [List.mem_map] at hx
    obtain ⟨_, _, rfl⟩ := hx
    rfl
  have l0 := v.l0
  have l1 := v.l1
  have h1 : decide ((0 : Int) < ((ws.length : Nat) : Int)) = true := decide_eq_true (by omega)
  have h2 : decide (((ws.length : Nat) : Int) ≤ 20) = true := decide_eq_true (by omega)
  have hb : betw 0 500 (.int (s : Int)) = true := by
    show (decide ((0 : Int) ≤ (s : Int)) && decide ((s : Int) ≤ 500)) = true
    rw [decide_eq_true (by omega), decide_eq_true (by omega)]
    rfl
  have e := r_is_between k (.int (s : Int)) 0 500 S
  rw [hb] at e
  rw [List.nil_append] at ht
  simp only [f2, List.map_cons, List.map_nil, List.length_cons, List.length_nil, Nat.reduceAdd, Nat.reduceSub, List.replicate_succ, List.replicate_zero, List.cons_append, List.nil_append, exs_cons, exs_nil, ex_ife, ev_or, ev_not, ev_isa, isa, ev_chain, ev_o1, ev_var, ev_cst, ev_glob, getV_zero, getV_succ, bnd, asD_d, deref_d, o1_lenT, List.length_map, o2_lt, o2_le, h1, h2, onBl_bl, isTrueD_bl, if_true, Bool.not_true, Bool.false_eq_true, if_false, ev_lc, evs_cons, evs_nil, walked_tup, ht, ha, ev_call, e, thenO_nx, List.take_length]
def rowOf (W s w : Nat) : D := .tup [natD (lowN W s w), natD (rstN W s w)]
def rowsD (ws : List Nat) (s : Nat) : List D := (List.range ws.length).map fun i => rowOf ws.sum s (ws.getD i 0)
theorem rowsD_len (ws : List Nat) (s : Nat) : (rowsD ws s).length = ws.length := by simp [-Option.bind_some, rowsD]
theorem r_dues_of (k : Nat) {ws : List Nat} (v : Votes ws) (s : Nat) (hs : s ≤ 1000) (S : Store) : callD tab (k + 1) 3 [.d (.tup (ws.map natD)), .d (.int (s : Int))] S = some (.d (.lst (rowsD ws s)), S) := by
  rw [callD_run (fn := f3) rfl rfl]
  have hp := v.pos
  have hl := v.le
  have l1 := v.l1
  have d1 : divOk ((ws.sum : Nat) : Int) = true := divOk_of (n := 60) (by omega) (by unfold B; omega) (by omega)
  have h2 : (0 : Int) < ((ws.sum : Nat) : Int) := by omega
  have hf : fits (0 + 1 + 1) = true := by decide
  have ht := turns_mapI (g := ev (callD tab k) 39) (elt := .tup [.o2 .fdiv (.o2 .mul (.var 3) (.var 1)) (.var 2), .o2 .mod (.o2 .mul (.var 3) (.var 1)) (.var 2)]) (tg := .nm 3) (own := [3]) (ρ := [some (.d (.tup (ws.map natD))), some (.d (.int (s : Int))), some (.d (.int ((ws.sum : Nat) : Int))), none]) (S := S) natD (rowOf ws.sum s) ws [] (fun w hw => by
    refine ⟨[some (.d (.tup (ws.map natD))), some (.d (.int (s : Int))), some (.d (.int ((ws.sum : Nat) : Int))), some (.d (.int (w : Int)))], by simp [-Option.bind_some, natD], ?_⟩
    have h3 := v.w1 w hw
    have m1 : mulOk (w : Int) (s : Int) = true := mulOk_of (n := 40) (m := 20) (by unfold B; omega) (by unfold B; omega) (by omega)
    simp only [ev_tup, evs_cons, evs_nil, ev_o2, ev_var, getV_zero, getV_succ, bnd, deref_d, o2_mul m1, o2_fdiv d1, o2_mod h2, asDs_cons, asDs_nil, Option.map_some, List.length_cons, List.length_nil, hf, if_true]
    rfl) (by simp [-Option.bind_some]; omega)
  rw [List.nil_append, ← map_getD (rowOf ws.sum s) ws] at ht
  simp only [f3, List.map_cons, List.map_nil, List.length_cons, List.length_nil, Nat.reduceAdd, Nat.reduceSub, List.replicate_succ, List.replicate_zero, List.cons_append, List.nil_append, exs_cons, exs_nil, ex_asgN, ex_ret, ev_o1, ev_var, getV_zero, getV_succ, bnd, deref_d, o1_sumT_nat, Nat.reduceLT, if_true, List.set_cons_succ, List.set_cons_zero, thenO_nx, ev_lc, evs_cons, evs_nil, walked_tup, ht, thenO_ret, finish_d, List.take_length, rowsD]
theorem rests_eq (ws : List Nat) (s : Nat) : restAt (rowsD ws s) = fun j => ((rsts ws s j : Nat) : Int) := by
  funext j
  unfold restAt rowsD
  rw [List.getElem?_map]
  by_cases h : j < ws.length
  · rw [List.getElem?_range h]
    rfl
  · rw [List.getElem?_eq_none (by rw [List.length_range]; omega)]
    unfold rsts rstN
    rw [List.getD_eq_getElem?_getD, List.getElem?_eq_none (by omega)]
    simp
theorem rows_rest (ws : List Nat) (s : Nat) : (rowsD ws s).all isRest = true := by
  rw [List.all_eq_true]
  intro x hx
  unfold rowsD at hx
  rw [List.mem_map] at hx
  obtain ⟨i, _, rfl⟩ := hx
  rfl
def ordD (ws : List Nat) (s : Nat) : List Nat := orderOf ws.length fun j => ((rsts ws s j : Nat) : Int)
theorem ord_got {ws : List Nat} {s i : Nat} (h : i < ws.length) : decide (i ∈ (ordD ws s).take (leftN ws s)) = gotB ws s i := decide_eq_decide.mpr (order_take ws.length (rsts ws s) i (leftN ws s) h)
theorem sum_low {ws : List Nat} {s : Nat} (hW : 0 < ws.sum) : (s : Int) - (((ws.map (lowN ws.sum s)).sum : Nat) : Int) = ((leftN ws s : Nat) : Int) := by
  have := low_le (s := s) hW
  unfold leftN
  omega
def seatsBody : List Stm := [
  .asg (.nm 2) (.call 3 [.var 0, .var 1]),
  .asg (.nm 3) (.o2 .sub (.var 1) (.o1 .sum (.lc (.var 6) (.tp [(.nm 6), (.nm 7)]) .lst [.var 2] [] [6, 7]))),
  .asg (.nm 4) (.srt (.o1 .len (.var 2)) 2),
  .ret (.o1 .tupleL (.lc (.o2 .add (.var 6) (.o1 .int (.o2 .isIn (.var 5) (.slL (.var 4) none (some (.var 3)))))) (.tp [(.nm 5), (.tp [(.nm 6), (.nm 7)])]) .enumL [.var 2] [] [5, 6, 7]))]
theorem r_due_seats (k : Nat) {ws : List Nat} (v : Votes ws) (s : Nat) (hs : s ≤ 1000) (S : Store) : callD tab (k + 2) 4 [.d (.tup (ws.map natD)), .d (.int (s : Int))] S = some (.d (.tup ((dueL ws s).map natD)), S) := by
  rw [callD_run (fn := f4) rfl rfl]
  have hp := v.pos
  have l1 := v.l1
  have e1 := r_dues_of k v s hs S
  have t1 : ∀ (a b c : Option E), turns (ev (callD tab (k + 1)) 37) (.var 6) (.tp [(.nm 6), (.nm 7)]) [] [6, 7] [some (.d (.tup (ws.map natD))), some (.d (.int (s : Int))), some (.d (.lst (rowsD ws s))), a, b, c, none, none] (rowsD ws s) [] S = some (((ws.map (lowN ws.sum s)).map natD), S) := fun a b c => by
    have := turns_mapI (g := ev (callD tab (k + 1)) 37) (elt := .var 6) (tg := .tp [(.nm 6), (.nm 7)]) (own := [6, 7]) (ρ := [some (.d (.tup (ws.map natD))), some (.d (.int (s : Int))), some (.d (.lst (rowsD ws s))), a, b, c, none, none]) (S := S) (fun i => rowOf ws.sum s (ws.getD i 0)) (fun i => natD (lowN ws.sum s (ws.getD i 0))) (List.range ws.length) [] (fun i hi => by
      refine ⟨[some (.d (.tup (ws.map natD))), some (.d (.int (s : Int))), some (.d (.lst (rowsD ws s))), a, b, c, some (.d (natD (lowN ws.sum s (ws.getD i 0)))), some (.d (natD (rstN ws.sum s (ws.getD i 0))))], by simp [-Option.bind_some, rowOf], ?_⟩
      simp only [ev_var, getV_zero, getV_succ]) (by simp [-Option.bind_some]; omega)
    rw [List.nil_append, map_getD (fun w => natD (lowN ws.sum s w))] at this
    rw [List.map_map]
    exact this
  have s1 : ∀ l : List Nat, o1 .sum (.lst (l.map natD)) = some (.int ((l.sum : Nat) : Int)) := fun l => by
    have := o1_sum_nat l (fun x => x)
    rw [List.map_id'] at this
    exact this
  have s2 := s1 (ws.map (lowN ws.sum s))
  have t2 : turns (ev (callD tab (k + 1)) 38) (.o2 .add (.var 6) (.o1 .int (.o2 .isIn (.var 5) (.slL (.var 4) none (some (.var 3)))))) (.tp [(.nm 5), (.tp [(.nm 6), (.nm 7)])]) [] [5, 6, 7] [some (.d (.tup (ws.map natD))), some (.d (.int (s : Int))), some (.d (.lst (rowsD ws s))), some (.d (.int ((leftN ws s : Nat) : Int))), some (.d (.lst ((ordD ws s).map natD))), none, none, none] (enumD 0 (rowsD ws s)) [] S = some ((dueL ws s).map natD, S) := by
    have := turns_mapI (g := ev (callD tab (k + 1)) 38) (elt := .o2 .add (.var 6) (.o1 .int (.o2 .isIn (.var 5) (.slL (.var 4) none (some (.var 3)))))) (tg := .tp [(.nm 5), (.tp [(.nm 6), (.nm 7)])]) (own := [5, 6, 7]) (ρ := [some (.d (.tup (ws.map natD))), some (.d (.int (s : Int))), some (.d (.lst (rowsD ws s))), some (.d (.int ((leftN ws s : Nat) : Int))), some (.d (.lst ((ordD ws s).map natD))), none, none, none]) (S := S) (fun (i : Nat) => .tup [.int (i : Int), rowOf ws.sum s (ws.getD i 0)]) (fun (i : Nat) => natD (dueAt ws s i)) (List.range ws.length) [] (fun i hi => by
      rw [List.mem_range] at hi
      refine ⟨[some (.d (.tup (ws.map natD))), some (.d (.int (s : Int))), some (.d (.lst (rowsD ws s))), some (.d (.int ((leftN ws s : Nat) : Int))), some (.d (.lst ((ordD ws s).map natD))), some (.d (.int (i : Int))), some (.d (.int ((lowN ws.sum s (ws.getD i 0) : Nat) : Int))), some (.d (natD (rstN ws.sum s (ws.getD i 0))))], by simp [-Option.bind_some, rowOf, natD], ?_⟩
      have hin := o2_isIn_nat i ((ordD ws s).take (leftN ws s))
      rw [ord_got hi] at hin
      have hc : cutD ((ordD ws s).map natD) none (some ((leftN ws s : Nat) : Int)) = ((ordD ws s).take (leftN ws s)).map natD := by
        rw [cut_hi, List.map_take]
      have he : ((lowN ws.sum s (ws.getD i 0) : Nat) : Int) + (if gotB ws s i = true then 1 else 0) = ((dueAt ws s i : Nat) : Int) := by
        unfold dueAt
        split <;> simp
      simp only [ev_o2, ev_o1, ev_slL, evO_none, evO_some, ev_var, getV_zero, getV_succ, bnd, deref_d, asD_d, asI_int, onSeq_lst, hc, hin, o1_intb, o2_add, he, natD]) (by simp [-Option.bind_some]; omega)
    rw [List.nil_append] at this
    have ee : enumD 0 (rowsD ws s) = (List.range ws.length).map fun (i : Nat) => .tup [.int (i : Int), rowOf ws.sum s (ws.getD i 0)] := enumD_range _ _
    rw [ee, this]
    unfold dueL
    rw [List.map_map]
    rfl
  have hlt : decide (ws.length < 1000000) = true := decide_eq_true (by omega)
  have c2 : (orderOf ws.length (restAt (rowsD ws s))).map (fun (j : Nat) => D.int (j : Int)) = (ordD ws s).map natD := by
    rw [rests_eq]
    rfl
  have hsl := sum_low (s := s) hp
  simp only [f4, List.map_cons, List.map_nil, List.length_cons, List.length_nil, Nat.reduceAdd, Nat.reduceSub, List.replicate_succ, List.replicate_zero, List.cons_append, List.nil_append, exs_cons, exs_nil, ex_asgN, ex_ret, ev_call, ev_o1, ev_o2, ev_var, getV_zero, getV_succ, bnd, deref_d, evs_cons, evs_nil, e1, Nat.reduceLT, if_true, List.set_cons_succ, List.set_cons_zero, thenO_nx, ev_lc, walked_lst, t1, s2, o2_sub, hsl, ev_srt, asD_d, asI_int, o1_lenL, onL_lst, c2, rowsD_len, rows_rest, decide_true, Bool.and_true, hlt, if_true, bnd, thenO_nx, walked_eL, evs_cons, evs_nil, ev_var, getV_zero, getV_succ, t2, deref_d, o1_tupleL, thenO_ret, finish_d, List.take_length]
end K56
end

section
set_option autoImplicit false
set_option linter.all false
set_option maxRecDepth 20000
namespace K56
open PySem DL
theorem r_by_due (k : Nat) {ws : List Nat} (v : Votes ws) (s : Nat) (hs : s ≤ 500) (S : Store) : callD tab (k + 4) 5 [.d (.tup (ws.map natD)), .d (.int (s : Int))] S = some (.d (.tup ((dueL ws s).map natD)), S) := by
  rw [callD_run (fn := f5) rfl rfl]
  have e1 := r_check k v s hs S
  have e2 := r_due_seats (k + 1) v s (by omega) S
  simp only [List.map_cons, List.map_nil, List.length_cons, List.length_nil, Nat.reduceAdd, Nat.reduceSub, Nat.reduceLT, Nat.zero_add, List.replicate_succ, List.replicate_zero, List.cons_append, List.nil_append, exs_cons, exs_nil, ex_asgN, ex_asgT, ex_ret, ex_ife, ex_expr, ex_for, ex_par, ev_call, ev_callK, ev_o1, ev_o2, ev_var, ev_cst, ev_glob, ev_and, ev_or, ev_not, ev_isa, ev_lc, ev_tup, ev_idxT, ev_idxL, getV_zero, getV_succ, bnd, deref_d, asD_d, asI_int, asL_lst, asT_tup, onSeq_lst, onT_tup, evs_cons, evs_nil, evT_cons, evT_nil, if_true, Bool.false_eq_true, if_false, isTrueD_bl, Bool.not_true, Bool.not_false, and_self, List.set_cons_succ, List.set_cons_zero, thenO_nx, thenO_ret, finish_d, List.take_length, walked_tup, walked_lst, walked_eT, walked_eL, walked_zT, o1_lenT, o1_lenL, o1_tupleL, o1_int, o1_intb, o1_abs, o2_add, o2_sub, o2_lt, o2_le, o2_gt, eqD_int, neD_int, asDs_cons, asDs_nil, Option.map_some, bindT_tp, bindTs_cons, bindTs_nil, bindT_nm, isa, onBl_bl, f5, e1, e2]
theorem due_range (ws : List Nat) (s : Nat) : (dueL ws s).map natD = (List.range ws.length).map fun i => natD (dueAt ws s i) := by
  unfold dueL
  rw [List.map_map]
  rfl
def okS (s : Nat) (i : Int) : Bool := decide (0 ≤ i) && decide (i ≤ (s : Int))
def intsT (n : Nat) : D → Option (List Int)
  | .tup xs => if xs.length = n then intsOf xs else none
  | _ => none
def areB (ws : List Nat) (s : Nat) (x : D) : Bool := match intsT ws.length x with
  | some ns => ns.all (okS s) && decide (ns.sum = (s : Int))
  | none => false
theorem ne_len (n m : Nat) : (!decide (((n : Nat) : Int) = ((m : Nat) : Int))) = !decide (n = m) := by
  congr 1
  exact decide_eq_decide.mpr (by omega)
theorem turns_betw (k : Nat) (ws : List Nat) (s : Nat) (xs : List D) (S : Store) (hl : xs.length < 1000000) (v : D) :
    turns (ev (callD tab (k + 2)) 37) (.call 1 [.var 3, .cst (.int 0), .var 1]) (.nm 3) [] [3] [some (.d (.tup (ws.map natD))), some (.d (.int (s : Int))), some (.d v), none] xs [] S = some (xs.map fun x => .bl (betw 0 (s : Int) x), S) := by
  have := turns_mapI (g := ev (callD tab (k + 2)) 37) (elt := .call 1 [.var 3, .cst (.int 0), .var 1]) (tg := .nm 3) (own := [3]) (ρ := [some (.d (.tup (ws.map natD))), some (.d (.int (s : Int))), some (.d v), none]) (S := S) (fun x => x) (fun x => .bl (betw 0 (s : Int) x)) xs [] (fun x _ => by
    refine ⟨[some (.d (.tup (ws.map natD))), some (.d (.int (s : Int))), some (.d v), some (.d x)], by simp [-Option.bind_some], ?_⟩
    have e := r_is_between k x 0 (s : Int) S
    simp only [List.map_cons, List.map_nil, List.length_cons, List.length_nil, Nat.reduceAdd, Nat.reduceSub, Nat.reduceLT, Nat.zero_add, List.replicate_succ, List.replicate_zero, List.cons_append, List.nil_append, exs_cons, exs_nil, ex_asgN, ex_asgT, ex_ret, ex_ife, ex_expr, ex_for, ex_par, ev_call, ev_callK, ev_o1, ev_o2, ev_var, ev_cst, ev_glob, ev_and, ev_or, ev_not, ev_isa, ev_lc, ev_tup, ev_idxT, ev_idxL, getV_zero, getV_succ, bnd, deref_d, asD_d, asI_int, asL_lst, asT_tup, onSeq_lst, onT_tup, evs_cons, evs_nil, evT_cons, evT_nil, if_true, Bool.false_eq_true, if_false, isTrueD_bl, Bool.not_true, Bool.not_false, and_self, List.set_cons_succ, List.set_cons_zero, thenO_nx, thenO_ret, finish_d, List.take_length, walked_tup, walked_lst, walked_eT, walked_eL, walked_zT, o1_lenT, o1_lenL, o1_tupleL, o1_int, o1_intb, o1_abs, o2_add, o2_sub, o2_lt, o2_le, o2_gt, eqD_int, neD_int, asDs_cons, asDs_nil, Option.map_some, bindT_tp, bindTs_cons, bindTs_nil, bindT_nm, isa, onBl_bl, e]) (by simp [-Option.bind_some]; omega)
  rw [List.map_id', List.nil_append] at this
  exact this
theorem all_betw (s : Nat) (xs : List D) : xs.all (betw 0 (s : Int)) = match intsOf xs with | some ns => ns.all (okS s) | none => false :=
  all_ints (p := betw 0 (s : Int)) (q := okS s) (fun i => rfl) (fun x h => by
    cases x with
    | int i => exact absurd rfl (h i)
    | _ => rfl) xs
theorem r_are_seats (k : Nat) {ws : List Nat} (h20 : ws.length ≤ 20) (s : Nat) (x : D) (S : Store) : callD tab (k + 3) 6 [.d (.tup (ws.map natD)), .d (.int (s : Int)), .d x] S = some (.d (.bl (areB ws s x)), S) := by
  rw [callD_run (fn := f6) rfl rfl]
  cases x with
  | tup xs =>
    by_cases hl : xs.length = ws.length
    · have ht := turns_betw k ws s xs S (by omega) (.tup xs)
      have ha := o1_all_map (betw 0 (s : Int)) xs
      have hd : decide (xs.length = ws.length) = true := decide_eq_true hl
      have hi : intsT ws.length (.tup xs) = intsOf xs := if_pos hl
      rw [all_betw] at ha
      unfold areB
      rw [hi]
      cases hq : intsOf xs with
      | none =>
        rw [hq] at ha
        simp only [List.map_cons, List.map_nil, List.length_cons, List.length_nil, Nat.reduceAdd, Nat.reduceSub, Nat.reduceLT, Nat.zero_add, List.replicate_succ, List.replicate_zero, List.cons_append, List.nil_append, exs_cons, exs_nil, ex_asgN, ex_asgT, ex_ret, ex_ife, ex_expr, ex_for, ex_par, ev_call, ev_callK, ev_o1, ev_o2, ev_var, ev_cst, ev_glob, ev_and, ev_or, ev_not, ev_isa, ev_lc, ev_tup, ev_idxT, ev_idxL, getV_zero, getV_succ, bnd, deref_d, asD_d, asI_int, asL_lst, asT_tup, onSeq_lst, onT_tup, evs_cons, evs_nil, evT_cons, evT_nil, if_true, Bool.false_eq_true, if_false, isTrueD_bl, Bool.not_true, Bool.not_false, and_self, List.set_cons_succ, List.set_cons_zero, thenO_nx, thenO_ret, finish_d, List.take_length, walked_tup, walked_lst, walked_eT, walked_eL, walked_zT, o1_lenT, o1_lenL, o1_tupleL, o1_int, o1_intb, o1_abs, o2_add, o2_sub, o2_lt, o2_le, o2_gt, eqD_int, neD_int, asDs_cons, asDs_nil, Option.map_some, bindT_tp, bindTs_cons, bindTs_nil, bindT_nm, isa, onBl_bl, f6, List.length_map, ne_len, hd, ht, ha]
      | some ns =>
        rw [hq] at ha
        have hsum : o1 .sumT (.tup xs) = some (.int ns.sum) := by
          rw [ints_of hq]
          exact o1_sumT ns
        cases hb : ns.all (okS s) with
        | true =>
          simp only [hb] at ha
          simp only [List.map_cons, List.map_nil, List.length_cons, List.length_nil, Nat.reduceAdd, Nat.reduceSub, Nat.reduceLT, Nat.zero_add, List.replicate_succ, List.replicate_zero, List.cons_append, List.nil_append, exs_cons, exs_nil, ex_asgN, ex_asgT, ex_ret, ex_ife, ex_expr, ex_for, ex_par, ev_call, ev_callK, ev_o1, ev_o2, ev_var, ev_cst, ev_glob, ev_and, ev_or, ev_not, ev_isa, ev_lc, ev_tup, ev_idxT, ev_idxL, getV_zero, getV_succ, bnd, deref_d, asD_d, asI_int, asL_lst, asT_tup, onSeq_lst, onT_tup, evs_cons, evs_nil, evT_cons, evT_nil, if_true, Bool.false_eq_true, if_false, isTrueD_bl, Bool.not_true, Bool.not_false, and_self, List.set_cons_succ, List.set_cons_zero, thenO_nx, thenO_ret, finish_d, List.take_length, walked_tup, walked_lst, walked_eT, walked_eL, walked_zT, o1_lenT, o1_lenL, o1_tupleL, o1_int, o1_intb, o1_abs, o2_add, o2_sub, o2_lt, o2_le, o2_gt, eqD_int, neD_int, asDs_cons, asDs_nil, Option.map_some, bindT_tp, bindTs_cons, bindTs_nil, bindT_nm, isa, onBl_bl, f6, List.length_map, ne_len, hd, ht, ha, hsum, hb, Bool.true_and]
        | false =>
          simp only [hb] at ha
          simp only [List.map_cons, List.map_nil, List.length_cons, List.length_nil, Nat.reduceAdd, Nat.reduceSub, Nat.reduceLT, Nat.zero_add, List.replicate_succ, List.replicate_zero, List.cons_append, List.nil_append, exs_cons, exs_nil, ex_asgN, ex_asgT, ex_ret, ex_ife, ex_expr, ex_for, ex_par, ev_call, ev_callK, ev_o1, ev_o2, ev_var, ev_cst, ev_glob, ev_and, ev_or, ev_not, ev_isa, ev_lc, ev_tup, ev_idxT, ev_idxL, getV_zero, getV_succ, bnd, deref_d, asD_d, asI_int, asL_lst, asT_tup, onSeq_lst, onT_tup, evs_cons, evs_nil, evT_cons, evT_nil, if_true, Bool.false_eq_true, if_false, isTrueD_bl, Bool.not_true, Bool.not_false, and_self, List.set_cons_succ, List.set_cons_zero, thenO_nx, thenO_ret, finish_d, List.take_length, walked_tup, walked_lst, walked_eT, walked_eL, walked_zT, o1_lenT, o1_lenL, o1_tupleL, o1_int, o1_intb, o1_abs, o2_add, o2_sub, o2_lt, o2_le, o2_gt, eqD_int, neD_int, asDs_cons, asDs_nil, Option.map_some, bindT_tp, bindTs_cons, bindTs_nil, bindT_nm, isa, onBl_bl, f6, List.length_map, ne_len, hd, ht, ha, hb, Bool.false_and]
    · have hd : decide (xs.length = ws.length) = false := decide_eq_false hl
      have hi : intsT ws.length (.tup xs) = none := if_neg hl
      unfold areB
      rw [hi]
      simp only [List.map_cons, List.map_nil, List.length_cons, List.length_nil, Nat.reduceAdd, Nat.reduceSub, Nat.reduceLT, Nat.zero_add, List.replicate_succ, List.replicate_zero, List.cons_append, List.nil_append, exs_cons, exs_nil, ex_asgN, ex_asgT, ex_ret, ex_ife, ex_expr, ex_for, ex_par, ev_call, ev_callK, ev_o1, ev_o2, ev_var, ev_cst, ev_glob, ev_and, ev_or, ev_not, ev_isa, ev_lc, ev_tup, ev_idxT, ev_idxL, getV_zero, getV_succ, bnd, deref_d, asD_d, asI_int, asL_lst, asT_tup, onSeq_lst, onT_tup, evs_cons, evs_nil, evT_cons, evT_nil, if_true, Bool.false_eq_true, if_false, isTrueD_bl, Bool.not_true, Bool.not_false, and_self, List.set_cons_succ, List.set_cons_zero, thenO_nx, thenO_ret, finish_d, List.take_length, walked_tup, walked_lst, walked_eT, walked_eL, walked_zT, o1_lenT, o1_lenL, o1_tupleL, o1_int, o1_intb, o1_abs, o2_add, o2_sub, o2_lt, o2_le, o2_gt, eqD_int, neD_int, asDs_cons, asDs_nil, Option.map_some, bindT_tp, bindTs_cons, bindTs_nil, bindT_nm, isa, onBl_bl, f6, List.length_map, ne_len, hd]
  | _ =>
    simp only [List.map_cons, List.map_nil, List.length_cons, List.length_nil, Nat.reduceAdd, Nat.reduceSub, Nat.reduceLT, Nat.zero_add, List.replicate_succ, List.replicate_zero, List.cons_append, List.nil_append, exs_cons, exs_nil, ex_asgN, ex_asgT, ex_ret, ex_ife, ex_expr, ex_for, ex_par, ev_call, ev_callK, ev_o1, ev_o2, ev_var, ev_cst, ev_glob, ev_and, ev_or, ev_not, ev_isa, ev_lc, ev_tup, ev_idxT, ev_idxL, getV_zero, getV_succ, bnd, deref_d, asD_d, asI_int, asL_lst, asT_tup, onSeq_lst, onT_tup, evs_cons, evs_nil, evT_cons, evT_nil, if_true, Bool.false_eq_true, if_false, isTrueD_bl, Bool.not_true, Bool.not_false, and_self, List.set_cons_succ, List.set_cons_zero, thenO_nx, thenO_ret, finish_d, List.take_length, walked_tup, walked_lst, walked_eT, walked_eL, walked_zT, o1_lenT, o1_lenL, o1_tupleL, o1_int, o1_intb, o1_abs, o2_add, o2_sub, o2_lt, o2_le, o2_gt, eqD_int, neD_int, asDs_cons, asDs_nil, Option.map_some, bindT_tp, bindTs_cons, bindTs_nil, bindT_nm, isa, onBl_bl, f6]
    rfl
def nearB (ws : List Nat) (s : Nat) (ns : List Int) (i : Nat) : Bool := decide (((lowN ws.sum s (ws.getD i 0) : Nat) : Int) ≤ ns.getD i 0) && decide (ns.getD i 0 ≤ ((lowN ws.sum s (ws.getD i 0) : Nat) : Int) + if 0 < rsts ws s i then 1 else 0)
def withinB (ws : List Nat) (s : Nat) (x : D) : Bool := match intsT ws.length x with
  | some ns => ns.all (okS s) && decide (ns.sum = (s : Int)) && (List.range ws.length).all (nearB ws s ns)
  | none => false
theorem zip_rows {ws : List Nat} {s : Nat} {ns : List Int} (hl : ns.length = ws.length) : zipD (ns.map D.int) (rowsD ws s) = (List.range ws.length).map fun i => .tup [.int (ns.getD i 0), rowOf ws.sum s (ws.getD i 0)] := by
  rw [← map_getDg 0 D.int ns, hl]
  exact zipD_map _ _ _
theorem intsT_out {n : Nat} {x : D} {ns : List Int} (h : intsT n x = some ns) : x = .tup (ns.map D.int) ∧ ns.length = n := by
  unfold intsT at h
  split at h
  · split at h
    · rename_i xs hl
      have := ints_of h
      subst this
      exact ⟨rfl, by simpa using hl⟩
    · cases h
  · cases h
theorem r_is_within (k : Nat) {ws : List Nat} (v : Votes ws) (s : Nat) (hs : s ≤ 500) (x : D) (S : Store) : callD tab (k + 4) 7 [.d (.tup (ws.map natD)), .d (.int (s : Int)), .d x] S = some (.d (.bl (withinB ws s x)), S) := by
  rw [callD_run (fn := f7) rfl rfl]
  have e1 := r_check k v s hs S
  have e2 := r_are_seats k v.l1 s x S
  have e3 := r_dues_of (k + 2) v s (by omega) S
  have l1 := v.l1
  cases ha : areB ws s x with
  | false =>
    have hw : withinB ws s x = false := by
      unfold areB at ha
      unfold withinB
      split at ha
      · rw [ha, Bool.false_and]
      · rfl
    rw [hw]
    rw [ha] at e2
    simp only [List.map_cons, List.map_nil, List.length_cons, List.length_nil, Nat.reduceAdd, Nat.reduceSub, Nat.reduceLT, Nat.zero_add, List.replicate_succ, List.replicate_zero, List.cons_append, List.nil_append, exs_cons, exs_nil, ex_asgN, ex_asgT, ex_ret, ex_ife, ex_expr, ex_for, ex_par, ev_call, ev_callK, ev_o1, ev_o2, ev_var, ev_cst, ev_glob, ev_and, ev_or, ev_not, ev_isa, ev_lc, ev_tup, ev_idxT, ev_idxL, getV_zero, getV_succ, bnd, deref_d, asD_d, asI_int, asL_lst, asT_tup, onSeq_lst, onT_tup, evs_cons, evs_nil, evT_cons, evT_nil, if_true, Bool.false_eq_true, if_false, isTrueD_bl, Bool.not_true, Bool.not_false, and_self, List.set_cons_succ, List.set_cons_zero, thenO_nx, thenO_ret, finish_d, List.take_length, walked_tup, walked_lst, walked_eT, walked_eL, walked_zT, o1_lenT, o1_lenL, o1_tupleL, o1_int, o1_intb, o1_abs, o2_add, o2_sub, o2_lt, o2_le, o2_gt, eqD_int, neD_int, asDs_cons, asDs_nil, Option.map_some, bindT_tp, bindTs_cons, bindTs_nil, bindT_nm, isa, onBl_bl, f7, e1, e2]
  | true =>
    rw [ha] at e2
    unfold areB at ha
    split at ha
    · rename_i ns e
      have hw : withinB ws s x = (List.range ws.length).all (nearB ws s ns) := by
        unfold withinB
        rw [e]
        simp only
        rw [ha, Bool.true_and]
      obtain ⟨rfl, hl⟩ := intsT_out e
      have hz := walked_zTL S (ns.map D.int) (rowsD ws s) (by rw [List.length_map, hl, rowsD_len])
      rw [zip_rows hl] at hz
      have ht := turns_mapI (g := ev (callD tab (k + 3)) 38) (elt := .chain .le .le (.var 4) (.var 3) (.o2 .add (.var 4) (.o1 .int (.o2 .gt (.var 5) (.cst (.int 0)))))) (tg := .tp [(.nm 3), (.tp [(.nm 4), (.nm 5)])]) (own := [3, 4, 5]) (ρ := [some (.d (.tup (ws.map natD))), some (.d (.int (s : Int))), some (.d (.tup (ns.map D.int))), none, none, none]) (S := S) (fun i => .tup [.int (ns.getD i 0), rowOf ws.sum s (ws.getD i 0)]) (fun i => .bl (nearB ws s ns i)) (List.range ws.length) [] (fun i hi => by
        refine ⟨[some (.d (.tup (ws.map natD))), some (.d (.int (s : Int))), some (.d (.tup (ns.map D.int))), some (.d (.int (ns.getD i 0))), some (.d (natD (lowN ws.sum s (ws.getD i 0)))), some (.d (natD (rstN ws.sum s (ws.getD i 0))))], by simp [-Option.bind_some, rowOf], ?_⟩
        have hr : decide ((0 : Int) < ((rstN ws.sum s (ws.getD i 0) : Nat) : Int)) = decide (0 < rsts ws s i) := decide_eq_decide.mpr (by unfold rsts; omega)
        unfold nearB
        by_cases h0 : ((lowN ws.sum s (ws.getD i 0) : Nat) : Int) ≤ ns.getD i 0
        · have hd : decide (((lowN ws.sum s (ws.getD i 0) : Nat) : Int) ≤ ns.getD i 0) = true := decide_eq_true h0
          have hif : (if decide (0 < rsts ws s i) = true then (1 : Int) else 0) = if 0 < rsts ws s i then 1 else 0 := by
            by_cases hc : 0 < rsts ws s i <;> simp [hc]
          simp only [List.map_cons, List.map_nil, List.length_cons, List.length_nil, Nat.reduceAdd, Nat.reduceSub, Nat.reduceLT, Nat.zero_add, List.replicate_succ, List.replicate_zero, List.cons_append, List.nil_append, exs_cons, exs_nil, ex_asgN, ex_asgT, ex_ret, ex_ife, ex_expr, ex_for, ex_par, ev_call, ev_callK, ev_o1, ev_o2, ev_var, ev_cst, ev_glob, ev_and, ev_or, ev_not, ev_isa, ev_lc, ev_tup, ev_idxT, ev_idxL, getV_zero, getV_succ, bnd, deref_d, asD_d, asI_int, asL_lst, asT_tup, onSeq_lst, onT_tup, evs_cons, evs_nil, evT_cons, evT_nil, if_true, Bool.false_eq_true, if_false, isTrueD_bl, Bool.not_true, Bool.not_false, and_self, List.set_cons_succ, List.set_cons_zero, thenO_nx, thenO_ret, finish_d, List.take_length, walked_tup, walked_lst, walked_eT, walked_eL, walked_zT, o1_lenT, o1_lenL, o1_tupleL, o1_int, o1_intb, o1_abs, o2_add, o2_sub, o2_lt, o2_le, o2_gt, eqD_int, neD_int, asDs_cons, asDs_nil, Option.map_some, bindT_tp, bindTs_cons, bindTs_nil, bindT_nm, isa, onBl_bl, ev_chain, natD, hd, hr, hif, Bool.true_and]
        · have hd : decide (((lowN ws.sum s (ws.getD i 0) : Nat) : Int) ≤ ns.getD i 0) = false := decide_eq_false h0
          simp only [List.map_cons, List.map_nil, List.length_cons, List.length_nil, Nat.reduceAdd, Nat.reduceSub, Nat.reduceLT, Nat.zero_add, List.replicate_succ, List.replicate_zero, List.cons_append, List.nil_append, exs_cons, exs_nil, ex_asgN, ex_asgT, ex_ret, ex_ife, ex_expr, ex_for, ex_par, ev_call, ev_callK, ev_o1, ev_o2, ev_var, ev_cst, ev_glob, ev_and, ev_or, ev_not, ev_isa, ev_lc, ev_tup, ev_idxT, ev_idxL, getV_zero, getV_succ, bnd, deref_d, asD_d, asI_int, asL_lst, asT_tup, onSeq_lst, onT_tup, evs_cons, evs_nil, evT_cons, evT_nil, if_true, Bool.false_eq_true, if_false, isTrueD_bl, Bool.not_true, Bool.not_false, and_self, List.set_cons_succ, List.set_cons_zero, thenO_nx, thenO_ret, finish_d, List.take_length, walked_tup, walked_lst, walked_eT, walked_eL, walked_zT, o1_lenT, o1_lenL, o1_tupleL, o1_int, o1_intb, o1_abs, o2_add, o2_sub, o2_lt, o2_le, o2_gt, eqD_int, neD_int, asDs_cons, asDs_nil, Option.map_some, bindT_tp, bindTs_cons, bindTs_nil, bindT_nm, isa, onBl_bl, ev_chain, natD, hd, Bool.false_and]) (by simp [-Option.bind_some]; omega)
      rw [List.nil_append] at ht
      have hal := o1_all_map (nearB ws s ns) (List.range ws.length)
      rw [hw]
      simp only [List.map_cons, List.map_nil, List.length_cons, List.length_nil, Nat.reduceAdd, Nat.reduceSub, Nat.reduceLT, Nat.zero_add, List.replicate_succ, List.replicate_zero, List.cons_append, List.nil_append, exs_cons, exs_nil, ex_asgN, ex_asgT, ex_ret, ex_ife, ex_expr, ex_for, ex_par, ev_call, ev_callK, ev_o1, ev_o2, ev_var, ev_cst, ev_glob, ev_and, ev_or, ev_not, ev_isa, ev_lc, ev_tup, ev_idxT, ev_idxL, getV_zero, getV_succ, bnd, deref_d, asD_d, asI_int, asL_lst, asT_tup, onSeq_lst, onT_tup, evs_cons, evs_nil, evT_cons, evT_nil, if_true, Bool.false_eq_true, if_false, isTrueD_bl, Bool.not_true, Bool.not_false, and_self, List.set_cons_succ, List.set_cons_zero, thenO_nx, thenO_ret, finish_d, List.take_length, walked_tup, walked_lst, walked_eT, walked_eL, walked_zT, o1_lenT, o1_lenL, o1_tupleL, o1_int, o1_intb, o1_abs, o2_add, o2_sub, o2_lt, o2_le, o2_gt, eqD_int, neD_int, asDs_cons, asDs_nil, Option.map_some, bindT_tp, bindTs_cons, bindTs_nil, bindT_nm, isa, onBl_bl, f7, e1, e2, e3, hz, ht, hal]
    · cases ha
end K56
end

section
set_option autoImplicit false
set_option linter.all false
set_option maxRecDepth 20000
namespace K56
open PySem DL
theorem sum_ge : ∀ ns : List Int, (∀ x ∈ ns, 0 ≤ x) → 0 ≤ ns.sum ∧ ∀ x ∈ ns, x ≤ ns.sum
  | [], _ => ⟨Int.le_refl _, by simp⟩
  | n :: ns, h => by
    obtain ⟨h1, h2⟩ := sum_ge ns fun x hx => h x (List.mem_cons_of_mem _ hx)
    have h3 := h n List.mem_cons_self
    rw [List.sum_cons]
    refine ⟨by omega, fun x hx => ?_⟩
    rw [List.mem_cons] at hx
    rcases hx with rfl | hx
    · omega
    · have := h2 x hx
      omega
def Fine (x : D) : Prop := ∀ xs, x = .tup xs → ∀ i, D.int i ∈ xs → B 60 i
theorem place_nat {n i : Nat} (h : i < n) : place n (i : Int) = some i := by
  unfold place
  rw [if_pos (by omega), if_pos (by omega), Int.toNat_natCast]
theorem set_snoc (S : Store) (x y : Option (List D)) : (S ++ [x]).set S.length y = S ++ [y] := by simp [-Option.bind_some]
theorem mem_le_sum : ∀ {l : List Nat} {x : Nat}, x ∈ l → x ≤ l.sum
  | [], _, h => by cases h
  | y :: l, x, h => by
    rw [List.sum_cons]
    rw [List.mem_cons] at h
    rcases h with rfl | h
    · omega
    · have := mem_le_sum h
      omega
theorem turns_drawD {C : Call} {f v p : Nat} {elt : Tm} {ρ : DL.Env} (U : D → Prop) (d : Int) (hd : 0 ≤ d) (hv : v < ρ.length)
    (h : ∀ (x : D) (m : Int) (S : Store), Pot m S p → m < 600000 → ∃ w xs, ev C f elt ((ρ.set v none).set v (some (.d x))) S = some (.d w, S.set p (some xs)) ∧ U w ∧ Pot (m + d) (S.set p (some xs)) p) :
    ∀ (l : List D) (acc : List D) (m : Int) (S : Store), Pot m S p → m + d * l.length < 600000 → acc.length + l.length ≤ 10000000 →
    ∃ ws xs, turns (ev C f) elt (.nm v) [] [v] ρ l acc S = some (acc ++ ws, S.set p (some xs)) ∧ ws.length = l.length ∧ (∀ w ∈ ws, U w) ∧ Pot (m + d * l.length) (S.set p (some xs)) p
  | [], acc, m, S, hp, _, _ => by
    obtain ⟨xs, hx⟩ := hp.self
    refine ⟨[], xs, ?_, rfl, by simp [-Option.bind_some], ?_⟩
    · rw [turns_nil, List.append_nil, ← hx]
    · rw [← hx]
      have e : m + d * (([] : List D).length : Int) = m := by simp [-Option.bind_some]
      rw [e]
      exact hp
  | x :: l, acc, m, S, hp, hm, hl => by
    rw [List.length_cons] at hm hl
    have e : d * ((l.length + 1 : Nat) : Int) = d + d * (l.length : Int) := by
      rw [Int.natCast_add, Int.mul_add, Int.add_comm]
      show d * 1 + _ = _
      rw [Int.mul_one]
    have hdl : 0 ≤ d * (l.length : Int) := Int.mul_nonneg hd (by omega)
    rw [e] at hm
    obtain ⟨w, xs, e1, hU, hp1⟩ := h x m S hp (by omega)
    obtain ⟨ws, ys, e2, h1, h2, h3⟩ := turns_drawD U d hd hv h l (acc ++ [w]) (m + d) (S.set p (some xs)) hp1 (by omega) (by rw [List.length_append, List.length_singleton]; omega)
    refine ⟨w :: ws, ys, ?_, by rw [List.length_cons, List.length_cons, h1], ?_, ?_⟩
    · have hb : bindT (.nm v) x (wipe ρ [v]) = some ((ρ.set v none).set v (some (.d x))) := by
        rw [wipe_cons, wipe_nil, bindT_nm, if_pos (by rw [List.length_set]; exact hv)]
      rw [turns_cons, hb, bnd, evT_nil, bnd, if_pos rfl, e1, bnd, asD_d, bnd, if_pos (by omega)]
      rw [e2, List.set_set, List.append_assoc]
      rfl
    · intro z hz
      rw [List.mem_cons] at hz
      rcases hz with rfl | hz
      · exact hU
      · exact h2 z hz
    · rw [List.set_set] at h3
      rw [List.length_cons, e, ← Int.add_assoc]
      exact h3
theorem p9 : o2 .pow (.int 10) (.int 9) = some (.int 1000000000) := by
  have h : powOk 10 9 = true := powOk_of (n := 10) (i := 10) (by unfold B; decide) 9 (by omega)
  rw [o2_pow h]
  rfl
theorem row_atD {l : List Nat} {i : Nat} (h : i < l.length) : atD (l.map natD) (i : Int) = some (natD (l.getD i 0)) := by
  rw [atD_nat (i := i) (by rw [List.length_map]; exact h), List.getElem_map, List.getD_eq_getElem?_getD, List.getElem?_eq_getElem h]
  rfl
theorem ints_nat (l : List Nat) : intsOf (l.map natD) = some (l.map fun x : Nat => (x : Int)) := by
  have : l.map natD = (l.map fun x : Nat => (x : Int)).map D.int := by rw [List.map_map]; rfl
  rw [this, intsOf_map]
end K56
end

section
set_option autoImplicit false
set_option linter.all false
set_option maxRecDepth 20000
namespace K56
open PySem DL
def rowT (l : List Nat) : D := .tup (l.map natD)
def longer (s : Nat) (row : List Nat) : List (List Nat) := (List.range (s - row.sum + 1)).map fun x => row ++ [x]
def grow (s : Nat) (rows : List (List Nat)) : List (List Nat) := rows.flatMap (longer s)
def iterG (s : Nat) : Nat → List (List Nat)
  | 0 => [[]]
  | m + 1 => grow s (iterG s m)
def everyL (n s : Nat) : List (List Nat) := (iterG s n).filter fun r => decide (r.sum = s)
theorem iterG_ok (s : Nat) : ∀ m, ∀ r ∈ iterG s m, r.length = m ∧ r.sum ≤ s
  | 0, r, h => by
    rw [show iterG s 0 = [[]] from rfl, List.mem_singleton] at h
    subst h
    exact ⟨rfl, Nat.zero_le _⟩
  | m + 1, r, h => by
    rw [show iterG s (m + 1) = grow s (iterG s m) from rfl] at h
    unfold grow longer at h
    rw [List.mem_flatMap] at h
    obtain ⟨q, hq, h⟩ := h
    rw [List.mem_map] at h
    obtain ⟨x, hx, rfl⟩ := h
    rw [List.mem_range] at hx
    obtain ⟨h1, h2⟩ := iterG_ok s m q hq
    refine ⟨by simp [h1], ?_⟩
    rw [List.sum_append_nat]
    simp
    omega
theorem iterG_all (s : Nat) : ∀ m (r : List Nat), r.length = m → r.sum ≤ s → r ∈ iterG s m
  | 0, r, h, _ => by
    rw [List.length_eq_zero_iff.mp h]
    exact List.mem_singleton.mpr rfl
  | m + 1, r, h, hs => by
    obtain ⟨q, x, rfl⟩ : ∃ q x, r = q ++ [x] := ⟨r.dropLast, r.getLast (by intro z; rw [z] at h; cases h), (List.dropLast_concat_getLast _).symm⟩
    rw [List.sum_append_nat] at hs
    simp at hs h
    have ih := iterG_all s m q h (by omega)
    show q ++ [x] ∈ grow s (iterG s m)
    unfold grow longer
    rw [List.mem_flatMap]
    exact ⟨q, ih, List.mem_map.mpr ⟨x, List.mem_range.mpr (by omega), rfl⟩⟩
theorem grow_len (s : Nat) : ∀ rows : List (List Nat), (grow s rows).length ≤ rows.length * (s + 1)
  | [] => Nat.zero_le _
  | r :: rows => by
    have ih := grow_len s rows
    unfold grow at *
    rw [List.flatMap_cons, List.length_append, List.length_cons, Nat.succ_mul]
    have : (longer s r).length ≤ s + 1 := by
      unfold longer
      rw [List.length_map, List.length_range]
      omega
    omega
theorem iterG_len (s : Nat) : ∀ m, (iterG s m).length ≤ (s + 1) ^ m
  | 0 => Nat.le_refl _
  | m + 1 => by
    have ih := iterG_len s m
    rw [Nat.pow_succ]
    exact Nat.le_trans (grow_len s _) (Nat.mul_le_mul_right _ ih)
theorem cat1 (row : List Nat) (x : Nat) (h : row.length < 1000) : o2 .catT (rowT row) (.tup [.int (x : Int)]) = some (rowT (row ++ [x])) := by
  show (if fits ((row.map natD).length + 1) = true then _ else _) = _
  rw [if_pos (by unfold fits; exact decide_eq_true (by rw [List.length_map]; omega))]
  unfold rowT
  rw [List.map_append]
  rfl
theorem sumT_row (row : List Nat) : o1 .sumT (rowT row) = some (.int ((row.sum : Nat) : Int)) := o1_sumT_nat row
def inBody : List Stm := [.expr (.ext (.var 4) (.lc (.o2 .catT (.var 5) (.tup [.var 6])) (.nm 6) .rng1 [.o2 .add (.o2 .sub (.var 1) (.o1 .sumT (.var 5))) (.cst (.int 1))] [] [6]))]
theorem in_loop (C : Call) (a : Option E) (s : Nat) (hs : s ≤ 1000) (z2 z3 : Option E) (T : Store) : ∀ (rows acc : List (List Nat)) (z5 : Option E), (∀ r ∈ rows, r.length < 1000 ∧ r.sum ≤ s) → acc.length + rows.length * (s + 1) < 1000000 →
    ∃ z5', forL (ex C 18) (.nm 5) inBody (rows.map rowT) [a, some (.d (.int (s : Int))), z2, z3, some (.r T.length), z5, none] (T ++ [some (acc.map rowT)]) = some (.nx [a, some (.d (.int (s : Int))), z2, z3, some (.r T.length), z5', none], T ++ [some ((acc ++ grow s rows).map rowT)])
  | [], acc, z5, _, _ => ⟨z5, by rw [List.map_nil, forL_nil]; simp [grow]⟩
  | r :: rows, acc, z5, h, hl => by
    obtain ⟨r1, r2⟩ := h r List.mem_cons_self
    rw [List.length_cons, Nat.succ_mul] at hl
    have lr : (longer s r).length ≤ s + 1 := by
      unfold longer
      rw [List.length_map, List.length_range]
      omega
    obtain ⟨z5', ih⟩ := in_loop C a s hs z2 z3 T rows (acc ++ longer s r) (some (.d (rowT r))) (fun x hx => h x (List.mem_cons_of_mem _ hx)) (by rw [List.length_append]; omega)
    refine ⟨z5', ?_⟩
    have en : (s : Int) - ((r.sum : Nat) : Int) + 1 = ((s - r.sum + 1 : Nat) : Int) := by omega
    have hw := walk_N (T ++ [some (acc.map rowT)]) (s - r.sum + 1) (by omega)
    have hf : fits (0 + 1) = true := by decide
    have ht := turns_mapI (g := ev C 38) (elt := .o2 .catT (.var 5) (.tup [.var 6])) (tg := .nm 6) (own := [6]) (ρ := [a, some (.d (.int (s : Int))), z2, z3, some (.r T.length), some (.d (rowT r)), none]) (S := T ++ [some (acc.map rowT)]) natD (fun x => rowT (r ++ [x])) (List.range (s - r.sum + 1)) [] (fun x hx => by
      refine ⟨[a, some (.d (.int (s : Int))), z2, z3, some (.r T.length), some (.d (rowT r)), some (.d (.int (x : Int)))], by simp [-Option.bind_some, natD], ?_⟩
      have hc := cat1 r x r1
      simp only [List.map_cons, List.map_nil, List.length_cons, List.length_nil, Nat.reduceAdd, Nat.reduceSub, Nat.reduceLT, Nat.zero_add, List.replicate_succ, List.replicate_zero, List.cons_append, List.nil_append, exs_cons, exs_nil, ex_asgN, ex_asgT, ex_ret, ex_ife, ex_expr, ex_for, ex_par, ev_call, ev_callK, ev_o1, ev_o2, ev_var, ev_cst, ev_glob, ev_and, ev_or, ev_not, ev_isa, ev_lc, ev_tup, ev_idxT, ev_idxL, getV_zero, getV_succ, bnd, deref_d, asD_d, asI_int, asL_lst, asT_tup, onSeq_lst, onT_tup, evs_cons, evs_nil, evT_cons, evT_nil, if_true, Bool.false_eq_true, if_false, isTrueD_bl, Bool.not_true, Bool.not_false, and_self, List.set_cons_succ, List.set_cons_zero, thenO_nx, thenO_ret, finish_d, List.take_length, walked_tup, walked_lst, walked_eT, walked_eL, walked_zT, o1_lenT, o1_lenL, o1_tupleL, o1_int, o1_intb, o1_abs, o2_add, o2_sub, o2_lt, o2_le, o2_gt, eqD_int, neD_int, asDs_cons, asDs_nil, Option.map_some, bindT_tp, bindTs_cons, bindTs_nil, bindT_nm, isa, onBl_bl, hf, hc]) (by simp [-Option.bind_some]; omega)
    rw [List.nil_append, show ((List.range (s - r.sum + 1)).map fun x => rowT (r ++ [x])) = (longer s r).map rowT from by unfold longer; rw [List.map_map]; rfl] at ht
    have hfit : fits ((acc.map rowT).length + ((longer s r).map rowT).length) = true := by
      unfold fits
      exact decide_eq_true (by rw [List.length_map, List.length_map]; omega)
    have hsum := sumT_row r
    have eg : grow s (r :: rows) = longer s r ++ grow s rows := rfl
    rw [List.map_cons, forL_cons, eg, ← List.append_assoc]
    have st : exs (ex C 18) inBody [a, some (.d (.int (s : Int))), z2, z3, some (.r T.length), some (.d (rowT r)), none] (T ++ [some (acc.map rowT)]) = some (.nx [a, some (.d (.int (s : Int))), z2, z3, some (.r T.length), some (.d (rowT r)), none], T ++ [some ((acc ++ longer s r).map rowT)]) := by
      unfold inBody
      simp only [List.map_cons, List.map_nil, List.length_cons, List.length_nil, Nat.reduceAdd, Nat.reduceSub, Nat.reduceLT, Nat.zero_add, List.replicate_succ, List.replicate_zero, List.cons_append, List.nil_append, exs_cons, exs_nil, ex_asgN, ex_asgT, ex_ret, ex_ife, ex_expr, ex_for, ex_par, ev_call, ev_callK, ev_o1, ev_o2, ev_var, ev_cst, ev_glob, ev_and, ev_or, ev_not, ev_isa, ev_lc, ev_tup, ev_idxT, ev_idxL, getV_zero, getV_succ, bnd, deref_d, asD_d, asI_int, asL_lst, asT_tup, onSeq_lst, onT_tup, evs_cons, evs_nil, evT_cons, evT_nil, if_true, Bool.false_eq_true, if_false, isTrueD_bl, Bool.not_true, Bool.not_false, and_self, List.set_cons_succ, List.set_cons_zero, thenO_nx, thenO_ret, finish_d, List.take_length, walked_tup, walked_lst, walked_eT, walked_eL, walked_zT, o1_lenT, o1_lenL, o1_tupleL, o1_int, o1_intb, o1_abs, o2_add, o2_sub, o2_lt, o2_le, o2_gt, eqD_int, neD_int, asDs_cons, asDs_nil, Option.map_some, bindT_tp, bindTs_cons, bindTs_nil, bindT_nm, isa, onBl_bl, ev_ext, deref_snoc, hsum, en, hw, ht, onR_r, getS_snoc, hfit, set_snoc]
      rw [List.map_append]
    rw [bindT_nm, if_pos (by simp [-Option.bind_some]), bnd]
    simp only [List.set_cons_succ, List.set_cons_zero]
    rw [st, bnd, thenO_nx]
    exact ih
def outBody : List Stm := [.asg (.nm 4) (.new (.lst [])), .for_ (.nm 5) .lst [.var 2] inBody, .frz 4, .asg (.nm 2) (.var 4)]
theorem out_loop (C : Call) (a : Option E) (s : Nat) (hs : s ≤ 9) (S : Store) : ∀ (l : List D) (j : Nat) (n : Nat) (z3 z4 z5 : Option E), j + l.length ≤ 4 →
    ∃ z3' z4' z5', forL (ex C 19) (.nm 3) outBody l [a, some (.d (.int (s : Int))), some (.d (.lst ((iterG s j).map rowT))), z3, z4, z5, none] (S ++ List.replicate n none) = some (.nx [a, some (.d (.int (s : Int))), some (.d (.lst ((iterG s (j + l.length)).map rowT))), z3', z4', z5', none], S ++ List.replicate (n + l.length) none)
  | [], j, n, z3, z4, z5, _ => ⟨z3, z4, z5, rfl⟩
  | x :: l, j, n, z3, z4, z5, hj => by
    rw [List.length_cons] at hj
    have hlen := iterG_len s j
    have hp : (s + 1) ^ j ≤ 10 ^ 4 := Nat.le_trans (Nat.pow_le_pow_left (by omega) j) (Nat.pow_le_pow_right (by decide) (by omega))
    have hmul : (iterG s j).length * (s + 1) ≤ 10 ^ 4 * 10 := Nat.mul_le_mul (by omega) (by omega)
    obtain ⟨z5a, hi⟩ := in_loop C a s (by omega) (some (.d (.lst ((iterG s j).map rowT)))) (some (.d x)) (S ++ List.replicate n none) (iterG s j) [] z5 (fun r hr => by
      obtain ⟨h1, h2⟩ := iterG_ok s j r hr
      exact ⟨by omega, h2⟩) (by rw [List.length_nil]; omega)
    obtain ⟨z3', z4', z5', ih⟩ := out_loop C a s hs S l (j + 1) (n + 1) (some (.d x)) (some (.d (.lst ((iterG s (j + 1)).map rowT)))) z5a (by omega)
    refine ⟨z3', z4', z5', ?_⟩
    rw [List.map_nil, List.nil_append] at hi
    have hf : fits 0 = true := by decide
    have er : S ++ List.replicate n none ++ [none] = S ++ List.replicate (n + 1) (none : Option (List D)) := by
      rw [List.append_assoc, List.replicate_succ']
    have st : exs (ex C 19) outBody [a, some (.d (.int (s : Int))), some (.d (.lst ((iterG s j).map rowT))), some (.d x), z4, z5, none] (S ++ List.replicate n none) = some (.nx [a, some (.d (.int (s : Int))), some (.d (.lst ((iterG s (j + 1)).map rowT))), some (.d x), some (.d (.lst ((iterG s (j + 1)).map rowT))), z5a, none], S ++ List.replicate (n + 1) none) := by
      unfold outBody
      simp only [List.map_cons, List.map_nil, List.length_cons, List.length_nil, Nat.reduceAdd, Nat.reduceSub, Nat.reduceLT, Nat.zero_add, List.replicate_succ, List.replicate_zero, List.cons_append, List.nil_append, exs_cons, exs_nil, ex_asgN, ex_asgT, ex_ret, ex_ife, ex_expr, ex_for, ex_par, ev_call, ev_callK, ev_o1, ev_o2, ev_var, ev_cst, ev_glob, ev_and, ev_or, ev_not, ev_isa, ev_lc, ev_tup, ev_idxT, ev_idxL, getV_zero, getV_succ, bnd, deref_d, asD_d, asI_int, asL_lst, asT_tup, onSeq_lst, onT_tup, evs_cons, evs_nil, evT_cons, evT_nil, if_true, Bool.false_eq_true, if_false, isTrueD_bl, Bool.not_true, Bool.not_false, and_self, List.set_cons_succ, List.set_cons_zero, thenO_nx, thenO_ret, finish_d, List.take_length, walked_tup, walked_lst, walked_eT, walked_eL, walked_zT, o1_lenT, o1_lenL, o1_tupleL, o1_int, o1_intb, o1_abs, o2_add, o2_sub, o2_lt, o2_le, o2_gt, eqD_int, neD_int, asDs_cons, asDs_nil, Option.map_some, bindT_tp, bindTs_cons, bindTs_nil, bindT_nm, isa, onBl_bl, ev_new, ev_lst, hf, onL_lst, hi, ex_frz, onR_r, getS_snoc, set_snoc, er]
      rfl
    rw [forL_cons, bindT_nm, if_pos (by simp [-Option.bind_some]), bnd]
    simp only [List.set_cons_succ, List.set_cons_zero]
    rw [st, bnd, thenO_nx, ih, List.length_cons]
    have e1 : j + 1 + l.length = j + (l.length + 1) := by omega
    have e2 : n + 1 + l.length = n + (l.length + 1) := by omega
    rw [e1, e2]
theorem r_all_seats (k : Nat) (n s : Nat) (hn : n ≤ 4) (hs : s ≤ 9) (S : Store) : callD tab (k + 1) 19 [.d (.int (n : Int)), .d (.int (s : Int))] S = some (.d (.lst ((everyL n s).map rowT)), S) := by
  rw [callD_run (fn := f19) rfl rfl]
  obtain ⟨z3, z4, z5, ho⟩ := out_loop (callD tab k) (some (.d (.int (n : Int)))) s hs S ((List.range n).map natD) 0 0 none none none (by rw [List.length_map, List.length_range]; omega)
  rw [List.length_map, List.length_range, Nat.zero_add, List.replicate_zero, List.append_nil] at ho
  have hlen := iterG_len s n
  have hp : (s + 1) ^ n ≤ 10 ^ 4 := Nat.le_trans (Nat.pow_le_pow_left (by omega) n) (Nat.pow_le_pow_right (by decide) (by omega))
  have ht := turns_selI (g := ev (callD tab k) 39) (elt := .var 5) (tg := .nm 5) (ifs := [.o2 .eq (.o1 .sumT (.var 5)) (.var 1)]) (own := [5]) (ρ := [some (.d (.int (n : Int))), some (.d (.int (s : Int))), some (.d (.lst ((iterG s n).map rowT))), z3, z4, z5, none]) (S := S ++ List.replicate n none) rowT rowT (fun r => decide (r.sum = s)) (iterG s n) [] (fun r hr => by
    refine ⟨[some (.d (.int (n : Int))), some (.d (.int (s : Int))), some (.d (.lst ((iterG s n).map rowT))), z3, z4, some (.d (rowT r)), none], by simp [-Option.bind_some], ?_, fun _ => ?_⟩
    · have hsum := sumT_row r
      have hd : decide (((r.sum : Nat) : Int) = (s : Int)) = decide (r.sum = s) := decide_eq_decide.mpr (by omega)
      simp only [List.map_cons, List.map_nil, List.length_cons, List.length_nil, Nat.reduceAdd, Nat.reduceSub, Nat.reduceLT, Nat.zero_add, List.replicate_succ, List.replicate_zero, List.cons_append, List.nil_append, exs_cons, exs_nil, ex_asgN, ex_asgT, ex_ret, ex_ife, ex_expr, ex_for, ex_par, ev_call, ev_callK, ev_o1, ev_o2, ev_var, ev_cst, ev_glob, ev_and, ev_or, ev_not, ev_isa, ev_lc, ev_tup, ev_idxT, ev_idxL, getV_zero, getV_succ, bnd, deref_d, asD_d, asI_int, asL_lst, asT_tup, onSeq_lst, onT_tup, evs_cons, evs_nil, evT_cons, evT_nil, if_true, Bool.false_eq_true, if_false, isTrueD_bl, Bool.not_true, Bool.not_false, and_self, List.set_cons_succ, List.set_cons_zero, thenO_nx, thenO_ret, finish_d, List.take_length, walked_tup, walked_lst, walked_eT, walked_eL, walked_zT, o1_lenT, o1_lenL, o1_tupleL, o1_int, o1_intb, o1_abs, o2_add, o2_sub, o2_lt, o2_le, o2_gt, eqD_int, neD_int, asDs_cons, asDs_nil, Option.map_some, bindT_tp, bindTs_cons, bindTs_nil, bindT_nm, isa, onBl_bl, hsum, hd]
      cases decide (r.sum = s) <;> rfl
    · simp only [List.map_cons, List.map_nil, List.length_cons, List.length_nil, Nat.reduceAdd, Nat.reduceSub, Nat.reduceLT, Nat.zero_add, List.replicate_succ, List.replicate_zero, List.cons_append, List.nil_append, exs_cons, exs_nil, ex_asgN, ex_asgT, ex_ret, ex_ife, ex_expr, ex_for, ex_par, ev_call, ev_callK, ev_o1, ev_o2, ev_var, ev_cst, ev_glob, ev_and, ev_or, ev_not, ev_isa, ev_lc, ev_tup, ev_idxT, ev_idxL, getV_zero, getV_succ, bnd, deref_d, asD_d, asI_int, asL_lst, asT_tup, onSeq_lst, onT_tup, evs_cons, evs_nil, evT_cons, evT_nil, if_true, Bool.false_eq_true, if_false, isTrueD_bl, Bool.not_true, Bool.not_false, and_self, List.set_cons_succ, List.set_cons_zero, thenO_nx, thenO_ret, finish_d, List.take_length, walked_tup, walked_lst, walked_eT, walked_eL, walked_zT, o1_lenT, o1_lenL, o1_tupleL, o1_int, o1_intb, o1_abs, o2_add, o2_sub, o2_lt, o2_le, o2_gt, eqD_int, neD_int, asDs_cons, asDs_nil, Option.map_some, bindT_tp, bindTs_cons, bindTs_nil, bindT_nm, isa, onBl_bl]) (by rw [List.length_nil]; omega)
  rw [List.nil_append] at ht
  have hf : fits 0 = true := by decide
  have hf1 : fits 1 = true := by decide
  have hw := walk_N S n (by omega)
  unfold outBody inBody at ho
  have e0 : D.lst [D.tup []] = .lst ((iterG s 0).map rowT) := rfl
  simp only [List.map_cons, List.map_nil, List.length_cons, List.length_nil, Nat.reduceAdd, Nat.reduceSub, Nat.reduceLT, Nat.zero_add, List.replicate_succ, List.replicate_zero, List.cons_append, List.nil_append, exs_cons, exs_nil, ex_asgN, ex_asgT, ex_ret, ex_ife, ex_expr, ex_for, ex_par, ev_call, ev_callK, ev_o1, ev_o2, ev_var, ev_cst, ev_glob, ev_and, ev_or, ev_not, ev_isa, ev_lc, ev_tup, ev_idxT, ev_idxL, getV_zero, getV_succ, bnd, deref_d, asD_d, asI_int, asL_lst, asT_tup, onSeq_lst, onT_tup, evs_cons, evs_nil, evT_cons, evT_nil, if_true, Bool.false_eq_true, if_false, isTrueD_bl, Bool.not_true, Bool.not_false, and_self, List.set_cons_succ, List.set_cons_zero, thenO_nx, thenO_ret, finish_d, List.take_length, walked_tup, walked_lst, walked_eT, walked_eL, walked_zT, o1_lenT, o1_lenL, o1_tupleL, o1_int, o1_intb, o1_abs, o2_add, o2_sub, o2_lt, o2_le, o2_gt, eqD_int, neD_int, asDs_cons, asDs_nil, Option.map_some, bindT_tp, bindTs_cons, bindTs_nil, bindT_nm, isa, onBl_bl, f19, ev_lst, hf, hf1, e0, hw, ho, ht, List.take_left]
  rfl
end K56
end

section
set_option autoImplicit false
set_option linter.all false
set_option maxRecDepth 20000
namespace K56
open PySem DL
theorem o2_cat (xs ys : List D) (h : xs.length + ys.length ≤ 10000000) : o2 .catT (.tup xs) (.tup ys) = some (.tup (xs ++ ys)) := by
  show (if fits (xs.length + ys.length) = true then _ else _) = _
  rw [if_pos (by unfold fits; exact decide_eq_true h)]
theorem o1_str_small (z : Int) (hz : z.natAbs < 1000000) : o1 .str (.int z) = some (.str (toString z)) := by
  have h : z.natAbs.log2 < 1920 := by
    by_cases h0 : z.natAbs = 0
    · rw [h0]
      decide
    · exact Nat.lt_of_lt_of_le ((Nat.log2_lt h0 (k := 20)).mpr (by omega)) (by decide)
  show (if decide (z.natAbs.log2 < 1920) = true then some (D.str (toString z)) else none) = _
  rw [if_pos (decide_eq_true h)]
def Ok1 (d : D) : Prop := ∀ i, d = .int i → B 60 i
theorem r_of (k : Nat) {n : Int} {S : Store} {p : Nat} (ds : List D) (h : Pot n S p) (hn : n < 900000) (hu : 0 < ds.length ∧ ds.length < 100000) :
    ∃ d xs, callD tab (k + 2) 14 [.r p, .d (.lst ds)] S = some (.d d, S.set p (some xs)) ∧ d ∈ ds ∧ Pot (n + 1) (S.set p (some xs)) p := g_of takes rfl k ds h hn hu
theorem r_bent_int (k : Nat) {n : Int} {S : Store} {p : Nat} (z : Int) (hz : z.natAbs < 1000000) (h : Pot n S p) (hn : n < 800000) :
    ∃ d xs, callD tab (k + 3) 16 [.r p, .d (.int z)] S = some (.d d, S.set p (some xs)) ∧ Ok1 d ∧ Pot (n + 5) (S.set p (some xs)) p := by
  obtain ⟨d, xs, e, hd, h3⟩ := r_of k [.int (z + 1), .int (z - 1), .int (0 - z), .bl (decide (z = 1)), .non, .str (toString z), .tup [.int z], .int 99, .int 100] h (by omega) (by simp [-Option.bind_some])
  refine ⟨d, xs, ?_, ?_, h3.mono (by omega)⟩
  · rw [callD_run (fn := f16) rfl rfl]
    have hs := o1_str_small z hz
    have hf : fits 1 = true := by decide
    have hf9 : fits 9 = true := by decide
    simp only [List.map_cons, List.map_nil, List.length_cons, List.length_nil, Nat.reduceAdd, Nat.reduceSub, Nat.reduceLT, Nat.zero_add, List.replicate_succ, List.replicate_zero, List.cons_append, List.nil_append, exs_cons, exs_nil, ex_asgN, ex_asgT, ex_ret, ex_ife, ex_expr, ex_for, ex_par, ev_call, ev_callK, ev_o1, ev_o2, ev_var, ev_cst, ev_glob, ev_and, ev_or, ev_not, ev_isa, ev_lc, ev_tup, ev_idxT, ev_idxL, getV_zero, getV_succ, bnd, deref_d, asD_d, asI_int, asL_lst, asT_tup, onSeq_lst, onT_tup, evs_cons, evs_nil, evT_cons, evT_nil, if_true, Bool.false_eq_true, if_false, isTrueD_bl, Bool.not_true, Bool.not_false, and_self, List.set_cons_succ, List.set_cons_zero, thenO_nx, thenO_ret, finish_d, List.take_length, walked_tup, walked_lst, walked_eT, walked_eL, walked_zT, o1_lenT, o1_lenL, o1_tupleL, o1_int, o1_intb, o1_abs, o2_add, o2_sub, o2_lt, o2_le, o2_gt, eqD_int, neD_int, asDs_cons, asDs_nil, Option.map_some, bindT_tp, bindTs_cons, bindTs_nil, bindT_nm, isa, onBl_bl, f16, DL.isa, hs, ev_lst, hf, hf9, e, take_set_len]
  · intro i hi
    subst hi
    simp only [List.mem_cons, List.not_mem_nil, or_false] at hd
    rcases hd with h | h | h | h | h | h | h | h | h <;> first | (cases h; unfold B; omega) | cases h
theorem nats_ok : ∀ t : List Nat, D.flats (t.map natD) = true ∧ PyData.canLayAll0 (D.pys (t.map natD)) = true ∧ PyData.depthAll (D.pys (t.map natD)) = 0
  | [] => ⟨rfl, rfl, rfl⟩
  | x :: t => by
    obtain ⟨h1, h2, h3⟩ := nats_ok t
    refine ⟨?_, ?_, ?_⟩
    · simp only [List.map_cons, natD, D.flats, D.flat, Bool.true_and]
      exact h1
    · simp only [List.map_cons, natD, D.pys, D.py, PyData.canLayAll0, PyData.canLay0, Bool.true_and]
      exact h2
    · simp only [List.map_cons, natD, D.pys, D.py, PyData.depthAll, PyData.depth]
      have h4 : PyData.depthAll (D.pys (t.map fun w : Nat => D.int (w : Int))) = 0 := h3
      omega
theorem eqOk_row (t : List Nat) : eqOk (.tup (t.map natD)) = true := by
  obtain ⟨h1, h2, h3⟩ := nats_ok t
  have h4 : PyData.depthAll (D.pys (t.map natD)) + 1 ≤ 64 := by omega
  simp only [eqOk, SeqAt.shaped, D.flat, D.py, PyData.canLay0, PyData.depth, h1, h2, h4, decide_true, Bool.and_true]
theorem ne_nil (t : List Nat) (h : t ≠ []) : o2 .ne (.tup (t.map natD)) (.tup []) = some (.bl true) := by
  have h1 : eqOk (.tup (t.map natD)) = true := eqOk_row t
  have h2 : eqOk (.tup []) = true := by decide +kernel
  show (if (eqOk (.tup (t.map natD)) && eqOk (.tup [])) = true then some (D.bl (!eqD (.tup (t.map natD)) (.tup []))) else none) = _
  rw [h1, h2]
  cases t with
  | nil => exact absurd rfl h
  | cons x t =>
    have h3 : eqD (.tup ((x :: t).map natD)) (.tup []) = false := by simp [eqD, D.py, D.pys, PyData.eqv, PyData.eqvAll]
    rw [h3]
    rfl
theorem bind_cons (g : Ev) (t : Tm) (ts : List Tm) (ρ : DL.Env) (S : Store) : evs g (t :: ts) ρ S = (g t ρ S).bind fun p => (evs g ts ρ p.2).bind fun q => some (p.1 :: q.1, q.2) := rfl
theorem fine_tup {xs : List D} (h : ∀ x ∈ xs, Ok1 x) : Fine (.tup xs) := by
  intro ys e i hi
  cases e
  exact h _ hi i rfl
theorem ok_nat {x : Nat} (h : x ≤ 1000) : Ok1 (natD x) := by
  intro i hi
  cases hi
  unfold B
  omega
theorem r_bent (k : Nat) {n : Int} {S : Store} {p : Nat} (t : List Nat) (h0 : t ≠ []) (ht : t.length ≤ 100) (hx : ∀ x ∈ t, x ≤ 1000) (h : Pot n S p) (hn : n < 700000) :
    ∃ d xs, callD tab (k + 4) 16 [.r p, .d (.tup (t.map natD))] S = some (.d d, S.set p (some xs)) ∧ Fine d ∧ Pot (n + 20) (S.set p (some xs)) p := by
  obtain ⟨r, xs, e1, r0, r1, p1⟩ := takes (k + 2) 5 h (by omega) (by omega)
  have hne := ne_nil t h0
  have hf0 : fits 0 = true := by decide
  have hf1 : fits 1 = true := by decide
  have hl0 : 0 < t.length := by
    cases t with
    | nil => exact absurd rfl h0
    | cons _ _ => exact Nat.succ_pos _
  by_cases hr : 0 < r
  · obtain ⟨w, ys, e2, w0, w1, p2⟩ := takes (k + 2) 8 p1 (by omega) (by omega)
    obtain ⟨a, zs, e3, a0, a1, p3⟩ := takes (k + 2) (t.length : Int) p2 (by omega) (by omega)
    obtain ⟨a, rfl⟩ : ∃ m : Nat, a = (m : Int) := ⟨a.toNat, by omega⟩
    have ha : a < t.length := by omega
    simp only [List.set_set] at e2 e3 p2 p3
    have hd : decide (0 < r) = true := decide_eq_true hr
    have c1 : cutD (t.map natD) none (some (a : Int)) = (t.take a).map natD := by rw [cut_hi, List.map_take]
    have ea1 : (a : Int) + 1 = ((a + 1 : Nat) : Int) := by omega
    have c2 : cutD (t.map natD) (some ((a + 1 : Nat) : Int)) none = (t.drop (a + 1)).map natD := by rw [cut_lo, List.map_drop]
    have c3 : cutD (t.map natD) none (some ((a + 1 : Nat) : Int)) = (t.take (a + 1)).map natD := by rw [cut_hi, List.map_take]
    have c4 : cutD (t.map natD) (some (a : Int)) none = (t.drop a).map natD := by rw [cut_lo, List.map_drop]
    have mt : ∀ (l : List Nat), (∀ x ∈ l, x ∈ t) → ∀ x ∈ l.map natD, Ok1 x := fun l hl x hx' => by
      rw [List.mem_map] at hx'
      obtain ⟨y, hy, rfl⟩ := hx'
      exact ok_nat (hx y (hl y hy))
    by_cases hw : w < 4
    · have hdw : decide (w < 4) = true := decide_eq_true hw
      have ga : atD (t.map natD) (a : Int) = some (.int ((t[a] : Nat) : Int)) := by
        rw [atD_nat (i := a) (by rw [List.length_map]; exact ha), List.getElem_map]
        rfl
      have hta := hx t[a] (List.getElem_mem _)
      obtain ⟨d, us, e4, hd1, p4⟩ := r_bent_int k ((t[a] : Nat) : Int) (by omega) p3 (by omega)
      simp only [List.set_set] at e4 p4
      have k1 := o2_cat ((t.take a).map natD) [d] (by rw [List.length_map, List.length_take, List.length_singleton]; omega)
      have k2 := o2_cat ((t.take a).map natD ++ [d]) ((t.drop (a + 1)).map natD) (by rw [List.length_append, List.length_map, List.length_take, List.length_singleton, List.length_map, List.length_drop]; omega)
      refine ⟨.tup ((t.take a).map natD ++ [d] ++ (t.drop (a + 1)).map natD), us, ?_, ?_, p4.mono (by omega)⟩
      · rw [callD_run (fn := f16) rfl rfl]
        simp only [List.map_cons, List.map_nil, List.length_cons, List.length_nil, Nat.reduceAdd, Nat.reduceSub, Nat.reduceLT, Nat.zero_add, List.replicate_succ, List.replicate_zero, List.cons_append, List.nil_append, exs_cons, exs_nil, ex_asgN, ex_asgT, ex_ret, ex_ife, ex_expr, ex_for, ex_par, ev_call, ev_callK, ev_o1, ev_o2, ev_var, ev_cst, ev_glob, ev_and, ev_or, ev_not, ev_isa, ev_lc, ev_tup, ev_idxT, ev_idxL, getV_zero, getV_succ, bnd, deref_d, asD_d, asI_int, asL_lst, asT_tup, onSeq_lst, onT_tup, evs_cons, evs_nil, evT_cons, evT_nil, if_true, Bool.false_eq_true, if_false, isTrueD_bl, Bool.not_true, Bool.not_false, and_self, List.set_cons_succ, List.set_cons_zero, thenO_nx, thenO_ret, finish_d, List.take_length, walked_tup, walked_lst, walked_eT, walked_eL, walked_zT, o1_lenT, o1_lenL, o1_tupleL, o1_int, o1_intb, o1_abs, o2_add, o2_sub, o2_lt, o2_le, o2_gt, eqD_int, neD_int, asDs_cons, asDs_nil, Option.map_some, bindT_tp, bindTs_cons, bindTs_nil, bindT_nm, isa, onBl_bl, f16, DL.isa, hne, hf0, hf1, e1, hd, List.length_map, e2, e3, hdw, ev_slT, evO_none, evO_some, c1, ga, e4, k1, ea1, c2, k2, take_set_len]
      · refine fine_tup fun x hx' => ?_
        rw [List.mem_append, List.mem_append, List.mem_singleton] at hx'
        rcases hx' with (hx' | rfl) | hx'
        · exact mt _ (fun y hy => List.mem_of_mem_take hy) x hx'
        · exact hd1
        · exact mt _ (fun y hy => List.mem_of_mem_drop hy) x hx'
    · have hdw : decide (w < 4) = false := decide_eq_false hw
      have k1 := o2_cat ((t.take a).map natD) ((t.drop (a + 1)).map natD) (by rw [List.length_map, List.length_take, List.length_map, List.length_drop]; omega)
      have k2 := o2_cat ((t.take (a + 1)).map natD) ((t.drop a).map natD) (by rw [List.length_map, List.length_take, List.length_map, List.length_drop]; omega)
      have hf4 : fits 4 = true := by decide
      have hlt : o1 .listT (.tup (t.map natD)) = some (.lst (t.map natD)) := rfl
      obtain ⟨d, hd2, hd3⟩ : ∃ d, atD [D.tup ((t.take a).map natD ++ (t.drop (a + 1)).map natD), .tup ((t.take (a + 1)).map natD ++ (t.drop a).map natD), .tup (t.map natD).reverse, .lst (t.map natD)] (w - 4) = some d ∧ Fine d := by
        have h4 : w = 4 ∨ w = 5 ∨ w = 6 ∨ w = 7 := by omega
        have f1 : Fine (.tup ((t.take a).map natD ++ (t.drop (a + 1)).map natD)) := fine_tup fun x hx' => by
          rw [List.mem_append] at hx'
          rcases hx' with hx' | hx'
          · exact mt _ (fun y hy => List.mem_of_mem_take hy) x hx'
          · exact mt _ (fun y hy => List.mem_of_mem_drop hy) x hx'
        have f2 : Fine (.tup ((t.take (a + 1)).map natD ++ (t.drop a).map natD)) := fine_tup fun x hx' => by
          rw [List.mem_append] at hx'
          rcases hx' with hx' | hx'
          · exact mt _ (fun y hy => List.mem_of_mem_take hy) x hx'
          · exact mt _ (fun y hy => List.mem_of_mem_drop hy) x hx'
        have f3 : Fine (.tup (t.map natD).reverse) := fine_tup fun x hx' => by
          rw [List.mem_reverse] at hx'
          exact mt t (fun _ h => h) x hx'
        have f4 : Fine (.lst (t.map natD)) := fun ys e => by cases e
        rcases h4 with rfl | rfl | rfl | rfl
        · exact ⟨_, rfl, f1⟩
        · exact ⟨_, rfl, f2⟩
        · exact ⟨_, rfl, f3⟩
        · exact ⟨_, rfl, f4⟩
      refine ⟨d, zs, ?_, hd3, p3.mono (by omega)⟩
      rw [callD_run (fn := f16) rfl rfl]
      simp only [List.map_cons, List.map_nil, List.length_cons, List.length_nil, Nat.reduceAdd, Nat.reduceSub, Nat.reduceLT, Nat.zero_add, List.replicate_succ, List.replicate_zero, List.cons_append, List.nil_append, exs_cons, exs_nil, ex_asgN, ex_asgT, ex_ret, ex_ife, ex_expr, ex_for, ex_par, ev_call, ev_callK, ev_o1, ev_o2, ev_var, ev_cst, ev_glob, ev_and, ev_or, ev_not, ev_isa, ev_lc, ev_tup, ev_idxT, ev_idxL, getV_zero, getV_succ, bnd, deref_d, asD_d, asI_int, asL_lst, asT_tup, onSeq_lst, onT_tup, evs_cons, evs_nil, evT_cons, evT_nil, if_true, Bool.false_eq_true, if_false, isTrueD_bl, Bool.not_true, Bool.not_false, and_self, List.set_cons_succ, List.set_cons_zero, thenO_nx, thenO_ret, finish_d, List.take_length, walked_tup, walked_lst, walked_eT, walked_eL, walked_zT, o1_lenT, o1_lenL, o1_tupleL, o1_int, o1_intb, o1_abs, o2_add, o2_sub, o2_lt, o2_le, o2_gt, eqD_int, neD_int, asDs_cons, asDs_nil, Option.map_some, bindT_tp, bindTs_cons, bindTs_nil, bindT_nm, isa, onBl_bl, f16, DL.isa, hne, hf0, hf1, e1, hd, List.length_map, e2, e3, hdw, ev_slT, evO_none, evO_some, c1, ea1, c2, c3, c4, k1, k2, ev_lst, ev_revT, hlt, hf4, hd2, take_set_len]
  · have hd : decide (0 < r) = false := decide_eq_false hr
    obtain ⟨d, ys, e2, hm, p2⟩ := r_of (k + 1) [.str "down", .str "up", .str "a", .str "b", .str "c", .str "", .non, .tup [], .lst [], .int 0, .dct []] p1 (by omega) (by simp [-Option.bind_some])
    simp only [List.set_set] at e2 p2
    refine ⟨d, ys, ?_, ?_, p2.mono (by omega)⟩
    · rw [callD_run (fn := f16) rfl rfl]
      have hf11 : fits 11 = true := by decide
      simp only [List.map_cons, List.map_nil, List.length_cons, List.length_nil, Nat.reduceAdd, Nat.reduceSub, Nat.reduceLT, Nat.zero_add, List.replicate_succ, List.replicate_zero, List.cons_append, List.nil_append, exs_cons, exs_nil, ex_asgN, ex_asgT, ex_ret, ex_ife, ex_expr, ex_for, ex_par, ev_call, ev_callK, ev_o1, ev_o2, ev_var, ev_cst, ev_glob, ev_and, ev_or, ev_not, ev_isa, ev_lc, ev_tup, ev_idxT, ev_idxL, getV_zero, getV_succ, bnd, deref_d, asD_d, asI_int, asL_lst, asT_tup, onSeq_lst, onT_tup, evs_cons, evs_nil, evT_cons, evT_nil, if_true, Bool.false_eq_true, if_false, isTrueD_bl, Bool.not_true, Bool.not_false, and_self, List.set_cons_succ, List.set_cons_zero, thenO_nx, thenO_ret, finish_d, List.take_length, walked_tup, walked_lst, walked_eT, walked_eL, walked_zT, o1_lenT, o1_lenL, o1_tupleL, o1_int, o1_intb, o1_abs, o2_add, o2_sub, o2_lt, o2_le, o2_gt, eqD_int, neD_int, asDs_cons, asDs_nil, Option.map_some, bindT_tp, bindTs_cons, bindTs_nil, bindT_nm, isa, onBl_bl, f16, DL.isa, hne, hf0, hf1, e1, hd, ev_lst, ev_dnew, hf11, e2, take_set_len]
    · intro xs' ex i hi
      subst ex
      simp only [List.mem_cons, List.not_mem_nil, or_false] at hm
      rcases hm with h | h | h | h | h | h | h | h | h | h | h <;> cases h
      cases hi
end K56
end

section
set_option autoImplicit false
set_option linter.all false
set_option maxRecDepth 20000
/-! k56: steps. -/
namespace K56
open PySem DL
def kD (κ : Kd) : D := .str (strOf κ)
theorem kd_notin (κ : Kd) : o2 .notIn (kD κ) (.tup [.str "down", .str "half", .str "up"]) = some (.bl false) := by
  show ((items (.tup [.str "down", .str "half", .str "up"])).bind fun ys => if memOk (kD κ) ys = true then some (D.bl (!memD (kD κ) ys)) else none) = _
  have h1 : memOk (kD κ) [.str "down", .str "half", .str "up"] = true := by cases κ <;> decide +kernel
  have h2 : memD (kD κ) [.str "down", .str "half", .str "up"] = true := by cases κ <;> decide +kernel
  show (if memOk (kD κ) [.str "down", .str "half", .str "up"] = true then some (D.bl (!memD (kD κ) [.str "down", .str "half", .str "up"])) else none) = _
  rw [if_pos h1, h2]
  rfl
theorem kd_half (κ : Kd) : o2 .eq (kD κ) (.str "half") = some (.bl (decide (κ = .half))) := by
  rw [o2_eq_of (by cases κ <;> decide +kernel) (by decide +kernel), show eqD (kD κ) (.str "half") = decide (κ = .half) from by cases κ <;> decide +kernel]
theorem kd_down (κ : Kd) : o2 .eq (kD κ) (.str "down") = some (.bl (decide (κ = .down))) := by
  rw [o2_eq_of (by cases κ <;> decide +kernel) (by decide +kernel), show eqD (kD κ) (.str "down") = decide (κ = .down) from by cases κ <;> decide +kernel]
theorem kd_up (κ : Kd) : o2 .eq (kD κ) (.str "up") = some (.bl (decide (κ = .up))) := by
  rw [o2_eq_of (by cases κ <;> decide +kernel) (by decide +kernel), show eqD (kD κ) (.str "up") = decide (κ = .up) from by cases κ <;> decide +kernel]
theorem r_check_steps (k : Nat) {ws : List Nat} (v : Votes ws) (s : Nat) (hs : s ≤ 500) (κ : Kd) (S : Store) : callD tab (k + 4) 8 [.d (.tup (ws.map natD)), .d (.int (s : Int)), .d (kD κ)] S = some (.d .non, S) := by
  rw [callD_run (fn := f8) rfl rfl]
  have e1 := r_check k v s hs S
  have hn := kd_notin κ
  have h3 : fits 3 = true := by decide
  unfold kD at hn
  unfold kD
  simp only [List.map_cons, List.map_nil, List.length_cons, List.length_nil, Nat.reduceAdd, Nat.reduceSub, Nat.reduceLT, Nat.zero_add, List.replicate_succ, List.replicate_zero, List.cons_append, List.nil_append, exs_cons, exs_nil, ex_asgN, ex_asgT, ex_ret, ex_ife, ex_expr, ex_for, ex_par, ev_call, ev_callK, ev_o1, ev_o2, ev_var, ev_cst, ev_glob, ev_and, ev_or, ev_not, ev_isa, ev_lc, ev_tup, ev_idxT, ev_idxL, getV_zero, getV_succ, bnd, deref_d, asD_d, asI_int, asL_lst, asT_tup, onSeq_lst, onT_tup, evs_cons, evs_nil, evT_cons, evT_nil, if_true, Bool.false_eq_true, if_false, isTrueD_bl, Bool.not_true, Bool.not_false, and_self, List.set_cons_succ, List.set_cons_zero, thenO_nx, thenO_ret, finish_d, List.take_length, walked_tup, walked_lst, walked_eT, walked_eL, walked_zT, o1_lenT, o1_lenL, o1_tupleL, o1_int, o1_intb, o1_abs, o2_add, o2_sub, o2_lt, o2_le, o2_gt, eqD_int, neD_int, asDs_cons, asDs_nil, Option.map_some, bindT_tp, bindTs_cons, bindTs_nil, bindT_nm, isa, onBl_bl, f8, e1, h3, hn]
theorem r_step (k : Nat) (κ : Kd) (a : Nat) (ha : a < 1000000) (S : Store) : callD tab (k + 1) 9 [.d (kD κ), .d (.int (a : Int))] S = some (.d (.int ((dOf κ a : Nat) : Int)), S) := by
  rw [callD_run (fn := f9) rfl rfl]
  have m1 : mulOk 2 (a : Int) = true := mulOk_of (n := 10) (m := 40) (by unfold B; decide) (by unfold B; omega) (by omega)
  have q1 := kd_half κ
  have q2 := kd_down κ
  have e1 : (2 : Int) * (a : Int) + 1 = ((dHalf a : Nat) : Int) := by unfold dHalf; omega
  have e2 : (a : Int) + 1 = ((dDown a : Nat) : Int) := by unfold dDown; omega
  cases κ with
  | half => simp only [List.map_cons, List.map_nil, List.length_cons, List.length_nil, Nat.reduceAdd, Nat.reduceSub, Nat.reduceLT, Nat.zero_add, List.replicate_succ, List.replicate_zero, List.cons_append, List.nil_append, exs_cons, exs_nil, ex_asgN, ex_asgT, ex_ret, ex_ife, ex_expr, ex_for, ex_par, ev_call, ev_callK, ev_o1, ev_o2, ev_var, ev_cst, ev_glob, ev_and, ev_or, ev_not, ev_isa, ev_lc, ev_tup, ev_idxT, ev_idxL, getV_zero, getV_succ, bnd, deref_d, asD_d, asI_int, asL_lst, asT_tup, onSeq_lst, onT_tup, evs_cons, evs_nil, evT_cons, evT_nil, if_true, Bool.false_eq_true, if_false, isTrueD_bl, Bool.not_true, Bool.not_false, and_self, List.set_cons_succ, List.set_cons_zero, thenO_nx, thenO_ret, finish_d, List.take_length, walked_tup, walked_lst, walked_eT, walked_eL, walked_zT, o1_lenT, o1_lenL, o1_tupleL, o1_int, o1_intb, o1_abs, o2_add, o2_sub, o2_lt, o2_le, o2_gt, eqD_int, neD_int, asDs_cons, asDs_nil, Option.map_some, bindT_tp, bindTs_cons, bindTs_nil, bindT_nm, isa, onBl_bl, f9, q1, o2_mul m1, e1, decide_true, dOf]
  | down =>
    have d1 : decide (Kd.down = Kd.half) = false := rfl
    simp only [List.map_cons, List.map_nil, List.length_cons, List.length_nil, Nat.reduceAdd, Nat.reduceSub, Nat.reduceLT, Nat.zero_add, List.replicate_succ, List.replicate_zero, List.cons_append, List.nil_append, exs_cons, exs_nil, ex_asgN, ex_asgT, ex_ret, ex_ife, ex_expr, ex_for, ex_par, ev_call, ev_callK, ev_o1, ev_o2, ev_var, ev_cst, ev_glob, ev_and, ev_or, ev_not, ev_isa, ev_lc, ev_tup, ev_idxT, ev_idxL, getV_zero, getV_succ, bnd, deref_d, asD_d, asI_int, asL_lst, asT_tup, onSeq_lst, onT_tup, evs_cons, evs_nil, evT_cons, evT_nil, if_true, Bool.false_eq_true, if_false, isTrueD_bl, Bool.not_true, Bool.not_false, and_self, List.set_cons_succ, List.set_cons_zero, thenO_nx, thenO_ret, finish_d, List.take_length, walked_tup, walked_lst, walked_eT, walked_eL, walked_zT, o1_lenT, o1_lenL, o1_tupleL, o1_int, o1_intb, o1_abs, o2_add, o2_sub, o2_lt, o2_le, o2_gt, eqD_int, neD_int, asDs_cons, asDs_nil, Option.map_some, bindT_tp, bindTs_cons, bindTs_nil, bindT_nm, isa, onBl_bl, f9, q1, q2, d1, decide_true, e2, ev_ite, dOf]
  | up =>
    have d1 : decide (Kd.up = Kd.half) = false := rfl
    have d2 : decide (Kd.up = Kd.down) = false := rfl
    simp only [List.map_cons, List.map_nil, List.length_cons, List.length_nil, Nat.reduceAdd, Nat.reduceSub, Nat.reduceLT, Nat.zero_add, List.replicate_succ, List.replicate_zero, List.cons_append, List.nil_append, exs_cons, exs_nil, ex_asgN, ex_asgT, ex_ret, ex_ife, ex_expr, ex_for, ex_par, ev_call, ev_callK, ev_o1, ev_o2, ev_var, ev_cst, ev_glob, ev_and, ev_or, ev_not, ev_isa, ev_lc, ev_tup, ev_idxT, ev_idxL, getV_zero, getV_succ, bnd, deref_d, asD_d, asI_int, asL_lst, asT_tup, onSeq_lst, onT_tup, evs_cons, evs_nil, evT_cons, evT_nil, if_true, Bool.false_eq_true, if_false, isTrueD_bl, Bool.not_true, Bool.not_false, and_self, List.set_cons_succ, List.set_cons_zero, thenO_nx, thenO_ret, finish_d, List.take_length, walked_tup, walked_lst, walked_eT, walked_eL, walked_zT, o1_lenT, o1_lenL, o1_tupleL, o1_int, o1_intb, o1_abs, o2_add, o2_sub, o2_lt, o2_le, o2_gt, eqD_int, neD_int, asDs_cons, asDs_nil, Option.map_some, bindT_tp, bindTs_cons, bindTs_nil, bindT_nm, isa, onBl_bl, f9, q1, q2, d1, d2, ev_ite, dOf, dUp]
theorem pick3 (x y z : D) (κ : Kd) : valD (mergeD [] (List.zip ((["down", "half", "up"] : List Str).map .inr) [x, y, z])) (.inr (strOf κ)) = some (match κ with | .down => x | .half => y | .up => z) := by
  have a1 : decide ((.inr "down" : L2.Key) = .inr "half") = false := by decide +kernel
  have a2 : decide ((.inr "down" : L2.Key) = .inr "up") = false := by decide +kernel
  have a3 : decide ((.inr "half" : L2.Key) = .inr "up") = false := by decide +kernel
  have a4 : decide ((.inr "half" : L2.Key) = .inr "down") = false := by decide +kernel
  have a5 : decide ((.inr "up" : L2.Key) = .inr "down") = false := by decide +kernel
  have a6 : decide ((.inr "up" : L2.Key) = .inr "half") = false := by decide +kernel
  have em : mergeD [] (List.zip ((["down", "half", "up"] : List Str).map .inr) [x, y, z]) = [(.inr "down", x), (.inr "half", y), (.inr "up", z)] := by
    show putD (putD (putD [] (.inr "down") x) (.inr "half") y) (.inr "up") z = _
    have p1 : putD [] (.inr "down") x = [(.inr "down", x)] := rfl
    have p2 : putD [(.inr "down", x)] (.inr "half") y = [(.inr "down", x), (.inr "half", y)] := by
      unfold putD
      rw [if_neg (by simp only [List.any_cons, List.any_nil, a1, Bool.or_false]; decide)]
      rfl
    have p3 : putD [(.inr "down", x), (.inr "half", y)] (.inr "up") z = [(.inr "down", x), (.inr "half", y), (.inr "up", z)] := by
      unfold putD
      rw [if_neg (by simp only [List.any_cons, List.any_nil, a2, a3, Bool.or_false]; decide)]
      rfl
    rw [p1, p2, p3]
  rw [em]
  unfold valD
  cases κ with
  | down =>
    rw [List.find?_cons_of_pos (by exact decide_eq_true rfl)]
    rfl
  | half =>
    rw [List.find?_cons_of_neg (by show ¬ decide ((.inr "down" : L2.Key) = .inr "half") = true; rw [a1]; decide), List.find?_cons_of_pos (by exact decide_eq_true rfl)]
    rfl
  | up =>
    rw [List.find?_cons_of_neg (by show ¬ decide ((.inr "down" : L2.Key) = .inr "up") = true; rw [a2]; decide), List.find?_cons_of_neg (by show ¬ decide ((.inr "half" : L2.Key) = .inr "up") = true; rw [a3]; decide), List.find?_cons_of_pos (by exact decide_eq_true rfl)]
    rfl
theorem r_law_step (k : Nat) (κ : Kd) (a : Nat) (ha : a < 1000000) (S : Store) : callD tab (k + 1) 17 [.d (kD κ), .d (.int (a : Int))] S = some (.d (.int ((dOf κ a : Nat) : Int)), S) := by
  rw [callD_run (fn := f17) rfl rfl]
  have m1 : mulOk 2 (a : Int) = true := mulOk_of (n := 10) (m := 40) (by unfold B; decide) (by unfold B; omega) (by omega)
  have hk : keyOf (kD κ) = some (.inr (strOf κ)) := rfl
  have h3 : (decide (0 + 1 + 1 + 1 = 0 + 1 + 1 + 1) && decide (0 + 1 + 1 + 1 ≤ 15) && !(["down", "half", "up"] : List Str).isEmpty) = true := by decide +kernel
  have e1 : (2 : Int) * (a : Int) + 1 = ((dHalf a : Nat) : Int) := by unfold dHalf; omega
  have e2 : (a : Int) + 1 = ((dDown a : Nat) : Int) := by unfold dDown; omega
  have h4 : decide (3 ≤ 15) = true := by decide
  have hp : valD (mergeD [] (List.zip [.inr "down", .inr "half", .inr "up"] [.int ((dDown a : Nat) : Int), .int ((dHalf a : Nat) : Int), .int (a : Int)])) (.inr (strOf κ)) = some (.int ((dOf κ a : Nat) : Int)) := by
    have := pick3 (.int ((dDown a : Nat) : Int)) (.int ((dHalf a : Nat) : Int)) (.int (a : Int)) κ
    rw [List.map_cons, List.map_cons, List.map_cons, List.map_nil] at this
    rw [this]
    cases κ <;> rfl
  simp only [List.map_cons, List.map_nil, List.length_cons, List.length_nil, Nat.reduceAdd, Nat.reduceSub, Nat.reduceLT, Nat.zero_add, List.replicate_succ, List.replicate_zero, List.cons_append, List.nil_append, exs_cons, exs_nil, ex_asgN, ex_asgT, ex_ret, ex_ife, ex_expr, ex_for, ex_par, ev_call, ev_callK, ev_o1, ev_o2, ev_var, ev_cst, ev_glob, ev_and, ev_or, ev_not, ev_isa, ev_lc, ev_tup, ev_idxT, ev_idxL, getV_zero, getV_succ, bnd, deref_d, asD_d, asI_int, asL_lst, asT_tup, onSeq_lst, onT_tup, evs_cons, evs_nil, evT_cons, evT_nil, if_true, Bool.false_eq_true, if_false, isTrueD_bl, Bool.not_true, Bool.not_false, and_self, List.set_cons_succ, List.set_cons_zero, thenO_nx, thenO_ret, finish_d, List.take_length, walked_tup, walked_lst, walked_eT, walked_eL, walked_zT, o1_lenT, o1_lenL, o1_tupleL, o1_int, o1_intb, o1_abs, o2_add, o2_sub, o2_lt, o2_le, o2_gt, eqD_int, neD_int, asDs_cons, asDs_nil, Option.map_some, bindT_tp, bindTs_cons, bindTs_nil, bindT_nm, isa, onBl_bl, f17, ev_idxD, ev_dsp, o2_mul m1, e1, e2, hk, decide_true, Bool.true_and, List.isEmpty_cons, h4, onDct_dct, hp]
/-! ### by_steps -/
theorem zeros (n : Nat) : (List.replicate n [D.int 0]).flatten = (List.replicate n 0).map natD := by
  induction n with
  | zero => rfl
  | succ n ih =>
    rw [List.replicate_succ, List.flatten_cons, ih]
    rfl
theorem row_at {l : List Nat} {i : Nat} (h : i < l.length) : atD (l.map natD) (i : Int) = some (.int ((at0 l i : Nat) : Int)) := row_atD h
def bestBody : List Stm := [.ife (.o2 .gt (.o2 .mul (.idxT (.var 0) (.var 6)) (.call 9 [.var 2, .idxL (.var 3) (.var 5)])) (.o2 .mul (.idxT (.var 0) (.var 5)) (.call 9 [.var 2, .idxL (.var 3) (.var 6)]))) [.asg (.nm 5) (.var 6)] []]
theorem best_loop (k : Nat) {ws : List Nat} (v : Votes ws) (κ : Kd) (a1 : Option E) (x : List Nat) (hl : x.length = ws.length) (hx : ∀ i, at0 x i ≤ 1000) (z4 : Option E) (T : Store) (m : Nat) (hm : m < ws.length) (z6 : Option E) :
    ∃ z6', forL (ex (callD tab (k + 1)) 18) (.nm 6) bestBody ((List.range m).map fun (i : Nat) => .int (1 + (i : Int))) [some (.d (.tup (ws.map natD))), a1, some (.d (kD κ)), some (.r T.length), z4, some (.d (.int 0)), z6] (T ++ [some (x.map natD)]) = some (.nx [some (.d (.tup (ws.map natD))), a1, some (.d (kD κ)), some (.r T.length), z4, some (.d (.int ((bestTo (at0 ws) (dOf κ) (at0 x) m : Nat) : Int))), z6'], T ++ [some (x.map natD)]) := by
  obtain ⟨ρ', S', e, z, h1, h2⟩ := forL_inv (g := ex (callD tab (k + 1)) 18) (tg := .nm 6) (body := bestBody) (fun i ρ S' => ∃ z, ρ = [some (.d (.tup (ws.map natD))), a1, some (.d (kD κ)), some (.r T.length), z4, some (.d (.int ((bestTo (at0 ws) (dOf κ) (at0 x) i : Nat) : Int))), z] ∧ S' = T ++ [some (x.map natD)])
    ((List.range m).map fun (i : Nat) => .int (1 + (i : Int))) 0 [some (.d (.tup (ws.map natD))), a1, some (.d (kD κ)), some (.r T.length), z4, some (.d (.int 0)), z6] (T ++ [some (x.map natD)]) ⟨z6, rfl, rfl⟩ (fun i hi ρ S' ⟨z, q1, q2⟩ => by
      rw [List.length_map, List.length_range] at hi
      subst q1 q2
      rw [Nat.zero_add, List.getElem_map, List.getElem_range]
      have hb := best_le (at0 ws) (dOf κ) (at0 x) i
      have e1i : (1 : Int) + (i : Int) = ((i + 1 : Nat) : Int) := by omega
      have g1 := row_at (l := ws) (i := i + 1) (by omega)
      have g2 := row_at (l := ws) (i := bestTo (at0 ws) (dOf κ) (at0 x) i) (by omega)
      have g3 := row_at (l := x) (i := i + 1) (by omega)
      have g4 := row_at (l := x) (i := bestTo (at0 ws) (dOf κ) (at0 x) i) (by omega)
      have st1 := r_step k κ (at0 x (bestTo (at0 ws) (dOf κ) (at0 x) i)) (by have := hx (bestTo (at0 ws) (dOf κ) (at0 x) i); omega) (T ++ [some (x.map natD)])
      have st2 := r_step k κ (at0 x (i + 1)) (by have := hx (i + 1); omega) (T ++ [some (x.map natD)])
      have w1 : at0 ws (i + 1) ≤ 1000000000 := v.each (i + 1)
      have w2 : at0 ws (bestTo (at0 ws) (dOf κ) (at0 x) i) ≤ 1000000000 := v.each _
      have dd1 := dOf_le κ (at0 x (bestTo (at0 ws) (dOf κ) (at0 x) i))
      have dd2 := dOf_le κ (at0 x (i + 1))
      have x1 := hx (bestTo (at0 ws) (dOf κ) (at0 x) i)
      have x2 := hx (i + 1)
      have m1 : mulOk ((at0 ws (i + 1) : Nat) : Int) ((dOf κ (at0 x (bestTo (at0 ws) (dOf κ) (at0 x) i)) : Nat) : Int) = true := mulOk_of (n := 40) (m := 40) (by unfold B; omega) (by unfold B; omega) (by omega)
      have m2 : mulOk ((at0 ws (bestTo (at0 ws) (dOf κ) (at0 x) i) : Nat) : Int) ((dOf κ (at0 x (i + 1)) : Nat) : Int) = true := mulOk_of (n := 40) (m := 40) (by unfold B; omega) (by unfold B; omega) (by omega)
      have hd : decide (((at0 ws (bestTo (at0 ws) (dOf κ) (at0 x) i) : Nat) : Int) * ((dOf κ (at0 x (i + 1)) : Nat) : Int) < ((at0 ws (i + 1) : Nat) : Int) * ((dOf κ (at0 x (bestTo (at0 ws) (dOf κ) (at0 x) i)) : Nat) : Int)) = decide (at0 ws (bestTo (at0 ws) (dOf κ) (at0 x) i) * dOf κ (at0 x (i + 1)) < at0 ws (i + 1) * dOf κ (at0 x (bestTo (at0 ws) (dOf κ) (at0 x) i))) := by
        rw [← Int.natCast_mul, ← Int.natCast_mul]
        exact decide_eq_decide.mpr (by omega)
      rw [e1i]
      have eb : bestTo (at0 ws) (dOf κ) (at0 x) (i + 1) = if at0 ws (bestTo (at0 ws) (dOf κ) (at0 x) i) * dOf κ (at0 x (i + 1)) < at0 ws (i + 1) * dOf κ (at0 x (bestTo (at0 ws) (dOf κ) (at0 x) i)) then i + 1 else bestTo (at0 ws) (dOf κ) (at0 x) i := rfl
      by_cases hc : at0 ws (bestTo (at0 ws) (dOf κ) (at0 x) i) * dOf κ (at0 x (i + 1)) < at0 ws (i + 1) * dOf κ (at0 x (bestTo (at0 ws) (dOf κ) (at0 x) i))
      · rw [decide_eq_true hc] at hd
        refine ⟨_, _, ?_, some (.d (.int ((i + 1 : Nat) : Int))), rfl, rfl⟩
        rw [eb, if_pos hc]
        unfold bestBody
        simp only [List.map_cons, List.map_nil, List.length_cons, List.length_nil, Nat.reduceAdd, Nat.reduceSub, Nat.reduceLT, Nat.zero_add, List.replicate_succ, List.replicate_zero, List.cons_append, List.nil_append, exs_cons, exs_nil, ex_asgN, ex_asgT, ex_ret, ex_ife, ex_expr, ex_for, ex_par, ev_call, ev_callK, ev_o1, ev_o2, ev_var, ev_cst, ev_glob, ev_and, ev_or, ev_not, ev_isa, ev_lc, ev_tup, ev_idxT, ev_idxL, getV_zero, getV_succ, bnd, deref_d, asD_d, asI_int, asL_lst, asT_tup, onSeq_lst, onT_tup, evs_cons, evs_nil, evT_cons, evT_nil, if_true, Bool.false_eq_true, if_false, isTrueD_bl, Bool.not_true, Bool.not_false, and_self, List.set_cons_succ, List.set_cons_zero, thenO_nx, thenO_ret, finish_d, List.take_length, walked_tup, walked_lst, walked_eT, walked_eL, walked_zT, o1_lenT, o1_lenL, o1_tupleL, o1_int, o1_intb, o1_abs, o2_add, o2_sub, o2_lt, o2_le, o2_gt, eqD_int, neD_int, asDs_cons, asDs_nil, Option.map_some, bindT_tp, bindTs_cons, bindTs_nil, bindT_nm, isa, onBl_bl, deref_snoc, g1, g2, g3, g4, st1, st2, o2_mul m1, o2_mul m2, hd]
      · rw [decide_eq_false hc] at hd
        refine ⟨_, _, ?_, some (.d (.int ((i + 1 : Nat) : Int))), rfl, rfl⟩
        rw [eb, if_neg hc]
        unfold bestBody
        simp only [List.map_cons, List.map_nil, List.length_cons, List.length_nil, Nat.reduceAdd, Nat.reduceSub, Nat.reduceLT, Nat.zero_add, List.replicate_succ, List.replicate_zero, List.cons_append, List.nil_append, exs_cons, exs_nil, ex_asgN, ex_asgT, ex_ret, ex_ife, ex_expr, ex_for, ex_par, ev_call, ev_callK, ev_o1, ev_o2, ev_var, ev_cst, ev_glob, ev_and, ev_or, ev_not, ev_isa, ev_lc, ev_tup, ev_idxT, ev_idxL, getV_zero, getV_succ, bnd, deref_d, asD_d, asI_int, asL_lst, asT_tup, onSeq_lst, onT_tup, evs_cons, evs_nil, evT_cons, evT_nil, if_true, Bool.false_eq_true, if_false, isTrueD_bl, Bool.not_true, Bool.not_false, and_self, List.set_cons_succ, List.set_cons_zero, thenO_nx, thenO_ret, finish_d, List.take_length, walked_tup, walked_lst, walked_eT, walked_eL, walked_zT, o1_lenT, o1_lenL, o1_tupleL, o1_int, o1_intb, o1_abs, o2_add, o2_sub, o2_lt, o2_le, o2_gt, eqD_int, neD_int, asDs_cons, asDs_nil, Option.map_some, bindT_tp, bindTs_cons, bindTs_nil, bindT_nm, isa, onBl_bl, deref_snoc, g1, g2, g3, g4, st1, st2, o2_mul m1, o2_mul m2, hd])
  subst h1 h2
  rw [List.length_map, List.length_range, Nat.zero_add] at e
  exact ⟨z, e⟩
def lapBody : List Stm := [.asg (.nm 5) (.cst (.int 0)), .for_ (.nm 6) .rng2 [.cst (.int 1), .o1 .len (.var 0)] bestBody, .setI (.var 3) (.var 5) (.o2 .add (.idxL (.var 3) (.var 5)) (.cst (.int 1)))]
theorem at0_le_sum (l : List Nat) (i : Nat) : at0 l i ≤ l.sum := by
  unfold at0
  rw [List.getD_eq_getElem?_getD]
  cases h : l[i]? with
  | none => exact Nat.zero_le _
  | some x => exact mem_le_sum (List.mem_of_getElem? h)
theorem lap_step (k : Nat) {ws : List Nat} (v : Votes ws) (κ : Kd) (a1 : Option E) (x : List Nat) (hl : x.length = ws.length) (hx : ∀ i, at0 x i ≤ 1000) (z4 z5 z6 : Option E) (T : Store) :
    ∃ z5' z6', exs (ex (callD tab (k + 1)) 19) lapBody [some (.d (.tup (ws.map natD))), a1, some (.d (kD κ)), some (.r T.length), z4, z5, z6] (T ++ [some (x.map natD)]) = some (.nx [some (.d (.tup (ws.map natD))), a1, some (.d (kD κ)), some (.r T.length), z4, z5', z6'], T ++ [some ((stepL ws κ x).map natD)]) := by
  have l0 := v.l0
  have l1 := v.l1
  obtain ⟨z6', e⟩ := best_loop k v κ a1 x hl hx z4 T (ws.length - 1) (by omega) z6
  have hb := best_lt l0 κ x
  generalize hbb : bestTo (at0 ws) (dOf κ) (at0 x) (ws.length - 1) = b at e hb
  refine ⟨some (.d (.int (b : Int))), z6', ?_⟩
  have hw : ∀ S : Store, walked S .rng2 [.d (.int 1), .d (.int ((ws.length : Nat) : Int))] = some ((List.range (ws.length - 1)).map fun (i : Nat) => .int (1 + (i : Int))) := fun S => by
    have := walk_r2 (S := S) (m := ws.length - 1) (by omega)
    rw [show ((ws.length - 1 : Nat) : Int) + 1 = ((ws.length : Nat) : Int) by omega] at this
    exact this
  have ga := row_at (l := x) (i := b) (by omega)
  have hp : place (x.map natD).length (b : Int) = some b := by
    rw [List.length_map]
    exact place_nat (by omega)
  have es : (x.map natD).set b (.int (((at0 x b : Nat) : Int) + 1)) = (stepL ws κ x).map natD := by
    unfold stepL addAt
    rw [hbb, List.map_set]
    rfl
  have s1 : ex (callD tab (k + 1)) 19 (.asg (.nm 5) (.cst (.int 0))) [some (.d (.tup (ws.map natD))), a1, some (.d (kD κ)), some (.r T.length), z4, z5, z6] (T ++ [some (x.map natD)]) = some (.nx [some (.d (.tup (ws.map natD))), a1, some (.d (kD κ)), some (.r T.length), z4, some (.d (.int 0)), z6], T ++ [some (x.map natD)]) := by
    simp only [List.map_cons, List.map_nil, List.length_cons, List.length_nil, Nat.reduceAdd, Nat.reduceSub, Nat.reduceLT, Nat.zero_add, List.replicate_succ, List.replicate_zero, List.cons_append, List.nil_append, exs_cons, exs_nil, ex_asgN, ex_asgT, ex_ret, ex_ife, ex_expr, ex_for, ex_par, ev_call, ev_callK, ev_o1, ev_o2, ev_var, ev_cst, ev_glob, ev_and, ev_or, ev_not, ev_isa, ev_lc, ev_tup, ev_idxT, ev_idxL, getV_zero, getV_succ, bnd, deref_d, asD_d, asI_int, asL_lst, asT_tup, onSeq_lst, onT_tup, evs_cons, evs_nil, evT_cons, evT_nil, if_true, Bool.false_eq_true, if_false, isTrueD_bl, Bool.not_true, Bool.not_false, and_self, List.set_cons_succ, List.set_cons_zero, thenO_nx, thenO_ret, finish_d, List.take_length, walked_tup, walked_lst, walked_eT, walked_eL, walked_zT, o1_lenT, o1_lenL, o1_tupleL, o1_int, o1_intb, o1_abs, o2_add, o2_sub, o2_lt, o2_le, o2_gt, eqD_int, neD_int, asDs_cons, asDs_nil, Option.map_some, bindT_tp, bindTs_cons, bindTs_nil, bindT_nm, isa, onBl_bl]
  have s2 : ex (callD tab (k + 1)) 19 (.for_ (.nm 6) .rng2 [.cst (.int 1), .o1 .len (.var 0)] bestBody) [some (.d (.tup (ws.map natD))), a1, some (.d (kD κ)), some (.r T.length), z4, some (.d (.int 0)), z6] (T ++ [some (x.map natD)]) = some (.nx [some (.d (.tup (ws.map natD))), a1, some (.d (kD κ)), some (.r T.length), z4, some (.d (.int (b : Int))), z6'], T ++ [some (x.map natD)]) := by
    rw [ex_for]
    simp only [evs_cons, evs_nil, ev_cst, ev_o1, ev_var, getV_zero, bnd, deref_d, o1_lenT, List.length_map, hw]
    exact e
  have s3 : ex (callD tab (k + 1)) 19 (.setI (.var 3) (.var 5) (.o2 .add (.idxL (.var 3) (.var 5)) (.cst (.int 1)))) [some (.d (.tup (ws.map natD))), a1, some (.d (kD κ)), some (.r T.length), z4, some (.d (.int (b : Int))), z6'] (T ++ [some (x.map natD)]) = some (.nx [some (.d (.tup (ws.map natD))), a1, some (.d (kD κ)), some (.r T.length), z4, some (.d (.int (b : Int))), z6'], T ++ [some ((stepL ws κ x).map natD)]) := by
    simp only [List.map_cons, List.map_nil, List.length_cons, List.length_nil, Nat.reduceAdd, Nat.reduceSub, Nat.reduceLT, Nat.zero_add, List.replicate_succ, List.replicate_zero, List.cons_append, List.nil_append, exs_cons, exs_nil, ex_asgN, ex_asgT, ex_ret, ex_ife, ex_expr, ex_for, ex_par, ev_call, ev_callK, ev_o1, ev_o2, ev_var, ev_cst, ev_glob, ev_and, ev_or, ev_not, ev_isa, ev_lc, ev_tup, ev_idxT, ev_idxL, getV_zero, getV_succ, bnd, deref_d, asD_d, asI_int, asL_lst, asT_tup, onSeq_lst, onT_tup, evs_cons, evs_nil, evT_cons, evT_nil, if_true, Bool.false_eq_true, if_false, isTrueD_bl, Bool.not_true, Bool.not_false, and_self, List.set_cons_succ, List.set_cons_zero, thenO_nx, thenO_ret, finish_d, List.take_length, walked_tup, walked_lst, walked_eT, walked_eL, walked_zT, o1_lenT, o1_lenL, o1_tupleL, o1_int, o1_intb, o1_abs, o2_add, o2_sub, o2_lt, o2_le, o2_gt, eqD_int, neD_int, asDs_cons, asDs_nil, Option.map_some, bindT_tp, bindTs_cons, bindTs_nil, bindT_nm, isa, onBl_bl, ex_setI, deref_snoc, ga, onR_r, getS_snoc, hp, set_snoc, es]
  unfold lapBody
  rw [exs_nx s1, exs_nx s2, exs_nx s3, exs_nil]
theorem r_by_steps (k : Nat) {ws : List Nat} (v : Votes ws) (s : Nat) (hs : s ≤ 500) (κ : Kd) (S : Store) : callD tab (k + 5) 10 [.d (.tup (ws.map natD)), .d (.int (s : Int)), .d (kD κ)] S = some (.d (.tup ((seatsL ws κ s).map natD)), S) := by
  rw [callD_run (fn := f10) rfl rfl]
  have l0 := v.l0
  have l1 := v.l1
  have e1 := r_check_steps k v s hs κ S
  have hr : o2 .repL (.lst [.int 0]) (.int ((ws.length : Nat) : Int)) = some (.lst ((List.replicate ws.length 0).map natD)) := by
    show (if (fits ([D.int 0].length * ((ws.length : Nat) : Int).toNat) && decide (((ws.length : Nat) : Int).natAbs < 2 ^ 62)) = true then some (D.lst (List.replicate ((ws.length : Nat) : Int).toNat [D.int 0]).flatten) else none) = _
    rw [Int.toNat_natCast, zeros, if_pos]
    rw [Bool.and_eq_true]
    exact ⟨by unfold fits; exact decide_eq_true (by simp; omega), decide_eq_true (by omega)⟩
  obtain ⟨ρ', S', e, z4, z5, z6, h1, h2⟩ := forL_inv (g := ex (callD tab (k + 4)) 19) (tg := .nm 4) (body := lapBody) (fun i ρ S' => ∃ z4 z5 z6, ρ = [some (.d (.tup (ws.map natD))), some (.d (.int (s : Int))), some (.d (kD κ)), some (.r S.length), z4, z5, z6] ∧ S' = S ++ [some ((seatsL ws κ i).map natD)])
    ((List.range s).map natD) 0 [some (.d (.tup (ws.map natD))), some (.d (.int (s : Int))), some (.d (kD κ)), some (.r S.length), none, none, none] (S ++ [some ((seatsL ws κ 0).map natD)]) ⟨none, none, none, rfl, rfl⟩ (fun i hi ρ S' ⟨z4, z5, z6, q1, q2⟩ => by
      rw [List.length_map, List.length_range] at hi
      subst q1 q2
      rw [Nat.zero_add]
      have hsu := seats_sum l0 κ i
      obtain ⟨z5', z6', st⟩ := lap_step (k + 3) v κ (some (.d (.int (s : Int)))) (seatsL ws κ i) (seatsL_len ws κ i) (fun j => by
        have := at0_le_sum (seatsL ws κ i) j
        omega) (some (.d (natD i))) z5 z6 S
      refine ⟨_, _, ?_, some (.d (natD i)), z5', z6', rfl, rfl⟩
      rw [List.getElem_map, List.getElem_range, bindT_nm, if_pos (by simp [-Option.bind_some]), bnd]
      exact st)
  subst h1 h2
  rw [List.length_map, List.length_range, Nat.zero_add] at e
  have hw : ∀ S : Store, walked S .rng1 [.d (.int (s : Int))] = some ((List.range s).map natD) := fun S => walk_N S s (by omega)
  have h1 : fits 1 = true := by decide
  unfold lapBody bestBody at e
  rw [show seatsL ws κ 0 = List.replicate ws.length 0 from rfl] at e
  simp only [List.map_cons, List.map_nil, List.length_cons, List.length_nil, Nat.reduceAdd, Nat.reduceSub, Nat.reduceLT, Nat.zero_add, List.replicate_succ, List.replicate_zero, List.cons_append, List.nil_append, exs_cons, exs_nil, ex_asgN, ex_asgT, ex_ret, ex_ife, ex_expr, ex_for, ex_par, ev_call, ev_callK, ev_o1, ev_o2, ev_var, ev_cst, ev_glob, ev_and, ev_or, ev_not, ev_isa, ev_lc, ev_tup, ev_idxT, ev_idxL, getV_zero, getV_succ, bnd, deref_d, asD_d, asI_int, asL_lst, asT_tup, onSeq_lst, onT_tup, evs_cons, evs_nil, evT_cons, evT_nil, if_true, Bool.false_eq_true, if_false, isTrueD_bl, Bool.not_true, Bool.not_false, and_self, List.set_cons_succ, List.set_cons_zero, thenO_nx, thenO_ret, finish_d, List.take_length, walked_tup, walked_lst, walked_eT, walked_eL, walked_zT, o1_lenT, o1_lenL, o1_tupleL, o1_int, o1_intb, o1_abs, o2_add, o2_sub, o2_lt, o2_le, o2_gt, eqD_int, neD_int, asDs_cons, asDs_nil, Option.map_some, bindT_tp, bindTs_cons, bindTs_nil, bindT_nm, isa, onBl_bl, f10, e1, ev_new, ev_lst, h1, List.length_map, hr, onL_lst, hw, e, ex_frz, onR_r, getS_snoc, set_snoc, List.take_left]
end K56
end

section
set_option autoImplicit false
set_option linter.all false
set_option maxRecDepth 20000
/-! k56: shows_by_steps, _law_is_right, _law_is_bounded. -/
namespace K56
open PySem DL
def iEn (row : List Nat) (i : Nat) : D := .tup [.int (i : Int), natD (at0 row i)]
theorem en_row (row : List Nat) : enumD 0 (row.map natD) = (List.range row.length).map (iEn row) := by
  rw [← map_getD natD row]
  exact enumD_range _ _
def env8 (V S K X : Option E) (row : List Nat) (i : Nat) (z6 z7 : Option E) : DL.Env := [V, S, K, X, some (.d (.int (i : Int))), some (.d (natD (at0 row i))), z6, z7]
/-- the inner loop: ended, or gone through -/
theorem in_to {g : Ex} {body : List Stm} {V S K X : Option E} {row : List Nat} {T : Store} {bad : Nat → Nat → Bool} {n : Nat} {i : Nat} (hi : i < n)
    (h : ∀ j, j < n → exs g body (env8 V S K X row i (some (.d (.int (j : Int)))) (some (.d (natD (at0 row j))))) T = if bad i j = true then some (.ret (.d (.bl false)), T) else some (.nx (env8 V S K X row i (some (.d (.int (j : Int)))) (some (.d (natD (at0 row j))))), T)) :
    ∀ (l : List Nat) (z6 z7 : Option E), (∀ j ∈ l, j < n) → (l.any (bad i) = true → forL g (.tp [(.nm 6), (.nm 7)]) body (l.map (iEn row)) (env8 V S K X row i z6 z7) T = some (.ret (.d (.bl false)), T)) ∧ (l.any (bad i) = false → ∃ z6' z7', forL g (.tp [(.nm 6), (.nm 7)]) body (l.map (iEn row)) (env8 V S K X row i z6 z7) T = some (.nx (env8 V S K X row i z6' z7'), T))
  | [], z6, z7, _ => ⟨fun h => (by cases h), fun _ => ⟨z6, z7, rfl⟩⟩
  | j :: l, z6, z7, hl => by
    have ih := in_to hi h l (some (.d (.int (j : Int)))) (some (.d (natD (at0 row j)))) fun x hx => hl x (List.mem_cons_of_mem _ hx)
    have st := h j (hl j List.mem_cons_self)
    have hb : bindT (.tp [(.nm 6), (.nm 7)]) (iEn row j) (env8 V S K X row i z6 z7) = some (env8 V S K X row i (some (.d (.int (j : Int)))) (some (.d (natD (at0 row j))))) := by
      simp [-Option.bind_some, iEn, env8]
    rw [List.map_cons, forL_cons, hb, bnd, st, List.any_cons]
    cases hc : bad i j with
    | true => exact ⟨fun _ => (by rw [if_pos rfl, bnd, thenO_ret]), fun h => (by cases h)⟩
    | false =>
      rw [if_neg Bool.false_ne_true, bnd, thenO_nx, Bool.false_or]
      exact ih
def inS (body : List Stm) : List Stm := [.for_ (.tp [(.nm 6), (.nm 7)]) .enumT [.var 3] body]
theorem out_at {C : Call} {f : Nat} {body : List Stm} {V S K : Option E} {row : List Nat} {T : Store} {bad : Nat → Nat → Bool}
    (h : ∀ i j, i < row.length → j < row.length → exs (ex C f) body (env8 V S K (some (.d (.tup (row.map natD)))) row i (some (.d (.int (j : Int)))) (some (.d (natD (at0 row j))))) T = if bad i j = true then some (.ret (.d (.bl false)), T) else some (.nx (env8 V S K (some (.d (.tup (row.map natD)))) row i (some (.d (.int (j : Int)))) (some (.d (natD (at0 row j))))), T)) :
    ∀ (l : List Nat) (z4 z5 z6 z7 : Option E), (∀ i ∈ l, i < row.length) → ((l.any fun i => (List.range row.length).any (bad i)) = true → forL (ex C (f + 1)) (.tp [(.nm 4), (.nm 5)]) (inS body) (l.map (iEn row)) [V, S, K, some (.d (.tup (row.map natD))), z4, z5, z6, z7] T = some (.ret (.d (.bl false)), T)) ∧ ((l.any fun i => (List.range row.length).any (bad i)) = false → ∃ ρ, forL (ex C (f + 1)) (.tp [(.nm 4), (.nm 5)]) (inS body) (l.map (iEn row)) [V, S, K, some (.d (.tup (row.map natD))), z4, z5, z6, z7] T = some (.nx ρ, T))
  | [], z4, z5, z6, z7, _ => ⟨fun h => (by cases h), fun _ => ⟨_, rfl⟩⟩
  | i :: l, z4, z5, z6, z7, hl => by
    have hi := hl i List.mem_cons_self
    obtain ⟨a, b⟩ := in_to (g := ex C f) (body := body) (V := V) (S := S) (K := K) (X := some (.d (.tup (row.map natD)))) (row := row) (T := T) (bad := bad) (n := row.length) hi (fun j hj => h i j hi hj) (List.range row.length) z6 z7 fun j hj => List.mem_range.mp hj
    have hb : bindT (.tp [(.nm 4), (.nm 5)]) (iEn row i) [V, S, K, some (.d (.tup (row.map natD))), z4, z5, z6, z7] = some (env8 V S K (some (.d (.tup (row.map natD)))) row i z6 z7) := by
      simp [-Option.bind_some, iEn, env8]
    have hev : evs (ev C 40) [.var 3] (env8 V S K (some (.d (.tup (row.map natD)))) row i z6 z7) T = some ([.d (.tup (row.map natD))], T) := rfl
    rw [List.map_cons, forL_cons, hb, bnd, List.any_cons]
    cases hc : (List.range row.length).any (bad i) with
    | true =>
      have st : exs (ex C (f + 1)) (inS body) (env8 V S K (some (.d (.tup (row.map natD)))) row i z6 z7) T = some (.ret (.d (.bl false)), T) := by
        unfold inS
        rw [exs_cons, ex_for, hev, bnd, walked_eT, bnd, en_row, a hc, bnd, thenO_ret]
      exact ⟨fun _ => (by rw [st, bnd, thenO_ret]), fun h => (by cases h)⟩
    | false =>
      obtain ⟨z6', z7', b⟩ := b hc
      have st : exs (ex C (f + 1)) (inS body) (env8 V S K (some (.d (.tup (row.map natD)))) row i z6 z7) T = some (.nx (env8 V S K (some (.d (.tup (row.map natD)))) row i z6' z7'), T) := by
        unfold inS
        rw [exs_cons, ex_for, hev, bnd, walked_eT, bnd, en_row, b, bnd, thenO_nx, exs_nil]
      rw [st, bnd, thenO_nx, Bool.false_or]
      exact out_at h l (some (.d (.int (i : Int)))) (some (.d (natD (at0 row i)))) z6' z7' fun x hx => hl x (List.mem_cons_of_mem _ hx)
def nat0 (i : Int) : Bool := decide (0 ≤ i)
def showsB (ws : List Nat) (s : Nat) (κ : Kd) (x : D) : Bool := match intsT ws.length x with
  | some ns => ns.all (okS s) && decide (ns.sum = (s : Int)) && rightB ws κ (ns.map Int.toNat)
  | none => false
def lawRB (ws : List Nat) (s : Nat) (κ : Kd) (x : D) : Bool := match intsT ws.length x with
  | some ns => ns.all nat0 && (decide (ns.sum = (s : Int)) && rightB ws κ (ns.map Int.toNat))
  | none => false
theorem law_shows (ws : List Nat) (s : Nat) (κ : Kd) (x : D) : lawRB ws s κ x = showsB ws s κ x := by
  unfold lawRB showsB
  cases e : intsT ws.length x with
  | none => rfl
  | some ns =>
    show (ns.all nat0 && (decide (ns.sum = (s : Int)) && rightB ws κ (ns.map Int.toNat))) = (ns.all (okS s) && decide (ns.sum = (s : Int)) && rightB ws κ (ns.map Int.toNat))
    rw [← Bool.and_assoc]
    congr 1
    rw [Bool.eq_iff_iff, Bool.and_eq_true, Bool.and_eq_true, List.all_eq_true, List.all_eq_true, decide_eq_true_eq]
    constructor
    · rintro ⟨h1, h2⟩
      have h3 : ∀ x ∈ ns, 0 ≤ x := fun x hx => of_decide_eq_true (h1 x hx)
      obtain ⟨_, h4⟩ := sum_ge ns h3
      refine ⟨fun x hx => ?_, h2⟩
      unfold okS
      have a := h3 x hx
      have b := h4 x hx
      rw [decide_eq_true a, decide_eq_true (by omega)]
      rfl
    · rintro ⟨h1, h2⟩
      refine ⟨fun x hx => ?_, h2⟩
      have := h1 x hx
      unfold okS at this
      rw [Bool.and_eq_true] at this
      exact this.1
theorem nats_back {ns : List Int} (h : ∀ x ∈ ns, 0 ≤ x) : ns.map D.int = (ns.map Int.toNat).map natD := by
  rw [List.map_map]
  refine List.map_congr_left fun x hx => ?_
  have := h x hx
  show D.int x = D.int ((x.toNat : Nat) : Int)
  rw [Int.toNat_of_nonneg this]
theorem sum_back {ns : List Int} (h : ∀ x ∈ ns, 0 ≤ x) : (((ns.map Int.toNat).sum : Nat) : Int) = ns.sum := by
  induction ns with
  | nil => rfl
  | cons a l ih =>
    have := h a List.mem_cons_self
    have h2 := ih fun x hx => h x (List.mem_cons_of_mem _ hx)
    rw [List.map_cons, List.sum_cons, List.sum_cons, Int.natCast_add, h2, Int.toNat_of_nonneg this]
def showBody : List Stm := [.ife (.and (.o2 .ne (.var 4) (.var 6)) (.and (.o2 .gt (.var 7) (.cst (.int 0))) (.o2 .gt (.o2 .mul (.idxT (.var 0) (.var 4)) (.call 9 [.var 2, .o2 .sub (.var 7) (.cst (.int 1))])) (.o2 .mul (.idxT (.var 0) (.var 6)) (.call 9 [.var 2, .var 5]))))) [.ret (.cst (.bl false))] []]
def rightBody : List Stm := [.ife (.and (.o2 .ne (.var 4) (.var 6)) (.o2 .gt (.var 7) (.cst (.int 0)))) [.ife (.o2 .gt (.o2 .mul (.idxT (.var 0) (.var 4)) (.call 17 [.var 2, .o2 .sub (.var 7) (.cst (.int 1))])) (.o2 .mul (.idxT (.var 0) (.var 6)) (.call 17 [.var 2, .var 5]))) [.ret (.cst (.bl false))] []] []]
section
variable {ws : List Nat} {s : Nat} {κ : Kd} {row : List Nat}
structure Sz (ws row : List Nat) : Prop where
  hl : row.length = ws.length
  hw : ∀ i, at0 ws i ≤ 3000000000
  hx : ∀ i, at0 row i ≤ 100000
theorem show_body (k : Nat) (z : Sz ws row) (S : Option E) (T : Store) (i j : Nat) (hi : i < row.length) (hj : j < row.length) :
    exs (ex (callD tab (k + 1)) 18) showBody (env8 (some (.d (.tup (ws.map natD)))) S (some (.d (kD κ))) (some (.d (.tup (row.map natD)))) row i (some (.d (.int (j : Int)))) (some (.d (natD (at0 row j))))) T = if badB ws κ row i j = true then some (.ret (.d (.bl false)), T) else some (.nx (env8 (some (.d (.tup (ws.map natD)))) S (some (.d (kD κ))) (some (.d (.tup (row.map natD)))) row i (some (.d (.int (j : Int)))) (some (.d (natD (at0 row j))))), T) := by
  have hl := z.hl
  have dij : decide ((i : Int) = (j : Int)) = decide (i = j) := decide_eq_decide.mpr (by omega)
  have dne : decide (i ≠ j) = !decide (i = j) := by rw [decide_not]
  unfold badB
  rw [dne]
  by_cases hij : i = j
  · rw [decide_eq_true hij] at dij ⊢
    unfold showBody env8
    simp only [List.map_cons, List.map_nil, List.length_cons, List.length_nil, Nat.reduceAdd, Nat.reduceSub, Nat.reduceLT, Nat.zero_add, List.replicate_succ, List.replicate_zero, List.cons_append, List.nil_append, exs_cons, exs_nil, ex_asgN, ex_asgT, ex_ret, ex_ife, ex_expr, ex_for, ex_par, ev_call, ev_callK, ev_o1, ev_o2, ev_var, ev_cst, ev_glob, ev_and, ev_or, ev_not, ev_isa, ev_lc, ev_tup, ev_idxT, ev_idxL, getV_zero, getV_succ, bnd, deref_d, asD_d, asI_int, asL_lst, asT_tup, onSeq_lst, onT_tup, evs_cons, evs_nil, evT_cons, evT_nil, if_true, Bool.false_eq_true, if_false, isTrueD_bl, Bool.not_true, Bool.not_false, and_self, List.set_cons_succ, List.set_cons_zero, thenO_nx, thenO_ret, finish_d, List.take_length, walked_tup, walked_lst, walked_eT, walked_eL, walked_zT, o1_lenT, o1_lenL, o1_tupleL, o1_int, o1_intb, o1_abs, o2_add, o2_sub, o2_lt, o2_le, o2_gt, eqD_int, neD_int, asDs_cons, asDs_nil, Option.map_some, bindT_tp, bindTs_cons, bindTs_nil, bindT_nm, isa, onBl_bl, natD, dij, Bool.false_and]
  · rw [decide_eq_false hij] at dij ⊢
    by_cases hp : 0 < at0 row j
    · have dp : decide ((0 : Int) < ((at0 row j : Nat) : Int)) = true := decide_eq_true (by omega)
      have es : ((at0 row j : Nat) : Int) - 1 = ((at0 row j - 1 : Nat) : Int) := by omega
      have g1 := row_at (l := ws) (i := i) (by omega)
      have g2 := row_at (l := ws) (i := j) (by omega)
      have x1 := z.hx i
      have x2 := z.hx j
      have w1 := z.hw i
      have w2 := z.hw j
      have st1 := r_step k κ (at0 row j - 1) (by omega) T
      have st2 := r_step k κ (at0 row i) (by omega) T
      have dd1 := dOf_le κ (at0 row j - 1)
      have dd2 := dOf_le κ (at0 row i)
      have m1 : mulOk ((at0 ws i : Nat) : Int) ((dOf κ (at0 row j - 1) : Nat) : Int) = true := mulOk_of (n := 40) (m := 40) (by unfold B; omega) (by unfold B; omega) (by omega)
      have m2 : mulOk ((at0 ws j : Nat) : Int) ((dOf κ (at0 row i) : Nat) : Int) = true := mulOk_of (n := 40) (m := 40) (by unfold B; omega) (by unfold B; omega) (by omega)
      have hd : decide (((at0 ws j : Nat) : Int) * ((dOf κ (at0 row i) : Nat) : Int) < ((at0 ws i : Nat) : Int) * ((dOf κ (at0 row j - 1) : Nat) : Int)) = decide (at0 ws j * dOf κ (at0 row i) < at0 ws i * dOf κ (at0 row j - 1)) := by
        rw [← Int.natCast_mul, ← Int.natCast_mul]
        exact decide_eq_decide.mpr (by omega)
      rw [decide_eq_true hp]
      unfold showBody env8
      simp only [List.map_cons, List.map_nil, List.length_cons, List.length_nil, Nat.reduceAdd, Nat.reduceSub, Nat.reduceLT, Nat.zero_add, List.replicate_succ, List.replicate_zero, List.cons_append, List.nil_append, exs_cons, exs_nil, ex_asgN, ex_asgT, ex_ret, ex_ife, ex_expr, ex_for, ex_par, ev_call, ev_callK, ev_o1, ev_o2, ev_var, ev_cst, ev_glob, ev_and, ev_or, ev_not, ev_isa, ev_lc, ev_tup, ev_idxT, ev_idxL, getV_zero, getV_succ, bnd, deref_d, asD_d, asI_int, asL_lst, asT_tup, onSeq_lst, onT_tup, evs_cons, evs_nil, evT_cons, evT_nil, if_true, Bool.false_eq_true, if_false, isTrueD_bl, Bool.not_true, Bool.not_false, and_self, List.set_cons_succ, List.set_cons_zero, thenO_nx, thenO_ret, finish_d, List.take_length, walked_tup, walked_lst, walked_eT, walked_eL, walked_zT, o1_lenT, o1_lenL, o1_tupleL, o1_int, o1_intb, o1_abs, o2_add, o2_sub, o2_lt, o2_le, o2_gt, eqD_int, neD_int, asDs_cons, asDs_nil, Option.map_some, bindT_tp, bindTs_cons, bindTs_nil, bindT_nm, isa, onBl_bl, natD, dij, dp, es, g1, g2, st1, st2, o2_mul m1, o2_mul m2, hd, Bool.true_and]
      cases decide (at0 ws j * dOf κ (at0 row i) < at0 ws i * dOf κ (at0 row j - 1)) <;> rfl
    · have dp : decide ((0 : Int) < ((at0 row j : Nat) : Int)) = false := decide_eq_false (by omega)
      rw [decide_eq_false hp]
      unfold showBody env8
      simp only [List.map_cons, List.map_nil, List.length_cons, List.length_nil, Nat.reduceAdd, Nat.reduceSub, Nat.reduceLT, Nat.zero_add, List.replicate_succ, List.replicate_zero, List.cons_append, List.nil_append, exs_cons, exs_nil, ex_asgN, ex_asgT, ex_ret, ex_ife, ex_expr, ex_for, ex_par, ev_call, ev_callK, ev_o1, ev_o2, ev_var, ev_cst, ev_glob, ev_and, ev_or, ev_not, ev_isa, ev_lc, ev_tup, ev_idxT, ev_idxL, getV_zero, getV_succ, bnd, deref_d, asD_d, asI_int, asL_lst, asT_tup, onSeq_lst, onT_tup, evs_cons, evs_nil, evT_cons, evT_nil, if_true, Bool.false_eq_true, if_false, isTrueD_bl, Bool.not_true, Bool.not_false, and_self, List.set_cons_succ, List.set_cons_zero, thenO_nx, thenO_ret, finish_d, List.take_length, walked_tup, walked_lst, walked_eT, walked_eL, walked_zT, o1_lenT, o1_lenL, o1_tupleL, o1_int, o1_intb, o1_abs, o2_add, o2_sub, o2_lt, o2_le, o2_gt, eqD_int, neD_int, asDs_cons, asDs_nil, Option.map_some, bindT_tp, bindTs_cons, bindTs_nil, bindT_nm, isa, onBl_bl, natD, dij, dp, Bool.false_and, Bool.and_false]
theorem right_body (k : Nat) (z : Sz ws row) (S : Option E) (T : Store) (i j : Nat) (hi : i < row.length) (hj : j < row.length) :
    exs (ex (callD tab (k + 1)) 18) rightBody (env8 (some (.d (.tup (ws.map natD)))) S (some (.d (kD κ))) (some (.d (.tup (row.map natD)))) row i (some (.d (.int (j : Int)))) (some (.d (natD (at0 row j))))) T = if badB ws κ row i j = true then some (.ret (.d (.bl false)), T) else some (.nx (env8 (some (.d (.tup (ws.map natD)))) S (some (.d (kD κ))) (some (.d (.tup (row.map natD)))) row i (some (.d (.int (j : Int)))) (some (.d (natD (at0 row j))))), T) := by
  have hl := z.hl
  have dij : decide ((i : Int) = (j : Int)) = decide (i = j) := decide_eq_decide.mpr (by omega)
  have dne : decide (i ≠ j) = !decide (i = j) := by rw [decide_not]
  unfold badB
  rw [dne]
  by_cases hij : i = j
  · rw [decide_eq_true hij] at dij ⊢
    unfold rightBody env8
    simp only [List.map_cons, List.map_nil, List.length_cons, List.length_nil, Nat.reduceAdd, Nat.reduceSub, Nat.reduceLT, Nat.zero_add, List.replicate_succ, List.replicate_zero, List.cons_append, List.nil_append, exs_cons, exs_nil, ex_asgN, ex_asgT, ex_ret, ex_ife, ex_expr, ex_for, ex_par, ev_call, ev_callK, ev_o1, ev_o2, ev_var, ev_cst, ev_glob, ev_and, ev_or, ev_not, ev_isa, ev_lc, ev_tup, ev_idxT, ev_idxL, getV_zero, getV_succ, bnd, deref_d, asD_d, asI_int, asL_lst, asT_tup, onSeq_lst, onT_tup, evs_cons, evs_nil, evT_cons, evT_nil, if_true, Bool.false_eq_true, if_false, isTrueD_bl, Bool.not_true, Bool.not_false, and_self, List.set_cons_succ, List.set_cons_zero, thenO_nx, thenO_ret, finish_d, List.take_length, walked_tup, walked_lst, walked_eT, walked_eL, walked_zT, o1_lenT, o1_lenL, o1_tupleL, o1_int, o1_intb, o1_abs, o2_add, o2_sub, o2_lt, o2_le, o2_gt, eqD_int, neD_int, asDs_cons, asDs_nil, Option.map_some, bindT_tp, bindTs_cons, bindTs_nil, bindT_nm, isa, onBl_bl, natD, dij, Bool.false_and]
  · rw [decide_eq_false hij] at dij ⊢
    by_cases hp : 0 < at0 row j
    · have dp : decide ((0 : Int) < ((at0 row j : Nat) : Int)) = true := decide_eq_true (by omega)
      have es : ((at0 row j : Nat) : Int) - 1 = ((at0 row j - 1 : Nat) : Int) := by omega
      have g1 := row_at (l := ws) (i := i) (by omega)
      have g2 := row_at (l := ws) (i := j) (by omega)
      have x1 := z.hx i
      have x2 := z.hx j
      have w1 := z.hw i
      have w2 := z.hw j
      have st1 := r_law_step k κ (at0 row j - 1) (by omega) T
      have st2 := r_law_step k κ (at0 row i) (by omega) T
      have dd1 := dOf_le κ (at0 row j - 1)
      have dd2 := dOf_le κ (at0 row i)
      have m1 : mulOk ((at0 ws i : Nat) : Int) ((dOf κ (at0 row j - 1) : Nat) : Int) = true := mulOk_of (n := 40) (m := 40) (by unfold B; omega) (by unfold B; omega) (by omega)
      have m2 : mulOk ((at0 ws j : Nat) : Int) ((dOf κ (at0 row i) : Nat) : Int) = true := mulOk_of (n := 40) (m := 40) (by unfold B; omega) (by unfold B; omega) (by omega)
      have hd : decide (((at0 ws j : Nat) : Int) * ((dOf κ (at0 row i) : Nat) : Int) < ((at0 ws i : Nat) : Int) * ((dOf κ (at0 row j - 1) : Nat) : Int)) = decide (at0 ws j * dOf κ (at0 row i) < at0 ws i * dOf κ (at0 row j - 1)) := by
        rw [← Int.natCast_mul, ← Int.natCast_mul]
        exact decide_eq_decide.mpr (by omega)
      rw [decide_eq_true hp]
      unfold rightBody env8
      simp only [List.map_cons, List.map_nil, List.length_cons, List.length_nil, Nat.reduceAdd, Nat.reduceSub, Nat.reduceLT, Nat.zero_add, List.replicate_succ, List.replicate_zero, List.cons_append, List.nil_append, exs_cons, exs_nil, ex_asgN, ex_asgT, ex_ret, ex_ife, ex_expr, ex_for, ex_par, ev_call, ev_callK, ev_o1, ev_o2, ev_var, ev_cst, ev_glob, ev_and, ev_or, ev_not, ev_isa, ev_lc, ev_tup, ev_idxT, ev_idxL, getV_zero, getV_succ, bnd, deref_d, asD_d, asI_int, asL_lst, asT_tup, onSeq_lst, onT_tup, evs_cons, evs_nil, evT_cons, evT_nil, if_true, Bool.false_eq_true, if_false, isTrueD_bl, Bool.not_true, Bool.not_false, and_self, List.set_cons_succ, List.set_cons_zero, thenO_nx, thenO_ret, finish_d, List.take_length, walked_tup, walked_lst, walked_eT, walked_eL, walked_zT, o1_lenT, o1_lenL, o1_tupleL, o1_int, o1_intb, o1_abs, o2_add, o2_sub, o2_lt, o2_le, o2_gt, eqD_int, neD_int, asDs_cons, asDs_nil, Option.map_some, bindT_tp, bindTs_cons, bindTs_nil, bindT_nm, isa, onBl_bl, natD, dij, dp, es, g1, g2, st1, st2, o2_mul m1, o2_mul m2, hd, Bool.true_and]
      cases decide (at0 ws j * dOf κ (at0 row i) < at0 ws i * dOf κ (at0 row j - 1)) <;> rfl
    · have dp : decide ((0 : Int) < ((at0 row j : Nat) : Int)) = false := decide_eq_false (by omega)
      rw [decide_eq_false hp]
      unfold rightBody env8
      simp only [List.map_cons, List.map_nil, List.length_cons, List.length_nil, Nat.reduceAdd, Nat.reduceSub, Nat.reduceLT, Nat.zero_add, List.replicate_succ, List.replicate_zero, List.cons_append, List.nil_append, exs_cons, exs_nil, ex_asgN, ex_asgT, ex_ret, ex_ife, ex_expr, ex_for, ex_par, ev_call, ev_callK, ev_o1, ev_o2, ev_var, ev_cst, ev_glob, ev_and, ev_or, ev_not, ev_isa, ev_lc, ev_tup, ev_idxT, ev_idxL, getV_zero, getV_succ, bnd, deref_d, asD_d, asI_int, asL_lst, asT_tup, onSeq_lst, onT_tup, evs_cons, evs_nil, evT_cons, evT_nil, if_true, Bool.false_eq_true, if_false, isTrueD_bl, Bool.not_true, Bool.not_false, and_self, List.set_cons_succ, List.set_cons_zero, thenO_nx, thenO_ret, finish_d, List.take_length, walked_tup, walked_lst, walked_eT, walked_eL, walked_zT, o1_lenT, o1_lenL, o1_tupleL, o1_int, o1_intb, o1_abs, o2_add, o2_sub, o2_lt, o2_le, o2_gt, eqD_int, neD_int, asDs_cons, asDs_nil, Option.map_some, bindT_tp, bindTs_cons, bindTs_nil, bindT_nm, isa, onBl_bl, natD, dij, dp, Bool.false_and, Bool.and_false]
end
theorem rightB_len {ws : List Nat} {κ : Kd} {row : List Nat} (hl : row.length = ws.length) : ((List.range row.length).any fun i => (List.range row.length).any (badB ws κ row i)) = !rightB ws κ row := by
  unfold rightB
  rw [hl, Bool.not_not]
theorem r_shows (k : Nat) {ws : List Nat} (v : Votes ws) (s : Nat) (hs : s ≤ 500) (κ : Kd) (x : D) (S : Store) : callD tab (k + 5) 11 [.d (.tup (ws.map natD)), .d (.int (s : Int)), .d (kD κ), .d x] S = some (.d (.bl (showsB ws s κ x)), S) := by
  rw [callD_run (fn := f11) rfl rfl]
  have e1 := r_check_steps k v s hs κ S
  have e2 := r_are_seats (k + 1) v.l1 s x S
  cases ha : areB ws s x with
  | false =>
    have hw : showsB ws s κ x = false := by
      unfold areB at ha
      unfold showsB
      cases e : intsT ws.length x with
      | none => rfl
      | some ns =>
        rw [e] at ha
        simp only at ha ⊢
        rw [ha, Bool.false_and]
    rw [hw]
    rw [ha] at e2
    simp only [List.map_cons, List.map_nil, List.length_cons, List.length_nil, Nat.reduceAdd, Nat.reduceSub, Nat.reduceLT, Nat.zero_add, List.replicate_succ, List.replicate_zero, List.cons_append, List.nil_append, exs_cons, exs_nil, ex_asgN, ex_asgT, ex_ret, ex_ife, ex_expr, ex_for, ex_par, ev_call, ev_callK, ev_o1, ev_o2, ev_var, ev_cst, ev_glob, ev_and, ev_or, ev_not, ev_isa, ev_lc, ev_tup, ev_idxT, ev_idxL, getV_zero, getV_succ, bnd, deref_d, asD_d, asI_int, asL_lst, asT_tup, onSeq_lst, onT_tup, evs_cons, evs_nil, evT_cons, evT_nil, if_true, Bool.false_eq_true, if_false, isTrueD_bl, Bool.not_true, Bool.not_false, and_self, List.set_cons_succ, List.set_cons_zero, thenO_nx, thenO_ret, finish_d, List.take_length, walked_tup, walked_lst, walked_eT, walked_eL, walked_zT, o1_lenT, o1_lenL, o1_tupleL, o1_int, o1_intb, o1_abs, o2_add, o2_sub, o2_lt, o2_le, o2_gt, eqD_int, neD_int, asDs_cons, asDs_nil, Option.map_some, bindT_tp, bindTs_cons, bindTs_nil, bindT_nm, isa, onBl_bl, f11, e1, e2]
  | true =>
    rw [ha] at e2
    unfold areB at ha
    split at ha
    · rename_i ns e
      have hw : showsB ws s κ x = rightB ws κ (ns.map Int.toNat) := by
        unfold showsB
        rw [e]
        simp only
        rw [ha, Bool.true_and]
      obtain ⟨rfl, hl⟩ := intsT_out e
      rw [Bool.and_eq_true, List.all_eq_true, decide_eq_true_eq] at ha
      have hpos : ∀ x ∈ ns, 0 ≤ x := fun x hx => by
        have := ha.1 x hx
        unfold okS at this
        rw [Bool.and_eq_true, decide_eq_true_eq] at this
        exact this.1
      have hsum := sum_back hpos
      rw [hw]
      rw [nats_back hpos] at e2 ⊢
      generalize hrow : ns.map Int.toNat = row at *
      have hrl : row.length = ws.length := by rw [← hrow, List.length_map, hl]
      have z : Sz ws row := ⟨hrl, fun i => Nat.le_trans (v.each i) (by decide), fun i => by
        have := at0_le_sum row i
        omega⟩
      obtain ⟨a, b⟩ := out_at (C := callD tab (k + 4)) (f := 18) (body := showBody) (V := some (.d (.tup (ws.map natD)))) (S := some (.d (.int (s : Int)))) (K := some (.d (kD κ))) (row := row) (T := S) (bad := badB ws κ row) (fun i j hi hj => show_body (k + 3) z _ S i j hi hj) (List.range row.length) none none none none fun i hi => List.mem_range.mp hi
      rw [rightB_len hrl] at a b
      unfold inS showBody at a b
      cases hr : rightB ws κ row with
      | false =>
        have a' := a (by rw [hr]; rfl)
        simp only [List.map_cons, List.map_nil, List.length_cons, List.length_nil, Nat.reduceAdd, Nat.reduceSub, Nat.reduceLT, Nat.zero_add, List.replicate_succ, List.replicate_zero, List.cons_append, List.nil_append, exs_cons, exs_nil, ex_asgN, ex_asgT, ex_ret, ex_ife, ex_expr, ex_for, ex_par, ev_call, ev_callK, ev_o1, ev_o2, ev_var, ev_cst, ev_glob, ev_and, ev_or, ev_not, ev_isa, ev_lc, ev_tup, ev_idxT, ev_idxL, getV_zero, getV_succ, bnd, deref_d, asD_d, asI_int, asL_lst, asT_tup, onSeq_lst, onT_tup, evs_cons, evs_nil, evT_cons, evT_nil, if_true, Bool.false_eq_true, if_false, isTrueD_bl, Bool.not_true, Bool.not_false, and_self, List.set_cons_succ, List.set_cons_zero, thenO_nx, thenO_ret, finish_d, List.take_length, walked_tup, walked_lst, walked_eT, walked_eL, walked_zT, o1_lenT, o1_lenL, o1_tupleL, o1_int, o1_intb, o1_abs, o2_add, o2_sub, o2_lt, o2_le, o2_gt, eqD_int, neD_int, asDs_cons, asDs_nil, Option.map_some, bindT_tp, bindTs_cons, bindTs_nil, bindT_nm, isa, onBl_bl, f11, e1, e2, en_row, a']
      | true =>
        obtain ⟨ρ, b'⟩ := b (by rw [hr]; rfl)
        simp only [List.map_cons, List.map_nil, List.length_cons, List.length_nil, Nat.reduceAdd, Nat.reduceSub, Nat.reduceLT, Nat.zero_add, List.replicate_succ, List.replicate_zero, List.cons_append, List.nil_append, exs_cons, exs_nil, ex_asgN, ex_asgT, ex_ret, ex_ife, ex_expr, ex_for, ex_par, ev_call, ev_callK, ev_o1, ev_o2, ev_var, ev_cst, ev_glob, ev_and, ev_or, ev_not, ev_isa, ev_lc, ev_tup, ev_idxT, ev_idxL, getV_zero, getV_succ, bnd, deref_d, asD_d, asI_int, asL_lst, asT_tup, onSeq_lst, onT_tup, evs_cons, evs_nil, evT_cons, evT_nil, if_true, Bool.false_eq_true, if_false, isTrueD_bl, Bool.not_true, Bool.not_false, and_self, List.set_cons_succ, List.set_cons_zero, thenO_nx, thenO_ret, finish_d, List.take_length, walked_tup, walked_lst, walked_eT, walked_eL, walked_zT, o1_lenT, o1_lenL, o1_tupleL, o1_int, o1_intb, o1_abs, o2_add, o2_sub, o2_lt, o2_le, o2_gt, eqD_int, neD_int, asDs_cons, asDs_nil, Option.map_some, bindT_tp, bindTs_cons, bindTs_nil, bindT_nm, isa, onBl_bl, f11, e1, e2, en_row, b']
    · cases ha
theorem turns_nat0 (C : Call) (a b c v : D) (xs : List D) (S : Store) (hl : xs.length < 1000000) :
    turns (ev C 37) (.and (.isa .int (.var 5)) (.and (.not (.isa .bool (.var 5))) (.o2 .ge (.var 5) (.cst (.int 0))))) (.nm 5) [] [5] [some (.d a), some (.d b), some (.d c), some (.d v), none, none, none, none] xs [] S = some (xs.map fun x => .bl (match x with | .int i => nat0 i | _ => false), S) := by
  have := turns_mapI (g := ev C 37) (elt := .and (.isa .int (.var 5)) (.and (.not (.isa .bool (.var 5))) (.o2 .ge (.var 5) (.cst (.int 0))))) (tg := .nm 5) (own := [5]) (ρ := [some (.d a), some (.d b), some (.d c), some (.d v), none, none, none, none]) (S := S) (fun x => x) (fun x => .bl (match x with | .int i => nat0 i | _ => false)) xs [] (fun x _ => by
    refine ⟨[some (.d a), some (.d b), some (.d c), some (.d v), none, some (.d x), none, none], by simp [-Option.bind_some], ?_⟩
    cases x <;> (simp only [List.map_cons, List.map_nil, List.length_cons, List.length_nil, Nat.reduceAdd, Nat.reduceSub, Nat.reduceLT, Nat.zero_add, List.replicate_succ, List.replicate_zero, List.cons_append, List.nil_append, exs_cons, exs_nil, ex_asgN, ex_asgT, ex_ret, ex_ife, ex_expr, ex_for, ex_par, ev_call, ev_callK, ev_o1, ev_o2, ev_var, ev_cst, ev_glob, ev_and, ev_or, ev_not, ev_isa, ev_lc, ev_tup, ev_idxT, ev_idxL, getV_zero, getV_succ, bnd, deref_d, asD_d, asI_int, asL_lst, asT_tup, onSeq_lst, onT_tup, evs_cons, evs_nil, evT_cons, evT_nil, if_true, Bool.false_eq_true, if_false, isTrueD_bl, Bool.not_true, Bool.not_false, and_self, List.set_cons_succ, List.set_cons_zero, thenO_nx, thenO_ret, finish_d, List.take_length, walked_tup, walked_lst, walked_eT, walked_eL, walked_zT, o1_lenT, o1_lenL, o1_tupleL, o1_int, o1_intb, o1_abs, o2_add, o2_sub, o2_lt, o2_le, o2_gt, eqD_int, neD_int, asDs_cons, asDs_nil, Option.map_some, bindT_tp, bindTs_cons, bindTs_nil, bindT_nm, isa, onBl_bl, DL.isa, o2_ge]; try rfl)) (by simp [-Option.bind_some]; omega)
  rw [List.map_id', List.nil_append] at this
  exact this
theorem all_nat0 (xs : List D) : (xs.all fun x => match x with | .int i => nat0 i | _ => false) = match intsOf xs with | some ns => ns.all nat0 | none => false :=
  all_ints (p := fun x => match x with | .int i => nat0 i | _ => false) (q := nat0) (fun i => rfl) (fun x h => by
    cases x with
    | int i => exact absurd rfl (h i)
    | _ => rfl) xs
theorem r_law_right (k : Nat) {ws : List Nat} (h20 : ws.length ≤ 20) (hw3 : ∀ i, at0 ws i ≤ 3000000000) (s : Nat) (hs : s ≤ 1000) (κ : Kd) (x : D) (S : Store) : callD tab (k + 2) 18 [.d (.tup (ws.map natD)), .d (.int (s : Int)), .d (kD κ), .d x] S = some (.d (.bl (lawRB ws s κ x)), S) := by
  rw [callD_run (fn := f18) rfl rfl]
  cases x with
  | tup xs =>
    by_cases hl : xs.length = ws.length
    · have ht := turns_nat0 (callD tab (k + 1)) (.tup (ws.map natD)) (.int (s : Int)) (kD κ) (.tup xs) xs S (by omega)
      have ha := o1_all_map (fun x => match x with | .int i => nat0 i | _ => false) xs
      have hd : decide (xs.length = ws.length) = true := decide_eq_true hl
      have hi : intsT ws.length (.tup xs) = intsOf xs := if_pos hl
      rw [all_nat0] at ha
      unfold lawRB
      rw [hi]
      cases hq : intsOf xs with
      | none =>
        rw [hq] at ha
        simp only [List.map_cons, List.map_nil, List.length_cons, List.length_nil, Nat.reduceAdd, Nat.reduceSub, Nat.reduceLT, Nat.zero_add, List.replicate_succ, List.replicate_zero, List.cons_append, List.nil_append, exs_cons, exs_nil, ex_asgN, ex_asgT, ex_ret, ex_ife, ex_expr, ex_for, ex_par, ev_call, ev_callK, ev_o1, ev_o2, ev_var, ev_cst, ev_glob, ev_and, ev_or, ev_not, ev_isa, ev_lc, ev_tup, ev_idxT, ev_idxL, getV_zero, getV_succ, bnd, deref_d, asD_d, asI_int, asL_lst, asT_tup, onSeq_lst, onT_tup, evs_cons, evs_nil, evT_cons, evT_nil, if_true, Bool.false_eq_true, if_false, isTrueD_bl, Bool.not_true, Bool.not_false, and_self, List.set_cons_succ, List.set_cons_zero, thenO_nx, thenO_ret, finish_d, List.take_length, walked_tup, walked_lst, walked_eT, walked_eL, walked_zT, o1_lenT, o1_lenL, o1_tupleL, o1_int, o1_intb, o1_abs, o2_add, o2_sub, o2_lt, o2_le, o2_gt, eqD_int, neD_int, asDs_cons, asDs_nil, Option.map_some, bindT_tp, bindTs_cons, bindTs_nil, bindT_nm, isa, onBl_bl, f18, List.length_map, ne_len, hd, ht, ha]
      | some ns =>
        rw [hq] at ha
        have ex := ints_of hq
        cases hb0 : ns.all nat0 with
        | false =>
          simp only [hb0] at ha
          simp only [List.map_cons, List.map_nil, List.length_cons, List.length_nil, Nat.reduceAdd, Nat.reduceSub, Nat.reduceLT, Nat.zero_add, List.replicate_succ, List.replicate_zero, List.cons_append, List.nil_append, exs_cons, exs_nil, ex_asgN, ex_asgT, ex_ret, ex_ife, ex_expr, ex_for, ex_par, ev_call, ev_callK, ev_o1, ev_o2, ev_var, ev_cst, ev_glob, ev_and, ev_or, ev_not, ev_isa, ev_lc, ev_tup, ev_idxT, ev_idxL, getV_zero, getV_succ, bnd, deref_d, asD_d, asI_int, asL_lst, asT_tup, onSeq_lst, onT_tup, evs_cons, evs_nil, evT_cons, evT_nil, if_true, Bool.false_eq_true, if_false, isTrueD_bl, Bool.not_true, Bool.not_false, and_self, List.set_cons_succ, List.set_cons_zero, thenO_nx, thenO_ret, finish_d, List.take_length, walked_tup, walked_lst, walked_eT, walked_eL, walked_zT, o1_lenT, o1_lenL, o1_tupleL, o1_int, o1_intb, o1_abs, o2_add, o2_sub, o2_lt, o2_le, o2_gt, eqD_int, neD_int, asDs_cons, asDs_nil, Option.map_some, bindT_tp, bindTs_cons, bindTs_nil, bindT_nm, isa, onBl_bl, f18, List.length_map, ne_len, hd, ht, ha, hb0, Bool.false_and]
        | true =>
          simp only [hb0] at ha
          have hsum : o1 .sumT (.tup xs) = some (.int ns.sum) := by
            rw [ex]
            exact o1_sumT ns
          cases hb : decide (ns.sum = (s : Int)) with
          | false => simp only [List.map_cons, List.map_nil, List.length_cons, List.length_nil, Nat.reduceAdd, Nat.reduceSub, Nat.reduceLT, Nat.zero_add, List.replicate_succ, List.replicate_zero, List.cons_append, List.nil_append, exs_cons, exs_nil, ex_asgN, ex_asgT, ex_ret, ex_ife, ex_expr, ex_for, ex_par, ev_call, ev_callK, ev_o1, ev_o2, ev_var, ev_cst, ev_glob, ev_and, ev_or, ev_not, ev_isa, ev_lc, ev_tup, ev_idxT, ev_idxL, getV_zero, getV_succ, bnd, deref_d, asD_d, asI_int, asL_lst, asT_tup, onSeq_lst, onT_tup, evs_cons, evs_nil, evT_cons, evT_nil, if_true, Bool.false_eq_true, if_false, isTrueD_bl, Bool.not_true, Bool.not_false, and_self, List.set_cons_succ, List.set_cons_zero, thenO_nx, thenO_ret, finish_d, List.take_length, walked_tup, walked_lst, walked_eT, walked_eL, walked_zT, o1_lenT, o1_lenL, o1_tupleL, o1_int, o1_intb, o1_abs, o2_add, o2_sub, o2_lt, o2_le, o2_gt, eqD_int, neD_int, asDs_cons, asDs_nil, Option.map_some, bindT_tp, bindTs_cons, bindTs_nil, bindT_nm, isa, onBl_bl, f18, List.length_map, ne_len, hd, ht, ha, hsum, hb, hb0, Bool.false_and, Bool.true_and]
          | true =>
            have hpos : ∀ x ∈ ns, 0 ≤ x := fun x hx => of_decide_eq_true (List.all_eq_true.mp hb0 x hx)
            have hsum2 := sum_back hpos
            have hss := of_decide_eq_true hb
            have exr := ex
            rw [nats_back hpos] at exr
            simp only [hb, hb0, Bool.true_and]
            generalize hrow : ns.map Int.toNat = row at *
            have hrl : row.length = ws.length := by rw [← hl, exr, List.length_map]
            have z : Sz ws row := ⟨hrl, hw3, fun i => by
              have := at0_le_sum row i
              omega⟩
            obtain ⟨a, b⟩ := out_at (C := callD tab (k + 1)) (f := 18) (body := rightBody) (V := some (.d (.tup (ws.map natD)))) (S := some (.d (.int (s : Int)))) (K := some (.d (kD κ))) (row := row) (T := S) (bad := badB ws κ row) (fun i j hi hj => right_body k z _ S i j hi hj) (List.range row.length) none none none none fun i hi => List.mem_range.mp hi
            rw [rightB_len hrl] at a b
            unfold inS rightBody at a b
            rw [← exr] at a b
            have hen : enumD 0 xs = (List.range row.length).map (iEn row) := by
              rw [exr]
              exact en_row row
            cases hr : rightB ws κ row with
            | false =>
              have a' := a (by rw [hr]; rfl)
              simp only [List.map_cons, List.map_nil, List.length_cons, List.length_nil, Nat.reduceAdd, Nat.reduceSub, Nat.reduceLT, Nat.zero_add, List.replicate_succ, List.replicate_zero, List.cons_append, List.nil_append, exs_cons, exs_nil, ex_asgN, ex_asgT, ex_ret, ex_ife, ex_expr, ex_for, ex_par, ev_call, ev_callK, ev_o1, ev_o2, ev_var, ev_cst, ev_glob, ev_and, ev_or, ev_not, ev_isa, ev_lc, ev_tup, ev_idxT, ev_idxL, getV_zero, getV_succ, bnd, deref_d, asD_d, asI_int, asL_lst, asT_tup, onSeq_lst, onT_tup, evs_cons, evs_nil, evT_cons, evT_nil, if_true, Bool.false_eq_true, if_false, isTrueD_bl, Bool.not_true, Bool.not_false, and_self, List.set_cons_succ, List.set_cons_zero, thenO_nx, thenO_ret, finish_d, List.take_length, walked_tup, walked_lst, walked_eT, walked_eL, walked_zT, o1_lenT, o1_lenL, o1_tupleL, o1_int, o1_intb, o1_abs, o2_add, o2_sub, o2_lt, o2_le, o2_gt, eqD_int, neD_int, asDs_cons, asDs_nil, Option.map_some, bindT_tp, bindTs_cons, bindTs_nil, bindT_nm, isa, onBl_bl, f18, List.length_map, ne_len, hd, ht, ha, hsum, hb, hen, a']
            | true =>
              obtain ⟨ρ, b'⟩ := b (by rw [hr]; rfl)
              simp only [List.map_cons, List.map_nil, List.length_cons, List.length_nil, Nat.reduceAdd, Nat.reduceSub, Nat.reduceLT, Nat.zero_add, List.replicate_succ, List.replicate_zero, List.cons_append, List.nil_append, exs_cons, exs_nil, ex_asgN, ex_asgT, ex_ret, ex_ife, ex_expr, ex_for, ex_par, ev_call, ev_callK, ev_o1, ev_o2, ev_var, ev_cst, ev_glob, ev_and, ev_or, ev_not, ev_isa, ev_lc, ev_tup, ev_idxT, ev_idxL, getV_zero, getV_succ, bnd, deref_d, asD_d, asI_int, asL_lst, asT_tup, onSeq_lst, onT_tup, evs_cons, evs_nil, evT_cons, evT_nil, if_true, Bool.false_eq_true, if_false, isTrueD_bl, Bool.not_true, Bool.not_false, and_self, List.set_cons_succ, List.set_cons_zero, thenO_nx, thenO_ret, finish_d, List.take_length, walked_tup, walked_lst, walked_eT, walked_eL, walked_zT, o1_lenT, o1_lenL, o1_tupleL, o1_int, o1_intb, o1_abs, o2_add, o2_sub, o2_lt, o2_le, o2_gt, eqD_int, neD_int, asDs_cons, asDs_nil, Option.map_some, bindT_tp, bindTs_cons, bindTs_nil, bindT_nm, isa, onBl_bl, f18, List.length_map, ne_len, hd, ht, ha, hsum, hb, hen, b']
    · have hd : decide (xs.length = ws.length) = false := decide_eq_false hl
      have hi : intsT ws.length (.tup xs) = none := if_neg hl
      unfold lawRB
      rw [hi]
      simp only [List.map_cons, List.map_nil, List.length_cons, List.length_nil, Nat.reduceAdd, Nat.reduceSub, Nat.reduceLT, Nat.zero_add, List.replicate_succ, List.replicate_zero, List.cons_append, List.nil_append, exs_cons, exs_nil, ex_asgN, ex_asgT, ex_ret, ex_ife, ex_expr, ex_for, ex_par, ev_call, ev_callK, ev_o1, ev_o2, ev_var, ev_cst, ev_glob, ev_and, ev_or, ev_not, ev_isa, ev_lc, ev_tup, ev_idxT, ev_idxL, getV_zero, getV_succ, bnd, deref_d, asD_d, asI_int, asL_lst, asT_tup, onSeq_lst, onT_tup, evs_cons, evs_nil, evT_cons, evT_nil, if_true, Bool.false_eq_true, if_false, isTrueD_bl, Bool.not_true, Bool.not_false, and_self, List.set_cons_succ, List.set_cons_zero, thenO_nx, thenO_ret, finish_d, List.take_length, walked_tup, walked_lst, walked_eT, walked_eL, walked_zT, o1_lenT, o1_lenL, o1_tupleL, o1_int, o1_intb, o1_abs, o2_add, o2_sub, o2_lt, o2_le, o2_gt, eqD_int, neD_int, asDs_cons, asDs_nil, Option.map_some, bindT_tp, bindTs_cons, bindTs_nil, bindT_nm, isa, onBl_bl, f18, List.length_map, ne_len, hd]
  | _ =>
    simp only [List.map_cons, List.map_nil, List.length_cons, List.length_nil, Nat.reduceAdd, Nat.reduceSub, Nat.reduceLT, Nat.zero_add, List.replicate_succ, List.replicate_zero, List.cons_append, List.nil_append, exs_cons, exs_nil, ex_asgN, ex_asgT, ex_ret, ex_ife, ex_expr, ex_for, ex_par, ev_call, ev_callK, ev_o1, ev_o2, ev_var, ev_cst, ev_glob, ev_and, ev_or, ev_not, ev_isa, ev_lc, ev_tup, ev_idxT, ev_idxL, getV_zero, getV_succ, bnd, deref_d, asD_d, asI_int, asL_lst, asT_tup, onSeq_lst, onT_tup, evs_cons, evs_nil, evT_cons, evT_nil, if_true, Bool.false_eq_true, if_false, isTrueD_bl, Bool.not_true, Bool.not_false, and_self, List.set_cons_succ, List.set_cons_zero, thenO_nx, thenO_ret, finish_d, List.take_length, walked_tup, walked_lst, walked_eT, walked_eL, walked_zT, o1_lenT, o1_lenL, o1_tupleL, o1_int, o1_intb, o1_abs, o2_add, o2_sub, o2_lt, o2_le, o2_gt, eqD_int, neD_int, asDs_cons, asDs_nil, Option.map_some, bindT_tp, bindTs_cons, bindTs_nil, bindT_nm, isa, onBl_bl, f18]
    rfl
end K56
end

section
set_option autoImplicit false
set_option linter.all false
set_option maxRecDepth 20000
/-! k56: _law_is_bounded; parts of one kind. -/
namespace K56
open PySem DL
theorem zip_row {ws row : List Nat} (hl : row.length = ws.length) : zipD (row.map natD) (ws.map natD) = (List.range ws.length).map fun i => .tup [natD (at0 row i), natD (at0 ws i)] := by
  rw [← map_getD natD row, ← map_getD natD ws, hl]
  exact zipD_map _ _ _
theorem or_self_if (a b : Bool) (T : Store) : (if a = true then some (E.d (.bl true), T) else some (E.d (.bl b), T)) = some (.d (.bl (a || b)), T) := by cases a <;> rfl
theorem r_bounded (k : Nat) {ws : List Nat} (v : Votes ws) (s : Nat) (hs : s ≤ 1000) (κ : Kd) (row : List Nat) (hl : row.length = ws.length) (hx : ∀ i, at0 row i ≤ 100000) (S : Store) : callD tab (k + 1) 20 [.d (.tup (ws.map natD)), .d (.int (s : Int)), .d (kD κ), .d (.tup (row.map natD))] S = some (.d (.bl (boundB ws s κ row)), S) := by
  rw [callD_run (fn := f20) rfl rfl]
  have hp := v.pos
  have hle := v.le
  have l1 := v.l1
  have hz := zip_row hl
  have d1 : divOk ((ws.sum : Nat) : Int) = true := divOk_of (n := 60) (by omega) (by unfold B; omega) (by omega)
  have q1 := kd_down κ
  have q2 := kd_up κ
  have mv : ∀ i, mulOk ((at0 ws i : Nat) : Int) (s : Int) = true := fun i => by
    have : at0 ws i ≤ 1000000000 := v.each i
    exact mulOk_of (n := 40) (m := 20) (by unfold B; omega) (by unfold B; omega) (by omega)
  have mr : ∀ i, mulOk ((at0 row i : Nat) : Int) ((ws.sum : Nat) : Int) = true := fun i => by
    have := hx i
    exact mulOk_of (n := 40) (m := 60) (by unfold B; omega) (by unfold B; omega) (by omega)
  have mr1 : ∀ i, mulOk (((at0 row i : Nat) : Int) - 1) ((ws.sum : Nat) : Int) = true := fun i => by
    have := hx i
    exact mulOk_of (n := 40) (m := 60) (by unfold B; omega) (by unfold B; omega) (by omega)
  cases κ with
  | down =>
    have ht := turns_mapI (g := ev (callD tab k) 38) (elt := .o2 .ge (.var 5) (.o2 .fdiv (.o2 .mul (.var 6) (.var 1)) (.var 4))) (tg := .tp [(.nm 5), (.nm 6)]) (own := [5, 6]) (ρ := [some (.d (.tup (ws.map natD))), some (.d (.int (s : Int))), some (.d (kD .down)), some (.d (.tup (row.map natD))), some (.d (.int ((ws.sum : Nat) : Int))), none, none]) (S := S) (fun i => .tup [natD (at0 row i), natD (at0 ws i)]) (fun i => .bl (decide (at0 ws i * s / ws.sum ≤ at0 row i))) (List.range ws.length) [] (fun i hi => by
      refine ⟨[some (.d (.tup (ws.map natD))), some (.d (.int (s : Int))), some (.d (kD .down)), some (.d (.tup (row.map natD))), some (.d (.int ((ws.sum : Nat) : Int))), some (.d (.int ((at0 row i : Nat) : Int))), some (.d (.int ((at0 ws i : Nat) : Int)))], by simp [-Option.bind_some, natD], ?_⟩
      have e1 : ((at0 ws i : Nat) : Int) * (s : Int) / ((ws.sum : Nat) : Int) = ((at0 ws i * s / ws.sum : Nat) : Int) := rfl
      have hd : decide (((at0 ws i * s / ws.sum : Nat) : Int) ≤ ((at0 row i : Nat) : Int)) = decide (at0 ws i * s / ws.sum ≤ at0 row i) := decide_eq_decide.mpr Int.ofNat_le
      simp only [List.map_cons, List.map_nil, List.length_cons, List.length_nil, Nat.reduceAdd, Nat.reduceSub, Nat.reduceLT, Nat.zero_add, List.replicate_succ, List.replicate_zero, List.cons_append, List.nil_append, exs_cons, exs_nil, ex_asgN, ex_asgT, ex_ret, ex_ife, ex_expr, ex_for, ex_par, ev_call, ev_callK, ev_o1, ev_o2, ev_var, ev_cst, ev_glob, ev_and, ev_or, ev_not, ev_isa, ev_lc, ev_tup, ev_idxT, ev_idxL, getV_zero, getV_succ, bnd, deref_d, asD_d, asI_int, asL_lst, asT_tup, onSeq_lst, onT_tup, evs_cons, evs_nil, evT_cons, evT_nil, if_true, Bool.false_eq_true, if_false, isTrueD_bl, Bool.not_true, Bool.not_false, and_self, List.set_cons_succ, List.set_cons_zero, thenO_nx, thenO_ret, finish_d, List.take_length, walked_tup, walked_lst, walked_eT, walked_eL, walked_zT, o1_lenT, o1_lenL, o1_tupleL, o1_int, o1_intb, o1_abs, o2_add, o2_sub, o2_lt, o2_le, o2_gt, eqD_int, neD_int, asDs_cons, asDs_nil, Option.map_some, bindT_tp, bindTs_cons, bindTs_nil, bindT_nm, isa, onBl_bl, o2_mul (mv i), o2_fdiv d1, e1, o2_ge, hd]) (by simp [-Option.bind_some]; omega)
    rw [List.nil_append] at ht
    have ha := o1_all_map (fun i => decide (at0 ws i * s / ws.sum ≤ at0 row i)) (List.range ws.length)
    simp only [List.map_cons, List.map_nil, List.length_cons, List.length_nil, Nat.reduceAdd, Nat.reduceSub, Nat.reduceLT, Nat.zero_add, List.replicate_succ, List.replicate_zero, List.cons_append, List.nil_append, exs_cons, exs_nil, ex_asgN, ex_asgT, ex_ret, ex_ife, ex_expr, ex_for, ex_par, ev_call, ev_callK, ev_o1, ev_o2, ev_var, ev_cst, ev_glob, ev_and, ev_or, ev_not, ev_isa, ev_lc, ev_tup, ev_idxT, ev_idxL, getV_zero, getV_succ, bnd, deref_d, asD_d, asI_int, asL_lst, asT_tup, onSeq_lst, onT_tup, evs_cons, evs_nil, evT_cons, evT_nil, if_true, Bool.false_eq_true, if_false, isTrueD_bl, Bool.not_true, Bool.not_false, and_self, List.set_cons_succ, List.set_cons_zero, thenO_nx, thenO_ret, finish_d, List.take_length, walked_tup, walked_lst, walked_eT, walked_eL, walked_zT, o1_lenT, o1_lenL, o1_tupleL, o1_int, o1_intb, o1_abs, o2_add, o2_sub, o2_lt, o2_le, o2_gt, eqD_int, neD_int, asDs_cons, asDs_nil, Option.map_some, bindT_tp, bindTs_cons, bindTs_nil, bindT_nm, isa, onBl_bl, f20, o1_sumT_nat, q1, decide_true, hz, ht, ha, boundB]
  | up =>
    have dn : decide (Kd.up = Kd.down) = false := rfl
    have ht := turns_mapI (g := ev (callD tab k) 38) (elt := .or (.o2 .lt (.o2 .mul (.o2 .sub (.var 5) (.cst (.int 1))) (.var 4)) (.o2 .mul (.var 6) (.var 1))) (.o2 .eq (.var 5) (.cst (.int 0)))) (tg := .tp [(.nm 5), (.nm 6)]) (own := [5, 6]) (ρ := [some (.d (.tup (ws.map natD))), some (.d (.int (s : Int))), some (.d (kD .up)), some (.d (.tup (row.map natD))), some (.d (.int ((ws.sum : Nat) : Int))), none, none]) (S := S) (fun i => .tup [natD (at0 row i), natD (at0 ws i)]) (fun i => .bl (decide (((at0 row i : Int) - 1) * (ws.sum : Int) < ((at0 ws i : Nat) : Int) * (s : Int)) || decide (at0 row i = 0))) (List.range ws.length) [] (fun i hi => by
      refine ⟨[some (.d (.tup (ws.map natD))), some (.d (.int (s : Int))), some (.d (kD .up)), some (.d (.tup (row.map natD))), some (.d (.int ((ws.sum : Nat) : Int))), some (.d (.int ((at0 row i : Nat) : Int))), some (.d (.int ((at0 ws i : Nat) : Int)))], by simp [-Option.bind_some, natD], ?_⟩
      have hd : decide (((at0 row i : Nat) : Int) = 0) = decide (at0 row i = 0) := decide_eq_decide.mpr (by omega)
      simp only [List.map_cons, List.map_nil, List.length_cons, List.length_nil, Nat.reduceAdd, Nat.reduceSub, Nat.reduceLT, Nat.zero_add, List.replicate_succ, List.replicate_zero, List.cons_append, List.nil_append, exs_cons, exs_nil, ex_asgN, ex_asgT, ex_ret, ex_ife, ex_expr, ex_for, ex_par, ev_call, ev_callK, ev_o1, ev_o2, ev_var, ev_cst, ev_glob, ev_and, ev_or, ev_not, ev_isa, ev_lc, ev_tup, ev_idxT, ev_idxL, getV_zero, getV_succ, bnd, deref_d, asD_d, asI_int, asL_lst, asT_tup, onSeq_lst, onT_tup, evs_cons, evs_nil, evT_cons, evT_nil, if_true, Bool.false_eq_true, if_false, isTrueD_bl, Bool.not_true, Bool.not_false, and_self, List.set_cons_succ, List.set_cons_zero, thenO_nx, thenO_ret, finish_d, List.take_length, walked_tup, walked_lst, walked_eT, walked_eL, walked_zT, o1_lenT, o1_lenL, o1_tupleL, o1_int, o1_intb, o1_abs, o2_add, o2_sub, o2_lt, o2_le, o2_gt, eqD_int, neD_int, asDs_cons, asDs_nil, Option.map_some, bindT_tp, bindTs_cons, bindTs_nil, bindT_nm, isa, onBl_bl, o2_mul (mv i), o2_mul (mr1 i), hd, or_self_if]) (by simp [-Option.bind_some]; omega)
    rw [List.nil_append] at ht
    have ha := o1_all_map (fun i => decide (((at0 row i : Int) - 1) * (ws.sum : Int) < ((at0 ws i : Nat) : Int) * (s : Int)) || decide (at0 row i = 0)) (List.range ws.length)
    simp only [List.map_cons, List.map_nil, List.length_cons, List.length_nil, Nat.reduceAdd, Nat.reduceSub, Nat.reduceLT, Nat.zero_add, List.replicate_succ, List.replicate_zero, List.cons_append, List.nil_append, exs_cons, exs_nil, ex_asgN, ex_asgT, ex_ret, ex_ife, ex_expr, ex_for, ex_par, ev_call, ev_callK, ev_o1, ev_o2, ev_var, ev_cst, ev_glob, ev_and, ev_or, ev_not, ev_isa, ev_lc, ev_tup, ev_idxT, ev_idxL, getV_zero, getV_succ, bnd, deref_d, asD_d, asI_int, asL_lst, asT_tup, onSeq_lst, onT_tup, evs_cons, evs_nil, evT_cons, evT_nil, if_true, Bool.false_eq_true, if_false, isTrueD_bl, Bool.not_true, Bool.not_false, and_self, List.set_cons_succ, List.set_cons_zero, thenO_nx, thenO_ret, finish_d, List.take_length, walked_tup, walked_lst, walked_eT, walked_eL, walked_zT, o1_lenT, o1_lenL, o1_tupleL, o1_int, o1_intb, o1_abs, o2_add, o2_sub, o2_lt, o2_le, o2_gt, eqD_int, neD_int, asDs_cons, asDs_nil, Option.map_some, bindT_tp, bindTs_cons, bindTs_nil, bindT_nm, isa, onBl_bl, f20, o1_sumT_nat, q1, q2, dn, decide_true, hz, ht, ha, boundB]
  | half =>
    have dn : decide (Kd.half = Kd.down) = false := rfl
    have du : decide (Kd.half = Kd.up) = false := rfl
    have ht := turns_mapI (g := ev (callD tab k) 37) (elt := .o2 .lt (.o1 .abs (.o2 .sub (.o2 .mul (.var 5) (.var 4)) (.o2 .mul (.var 6) (.var 1)))) (.var 4)) (tg := .tp [(.nm 5), (.nm 6)]) (own := [5, 6]) (ρ := [some (.d (.tup (ws.map natD))), some (.d (.int (s : Int))), some (.d (kD .half)), some (.d (.tup (row.map natD))), some (.d (.int ((ws.sum : Nat) : Int))), none, none]) (S := S) (fun i => .tup [natD (at0 row i), natD (at0 ws i)]) (fun i => .bl (decide ((if ((at0 row i : Nat) : Int) * (ws.sum : Int) - ((at0 ws i : Nat) : Int) * (s : Int) < 0 then -(((at0 row i : Nat) : Int) * (ws.sum : Int) - ((at0 ws i : Nat) : Int) * (s : Int)) else ((at0 row i : Nat) : Int) * (ws.sum : Int) - ((at0 ws i : Nat) : Int) * (s : Int)) < (ws.sum : Int)))) (List.range ws.length) [] (fun i hi => by
      refine ⟨[some (.d (.tup (ws.map natD))), some (.d (.int (s : Int))), some (.d (kD .half)), some (.d (.tup (row.map natD))), some (.d (.int ((ws.sum : Nat) : Int))), some (.d (.int ((at0 row i : Nat) : Int))), some (.d (.int ((at0 ws i : Nat) : Int)))], by simp [-Option.bind_some, natD], ?_⟩
      simp only [List.map_cons, List.map_nil, List.length_cons, List.length_nil, Nat.reduceAdd, Nat.reduceSub, Nat.reduceLT, Nat.zero_add, List.replicate_succ, List.replicate_zero, List.cons_append, List.nil_append, exs_cons, exs_nil, ex_asgN, ex_asgT, ex_ret, ex_ife, ex_expr, ex_for, ex_par, ev_call, ev_callK, ev_o1, ev_o2, ev_var, ev_cst, ev_glob, ev_and, ev_or, ev_not, ev_isa, ev_lc, ev_tup, ev_idxT, ev_idxL, getV_zero, getV_succ, bnd, deref_d, asD_d, asI_int, asL_lst, asT_tup, onSeq_lst, onT_tup, evs_cons, evs_nil, evT_cons, evT_nil, if_true, Bool.false_eq_true, if_false, isTrueD_bl, Bool.not_true, Bool.not_false, and_self, List.set_cons_succ, List.set_cons_zero, thenO_nx, thenO_ret, finish_d, List.take_length, walked_tup, walked_lst, walked_eT, walked_eL, walked_zT, o1_lenT, o1_lenL, o1_tupleL, o1_int, o1_intb, o1_abs, o2_add, o2_sub, o2_lt, o2_le, o2_gt, eqD_int, neD_int, asDs_cons, asDs_nil, Option.map_some, bindT_tp, bindTs_cons, bindTs_nil, bindT_nm, isa, onBl_bl, o2_mul (mv i), o2_mul (mr i)]) (by simp [-Option.bind_some]; omega)
    rw [List.nil_append] at ht
    have ha := o1_all_map (fun i => decide ((if ((at0 row i : Nat) : Int) * (ws.sum : Int) - ((at0 ws i : Nat) : Int) * (s : Int) < 0 then -(((at0 row i : Nat) : Int) * (ws.sum : Int) - ((at0 ws i : Nat) : Int) * (s : Int)) else ((at0 row i : Nat) : Int) * (ws.sum : Int) - ((at0 ws i : Nat) : Int) * (s : Int)) < (ws.sum : Int))) (List.range ws.length)
    have hd : decide (((ws.length : Nat) : Int) = 2) = decide (ws.length = 2) := decide_eq_decide.mpr (by omega)
    cases hc : decide (ws.length = 2) with
    | true =>
      rw [hc] at hd
      simp only [List.map_cons, List.map_nil, List.length_cons, List.length_nil, Nat.reduceAdd, Nat.reduceSub, Nat.reduceLT, Nat.zero_add, List.replicate_succ, List.replicate_zero, List.cons_append, List.nil_append, exs_cons, exs_nil, ex_asgN, ex_asgT, ex_ret, ex_ife, ex_expr, ex_for, ex_par, ev_call, ev_callK, ev_o1, ev_o2, ev_var, ev_cst, ev_glob, ev_and, ev_or, ev_not, ev_isa, ev_lc, ev_tup, ev_idxT, ev_idxL, getV_zero, getV_succ, bnd, deref_d, asD_d, asI_int, asL_lst, asT_tup, onSeq_lst, onT_tup, evs_cons, evs_nil, evT_cons, evT_nil, if_true, Bool.false_eq_true, if_false, isTrueD_bl, Bool.not_true, Bool.not_false, and_self, List.set_cons_succ, List.set_cons_zero, thenO_nx, thenO_ret, finish_d, List.take_length, walked_tup, walked_lst, walked_eT, walked_eL, walked_zT, o1_lenT, o1_lenL, o1_tupleL, o1_int, o1_intb, o1_abs, o2_add, o2_sub, o2_lt, o2_le, o2_gt, eqD_int, neD_int, asDs_cons, asDs_nil, Option.map_some, bindT_tp, bindTs_cons, bindTs_nil, bindT_nm, isa, onBl_bl, f20, o1_sumT_nat, q1, q2, dn, du, List.length_map, hd, hz, ht, ha, boundB, hc, Bool.false_or]
    | false =>
      rw [hc] at hd
      simp only [List.map_cons, List.map_nil, List.length_cons, List.length_nil, Nat.reduceAdd, Nat.reduceSub, Nat.reduceLT, Nat.zero_add, List.replicate_succ, List.replicate_zero, List.cons_append, List.nil_append, exs_cons, exs_nil, ex_asgN, ex_asgT, ex_ret, ex_ife, ex_expr, ex_for, ex_par, ev_call, ev_callK, ev_o1, ev_o2, ev_var, ev_cst, ev_glob, ev_and, ev_or, ev_not, ev_isa, ev_lc, ev_tup, ev_idxT, ev_idxL, getV_zero, getV_succ, bnd, deref_d, asD_d, asI_int, asL_lst, asT_tup, onSeq_lst, onT_tup, evs_cons, evs_nil, evT_cons, evT_nil, if_true, Bool.false_eq_true, if_false, isTrueD_bl, Bool.not_true, Bool.not_false, and_self, List.set_cons_succ, List.set_cons_zero, thenO_nx, thenO_ret, finish_d, List.take_length, walked_tup, walked_lst, walked_eT, walked_eL, walked_zT, o1_lenT, o1_lenL, o1_tupleL, o1_int, o1_intb, o1_abs, o2_add, o2_sub, o2_lt, o2_le, o2_gt, eqD_int, neD_int, asDs_cons, asDs_nil, Option.map_some, bindT_tp, bindTs_cons, bindTs_nil, bindT_nm, isa, onBl_bl, f20, o1_sumT_nat, q1, q2, dn, du, List.length_map, hd, hz, ht, ha, boundB, hc, Bool.true_or]
/-! ### rows that are right -/
def goodL (ws : List Nat) (s : Nat) (κ : Kd) : List (List Nat) := (everyL ws.length s).filter (rightB ws κ)
theorem every_ok {n s : Nat} {r : List Nat} (h : r ∈ everyL n s) : r.length = n ∧ r.sum = s := by
  unfold everyL at h
  rw [List.mem_filter, decide_eq_true_eq] at h
  exact ⟨(iterG_ok s n r h.1).1, h.2⟩
theorem every_in {n s : Nat} {r : List Nat} (h1 : r.length = n) (h2 : r.sum = s) : r ∈ everyL n s := by
  unfold everyL
  rw [List.mem_filter]
  exact ⟨iterG_all s n r h1 (by omega), decide_eq_true h2⟩
theorem good_ok {ws : List Nat} {s : Nat} {κ : Kd} {r : List Nat} (h : r ∈ goodL ws s κ) : r.length = ws.length ∧ r.sum = s ∧ rightB ws κ r = true := by
  unfold goodL at h
  rw [List.mem_filter] at h
  exact ⟨(every_ok h.1).1, (every_ok h.1).2, h.2⟩
theorem good_in {ws : List Nat} {s : Nat} {κ : Kd} {r : List Nat} (h1 : r.length = ws.length) (h2 : r.sum = s) (h3 : rightB ws κ r = true) : r ∈ goodL ws s κ := by
  unfold goodL
  rw [List.mem_filter]
  exact ⟨every_in h1 h2, h3⟩
theorem law_row {ws : List Nat} {s : Nat} {κ : Kd} {r : List Nat} (h1 : r.length = ws.length) (h2 : r.sum = s) : lawRB ws s κ (rowT r) = rightB ws κ r := by
  have hi : intsT ws.length (rowT r) = some (r.map fun x : Nat => (x : Int)) := by
    show (if (r.map natD).length = ws.length then intsOf (r.map natD) else none) = _
    rw [if_pos (by rw [List.length_map]; exact h1), ints_nat]
  have hn : (r.map fun x : Nat => (x : Int)).map Int.toNat = r := by
    rw [List.map_map]
    rw [show (Int.toNat ∘ fun x : Nat => (x : Int)) = fun x => x from by funext x; simp]
    exact List.map_id' r
  unfold lawRB
  rw [hi]
  show ((r.map fun x : Nat => (x : Int)).all nat0 && (decide ((r.map fun x : Nat => (x : Int)).sum = (s : Int)) && rightB ws κ ((r.map fun x : Nat => (x : Int)).map Int.toNat))) = _
  have a1 : (r.map fun x : Nat => (x : Int)).all nat0 = true := by
    rw [List.all_eq_true]
    intro x hx
    rw [List.mem_map] at hx
    obtain ⟨y, _, rfl⟩ := hx
    exact decide_eq_true (by omega)
  have a2 : (r.map fun x : Nat => (x : Int)).sum = (s : Int) := by
    have := sum_cast r fun x => x
    rw [List.map_id'] at this
    rw [this, h2]
  rw [a1, decide_eq_true a2, hn]
  rfl
theorem every_len {n s : Nat} (hn : n ≤ 4) (hs : s ≤ 9) : (everyL n s).length ≤ 10000 := by
  have a := iterG_len s n
  have b : (s + 1) ^ n ≤ 10 ^ 4 := Nat.le_trans (Nat.pow_le_pow_left (by omega) _) (Nat.pow_le_pow_right (by decide) hn)
  have c : (everyL n s).length ≤ (iterG s n).length := List.length_filter_le _ _
  omega
theorem o1_any_map {A : Type} (f : A → Bool) (l : List A) : o1 .any (.lst (l.map fun a => D.bl (f a))) = some (.bl (l.any f)) := by
  show (boolsOf (l.map fun a => D.bl (f a))).bind _ = _
  have e : (l.map fun a => D.bl (f a)) = (l.map f).map D.bl := by rw [List.map_map]; rfl
  rw [e, boolsOf_map, bnd, List.any_map]
  rfl
/-- rows as data may be compared -/
theorem rows_ok : ∀ rs : List (List Nat), D.flats (rs.map rowT) = true ∧ PyData.canLayAll0 (D.pys (rs.map rowT)) = true ∧ PyData.depthAll (D.pys (rs.map rowT)) ≤ 1
  | [] => ⟨rfl, rfl, Nat.zero_le _⟩
  | r :: rs => by
    obtain ⟨h1, h2, h3⟩ := rows_ok rs
    obtain ⟨g1, g2, g3⟩ := nats_ok r
    have e : (r :: rs).map rowT = .tup (r.map natD) :: rs.map rowT := rfl
    rw [e]
    refine ⟨?_, ?_, ?_⟩
    · simp only [D.flats, D.flat, g1, h1, Bool.and_true]
    · simp only [D.pys, D.py, PyData.canLayAll0, PyData.canLay0, g2, h2, Bool.and_true]
    · simp only [D.pys, D.py, PyData.depthAll, PyData.depth, g3]
      omega
theorem eqOk_rows (rs : List (List Nat)) : eqOk (.lst (rs.map rowT)) = true := by
  obtain ⟨h1, h2, h3⟩ := rows_ok rs
  have h4 : PyData.depthAll (D.pys (rs.map rowT)) + 1 ≤ 64 := by omega
  simp only [eqOk, SeqAt.shaped, D.flat, D.py, PyData.canLay0, PyData.depth, h1, h2, h4, decide_true, Bool.and_true]
theorem notin_of {t : List Nat} {rs : List (List Nat)} (h : t ∈ rs) : o2 .notInD (.tup (t.map natD)) (.lst (rs.map rowT)) = some (.bl false) := by
  show (if (eqOk (.tup (t.map natD)) && eqOk (.lst (rs.map rowT))) = true then some (D.bl (true != ((rs.map rowT).any fun z => eqD z (.tup (t.map natD))))) else none) = _
  rw [eqOk_row, eqOk_rows]
  have : ((rs.map rowT).any fun z => eqD z (.tup (t.map natD))) = true := by
    rw [List.any_eq_true]
    exact ⟨rowT t, List.mem_map_of_mem h, eqD_refl (eqOk_row t)⟩
  rw [this]
  rfl
end K56
end

section
set_option autoImplicit false
set_option linter.all false
set_option maxRecDepth 20000
/-! k56: one kind of steps over few votes. -/
namespace K56
open PySem DL
def e21 (p : Nat) (a1 a2 a3 a4 a5 a6 a7 a8 a9 a10 a11 a12 a13 : Option E) : DL.Env := [some (.r p), a1, a2, a3, a4, a5, a6, a7, a8, a9, a10, a11, a12, a13, none, none, none, none]
def onesL (t : List Nat) : List D := t.map fun x => .bl (decide (x = 1))
def valsL (n s : Nat) (t : List Nat) : List D := ((everyL n s).take 80).map rowT ++ [.lst (t.map natD), .tup (t.map natD).reverse, .tup ((t.drop 1).map natD), .tup (t.map natD ++ [.int 0]), .non, .tup (onesL t)]
/-- the rows that are right, told by a comprehension -/
theorem turns_good (k : Nat) {ws : List Nat} (h4 : ws.length ≤ 4) (hw3 : ∀ i, at0 ws i ≤ 3000000000) (s : Nat) (hs : s ≤ 9) (κ : Kd) (tv tk : Tm) (ts : Tm) (ρ : DL.Env) (hρ : 14 < ρ.length) (T : Store)
    (h1 : ∀ x, ev (callD tab (k + 2)) 38 tv (ρ.set 14 (some x)) T = some (.d (.tup (ws.map natD)), T)) (h2 : ∀ x, ev (callD tab (k + 2)) 38 ts (ρ.set 14 (some x)) T = some (.d (.int (s : Int)), T)) (h3 : ∀ x, ev (callD tab (k + 2)) 38 tk (ρ.set 14 (some x)) T = some (.d (kD κ), T)) (h5 : ∀ x, getV (ρ.set 14 (some x)) T 14 = some (x, T)) (h6 : ∀ x, (ρ.set 14 none).set 14 (some x) = ρ.set 14 (some x)) :
    turns (ev (callD tab (k + 2)) 39) (.var 14) (.nm 14) [.call 18 [tv, ts, tk, .var 14]] [14] ρ ((everyL ws.length s).map rowT) [] T = some ((goodL ws s κ).map rowT, T) := by
  have hel := every_len h4 hs
  have ht := turns_selI (g := ev (callD tab (k + 2)) 39) (elt := .var 14) (tg := .nm 14) (ifs := [.call 18 [tv, ts, tk, .var 14]]) (own := [14]) (ρ := ρ) (S := T) rowT rowT (rightB ws κ) (everyL ws.length s) [] (fun r hr => by
    obtain ⟨g1, g2⟩ := every_ok hr
    refine ⟨ρ.set 14 (some (.d (rowT r))), ?_, ?_, fun _ => ?_⟩
    · rw [wipe_cons, wipe_nil, bindT_nm, if_pos (by rw [List.length_set]; exact hρ), h6]
    · have e := r_law_right k (by omega) hw3 s (by omega) κ (rowT r) T
      rw [law_row g1 g2] at e
      simp only [evT_cons, evT_nil, ev_call, evs_cons, evs_nil, h1, h2, h3, ev_var, h5, bnd, e, isTrueD_bl]
      cases rightB ws κ r <;> rfl
    · rw [ev_var, h5]) (by rw [List.length_nil]; omega)
  rw [List.nil_append] at ht
  exact ht
theorem fine_row {r : List Nat} (h : ∀ x ∈ r, x ≤ 1000) : Fine (.tup (r.map natD)) := fine_tup fun x hx => by
  rw [List.mem_map] at hx
  obtain ⟨y, hy, rfl⟩ := hx
  exact ok_nat (h y hy)
/-- the loop over the values -/
def tryBody : List Stm := [.asg (.nm 13) (.call 18 [.var 1, .var 2, .var 3, .var 8]), .ife (.o2 .ne (.o1 .repr (.callK 11 [.var 1, .var 2, .var 3, .var 8])) (.o1 .repr (.var 13))) [.ret (.cst (.bl false))] []]
theorem try_loop (k : Nat) {ws : List Nat} (v : Votes ws) (s : Nat) (hs : s ≤ 500) (κ : Kd) (p : Nat) (a4 a5 a6 a7 a9 a10 a11 a12 : Option E) (S : Store) : ∀ (l : List D) (a8 a13 : Option E),
    ∃ z z', forL (ex (callD tab (k + 5)) 19) (.nm 8) tryBody l (e21 p (some (.d (.tup (ws.map natD)))) (some (.d (.int (s : Int)))) (some (.d (kD κ))) a4 a5 a6 a7 a8 a9 a10 a11 a12 a13) S = some (.nx (e21 p (some (.d (.tup (ws.map natD)))) (some (.d (.int (s : Int)))) (some (.d (kD κ))) a4 a5 a6 a7 z a9 a10 a11 a12 z'), S)
  | [], a8, a13 => ⟨a8, a13, rfl⟩
  | x :: l, a8, a13 => by
    obtain ⟨z, z', ih⟩ := try_loop k v s hs κ p a4 a5 a6 a7 a9 a10 a11 a12 S l (some (.d x)) (some (.d (.bl (showsB ws s κ x))))
    refine ⟨z, z', ?_⟩
    have e1 := r_shows k v s hs κ x S
    have e2 := r_law_right (k + 3) v.l1 (fun i => Nat.le_trans (v.each i) (by decide)) s (by omega) κ x S
    rw [law_shows] at e2
    obtain ⟨u, g1, _, g3⟩ := repr_bl (showsB ws s κ x)
    have st : exs (ex (callD tab (k + 5)) 19) tryBody (e21 p (some (.d (.tup (ws.map natD)))) (some (.d (.int (s : Int)))) (some (.d (kD κ))) a4 a5 a6 a7 (some (.d x)) a9 a10 a11 a12 a13) S = some (.nx (e21 p (some (.d (.tup (ws.map natD)))) (some (.d (.int (s : Int)))) (some (.d (kD κ))) a4 a5 a6 a7 (some (.d x)) a9 a10 a11 a12 (some (.d (.bl (showsB ws s κ x))))), S) := by
      unfold tryBody e21
      simp only [List.map_cons, List.map_nil, List.length_cons, List.length_nil, Nat.reduceAdd, Nat.reduceSub, Nat.reduceLT, Nat.zero_add, List.replicate_succ, List.replicate_zero, List.cons_append, List.nil_append, exs_cons, exs_nil, ex_asgN, ex_asgT, ex_ret, ex_ife, ex_expr, ex_for, ex_par, ev_call, ev_callK, ev_o1, ev_o2, ev_var, ev_cst, ev_glob, ev_and, ev_or, ev_not, ev_isa, ev_lc, ev_tup, ev_idxT, ev_idxL, getV_zero, getV_succ, bnd, deref_d, asD_d, asI_int, asL_lst, asT_tup, onSeq_lst, onT_tup, evs_cons, evs_nil, evT_cons, evT_nil, if_true, Bool.false_eq_true, if_false, isTrueD_bl, Bool.not_true, Bool.not_false, and_self, List.set_cons_succ, List.set_cons_zero, thenO_nx, thenO_ret, finish_d, List.take_length, walked_tup, walked_lst, walked_eT, walked_eL, walked_zT, o1_lenT, o1_lenL, o1_tupleL, o1_int, o1_intb, o1_abs, o2_add, o2_sub, o2_lt, o2_le, o2_gt, eqD_int, neD_int, asDs_cons, asDs_nil, Option.map_some, bindT_tp, bindTs_cons, bindTs_nil, bindT_nm, isa, onBl_bl, e1, e2, g1, g3]
    rw [forL_cons, bindT_nm, if_pos (by simp [-Option.bind_some, e21]), bnd]
    rw [show (e21 p (some (.d (.tup (ws.map natD)))) (some (.d (.int (s : Int)))) (some (.d (kD κ))) a4 a5 a6 a7 a8 a9 a10 a11 a12 a13).set 8 (some (.d x)) = e21 p (some (.d (.tup (ws.map natD)))) (some (.d (.int (s : Int)))) (some (.d (kD κ))) a4 a5 a6 a7 (some (.d x)) a9 a10 a11 a12 a13 from rfl, st, bnd, thenO_nx]
    exact ih
/-- what is left behind the rows: two voices, or two that join -/
def endBody : List Stm := [.ife (.or (.o2 .lt (.o1 .len (.var 1)) (.cst (.int 2))) (.o2 .eq (.var 3) (.cst (.str "half")))) [.ret (.or (.o2 .ne (.o1 .len (.var 1)) (.cst (.int 2))) (.call 18 [.var 1, .var 2, .var 3, .call 5 [.var 1, .var 2]]))] [],
  .asg (.nm 10) (.o2 .catT (.tup [.o2 .add (.idxT (.var 1) (.cst (.int 0))) (.idxT (.var 1) (.cst (.int 1)))]) (.slT (.var 1) (some (.cst (.int 2))) none)),
  .asg (.nm 11) (.lc (.var 14) (.nm 14) .lst [.call 19 [.o1 .len (.var 10), .var 2]] [.call 18 [.var 10, .var 2, .var 3, .var 14]] [14]),
  .asg (.nm 12) (.ite (.o2 .eq (.var 3) (.cst (.str "down"))) (.cst (.int 1)) (.o1 .neg (.cst (.int 1)))),
  .ret (.o1 .any (.lc (.o2 .ge (.o2 .mul (.var 12) (.o2 .sub (.o2 .sub (.idxT (.var 14) (.cst (.int 0))) (.idxT (.var 4) (.cst (.int 0)))) (.idxT (.var 4) (.cst (.int 1))))) (.cst (.int 0))) (.nm 14) .lst [.var 11] [] [14]))]
theorem kind_end (k : Nat) {ws : List Nat} (v : Votes ws) (l4 : ws.length ≤ 4) (w999 : ∀ w ∈ ws, w ≤ 999) (s : Nat) (hs8 : s ≤ 7) (κ : Kd) {t : List Nat} (tl : t.length = ws.length) (tsum : t.sum = s) (tright : rightB ws κ t = true) (p : Nat) (a5 a6 a7 a8 a9 a13 : Option E) (T : Store) :
    exs (ex (callD tab (k + 5)) 20) endBody (e21 p (some (.d (.tup (ws.map natD)))) (some (.d (.int (s : Int)))) (some (.d (kD κ))) (some (.d (.tup (t.map natD)))) a5 a6 a7 a8 a9 none none none a13) T = some (.ret (.d (.bl true)), T) := by
  have l0 := v.l0
  have hp := v.pos
  have q1 := kd_half κ
  have q2 := kd_down κ
  have d2 : decide (((ws.length : Nat) : Int) < 2) = decide (ws.length < 2) := decide_eq_decide.mpr (by omega)
  have d3 : decide (((ws.length : Nat) : Int) = 2) = decide (ws.length = 2) := decide_eq_decide.mpr (by omega)
  by_cases h2 : ws.length < 2
  · have e2 : decide (ws.length < 2) = true := decide_eq_true h2
    have e3 : decide (ws.length = 2) = false := decide_eq_false (by omega)
    rw [e2] at d2
    rw [e3] at d3
    unfold endBody e21
    simp only [List.map_cons, List.map_nil, List.length_cons, List.length_nil, Nat.reduceAdd, Nat.reduceSub, Nat.reduceLT, Nat.zero_add, List.replicate_succ, List.replicate_zero, List.cons_append, List.nil_append, exs_cons, exs_nil, ex_asgN, ex_asgT, ex_ret, ex_ife, ex_expr, ex_for, ex_par, ev_call, ev_callK, ev_o1, ev_o2, ev_var, ev_cst, ev_glob, ev_and, ev_or, ev_not, ev_isa, ev_lc, ev_tup, ev_idxT, ev_idxL, getV_zero, getV_succ, bnd, deref_d, asD_d, asI_int, asL_lst, asT_tup, onSeq_lst, onT_tup, evs_cons, evs_nil, evT_cons, evT_nil, if_true, Bool.false_eq_true, if_false, isTrueD_bl, Bool.not_true, Bool.not_false, and_self, List.set_cons_succ, List.set_cons_zero, thenO_nx, thenO_ret, finish_d, List.take_length, walked_tup, walked_lst, walked_eT, walked_eL, walked_zT, o1_lenT, o1_lenL, o1_tupleL, o1_int, o1_intb, o1_abs, o2_add, o2_sub, o2_lt, o2_le, o2_gt, eqD_int, neD_int, asDs_cons, asDs_nil, Option.map_some, bindT_tp, bindTs_cons, bindTs_nil, bindT_nm, isa, onBl_bl, List.length_map, d2, d3]
  · have e2 : decide (ws.length < 2) = false := decide_eq_false h2
    rw [e2] at d2
    by_cases hk : κ = .half
    · subst hk
      have qh : decide (Kd.half = Kd.half) = true := rfl
      by_cases hn : ws.length = 2
      · have e3 : decide (ws.length = 2) = true := decide_eq_true hn
        rw [e3] at d3
        have a1 := fun T => r_by_due (k + 1) v s (by omega) T
        have a2 := fun T => r_law_right (k + 3) v.l1 (fun i => Nat.le_trans (v.each i) (by decide)) s (by omega) .half (rowT (dueL ws s)) T
        have hr : rightB ws .half (dueL ws s) = true := right_iff.mpr (by
          rw [hn]
          exact due_half hp hn)
        rw [law_row (dueL_len ws s) (due_sum hp), hr] at a2
        unfold rowT at a2
        unfold endBody e21
        simp only [List.map_cons, List.map_nil, List.length_cons, List.length_nil, Nat.reduceAdd, Nat.reduceSub, Nat.reduceLT, Nat.zero_add, List.replicate_succ, List.replicate_zero, List.cons_append, List.nil_append, exs_cons, exs_nil, ex_asgN, ex_asgT, ex_ret, ex_ife, ex_expr, ex_for, ex_par, ev_call, ev_callK, ev_o1, ev_o2, ev_var, ev_cst, ev_glob, ev_and, ev_or, ev_not, ev_isa, ev_lc, ev_tup, ev_idxT, ev_idxL, getV_zero, getV_succ, bnd, deref_d, asD_d, asI_int, asL_lst, asT_tup, onSeq_lst, onT_tup, evs_cons, evs_nil, evT_cons, evT_nil, if_true, Bool.false_eq_true, if_false, isTrueD_bl, Bool.not_true, Bool.not_false, and_self, List.set_cons_succ, List.set_cons_zero, thenO_nx, thenO_ret, finish_d, List.take_length, walked_tup, walked_lst, walked_eT, walked_eL, walked_zT, o1_lenT, o1_lenL, o1_tupleL, o1_int, o1_intb, o1_abs, o2_add, o2_sub, o2_lt, o2_le, o2_gt, eqD_int, neD_int, asDs_cons, asDs_nil, Option.map_some, bindT_tp, bindTs_cons, bindTs_nil, bindT_nm, isa, onBl_bl, List.length_map, d2, d3, q1, qh, a1, a2, decide_true]
      · have e3 : decide (ws.length = 2) = false := decide_eq_false hn
        rw [e3] at d3
        unfold endBody e21
        simp only [List.map_cons, List.map_nil, List.length_cons, List.length_nil, Nat.reduceAdd, Nat.reduceSub, Nat.reduceLT, Nat.zero_add, List.replicate_succ, List.replicate_zero, List.cons_append, List.nil_append, exs_cons, exs_nil, ex_asgN, ex_asgT, ex_ret, ex_ife, ex_expr, ex_for, ex_par, ev_call, ev_callK, ev_o1, ev_o2, ev_var, ev_cst, ev_glob, ev_and, ev_or, ev_not, ev_isa, ev_lc, ev_tup, ev_idxT, ev_idxL, getV_zero, getV_succ, bnd, deref_d, asD_d, asI_int, asL_lst, asT_tup, onSeq_lst, onT_tup, evs_cons, evs_nil, evT_cons, evT_nil, if_true, Bool.false_eq_true, if_false, isTrueD_bl, Bool.not_true, Bool.not_false, and_self, List.set_cons_succ, List.set_cons_zero, thenO_nx, thenO_ret, finish_d, List.take_length, walked_tup, walked_lst, walked_eT, walked_eL, walked_zT, o1_lenT, o1_lenL, o1_tupleL, o1_int, o1_intb, o1_abs, o2_add, o2_sub, o2_lt, o2_le, o2_gt, eqD_int, neD_int, asDs_cons, asDs_nil, Option.map_some, bindT_tp, bindTs_cons, bindTs_nil, bindT_nm, isa, onBl_bl, List.length_map, d2, d3, q1, qh, decide_true]
    · have qh : decide (κ = Kd.half) = false := decide_eq_false hk
      obtain ⟨a, b, r, rfl⟩ : ∃ a b r, ws = a :: b :: r := by
        match ws, h2 with
        | [], h2 => exact absurd (show ([] : List Nat).length < 2 by simp) h2
        | [a], h2 => exact absurd (show [a].length < 2 by simp) h2
        | a :: b :: r, _ => exact ⟨a, b, r, rfl⟩
      have wa := w999 a List.mem_cons_self
      have wb := w999 b (List.mem_cons_of_mem _ List.mem_cons_self)
      have bl4 : ((a + b) :: r).length ≤ 4 := by
        rw [List.length_cons] at l4 ⊢
        rw [List.length_cons] at l4
        omega
      have bw : ∀ i, at0 ((a + b) :: r) i ≤ 3000000000 := fun i => by
        have := at0_le_sum ((a + b) :: r) i
        have hle := sum_le (M := 1998) ((a + b) :: r) fun w hw => by
          rw [List.mem_cons] at hw
          rcases hw with rfl | hw
          · omega
          · have := w999 w (List.mem_cons_of_mem _ (List.mem_cons_of_mem _ hw))
            omega
        have := Nat.mul_le_mul_right 1998 bl4
        omega
      have k2 := fun S => r_all_seats (k + 4) ((a + b) :: r).length s bl4 (by omega) S
      obtain ⟨j1, j2⟩ := joins v.w0 tl tsum tright
      have glen : (goodL ((a + b) :: r) s κ).length ≤ 10000 := Nat.le_trans (List.length_filter_le _ _) (every_len bl4 (by omega))
      have s1 : ex (callD tab (k + 5)) 20 (.ife (.or (.o2 .lt (.o1 .len (.var 1)) (.cst (.int 2))) (.o2 .eq (.var 3) (.cst (.str "half")))) [.ret (.or (.o2 .ne (.o1 .len (.var 1)) (.cst (.int 2))) (.call 18 [.var 1, .var 2, .var 3, .call 5 [.var 1, .var 2]]))] []) (e21 p (some (.d (.tup ((a :: b :: r).map natD)))) (some (.d (.int (s : Int)))) (some (.d (kD κ))) (some (.d (.tup (t.map natD)))) a5 a6 a7 a8 a9 none none none a13) T = some (.nx (e21 p (some (.d (.tup ((a :: b :: r).map natD)))) (some (.d (.int (s : Int)))) (some (.d (kD κ))) (some (.d (.tup (t.map natD)))) a5 a6 a7 a8 a9 none none none a13), T) := by
        have hlm : ((a :: b :: r).map natD).length = (a :: b :: r).length := List.length_map _
        generalize hws : a :: b :: r = ws at *
        unfold e21
        simp only [List.map_cons, List.map_nil, List.length_cons, List.length_nil, Nat.reduceAdd, Nat.reduceSub, Nat.reduceLT, Nat.zero_add, List.replicate_succ, List.replicate_zero, List.cons_append, List.nil_append, exs_cons, exs_nil, ex_asgN, ex_asgT, ex_ret, ex_ife, ex_expr, ex_for, ex_par, ev_call, ev_callK, ev_o1, ev_o2, ev_var, ev_cst, ev_glob, ev_and, ev_or, ev_not, ev_isa, ev_lc, ev_tup, ev_idxT, ev_idxL, getV_zero, getV_succ, bnd, deref_d, asD_d, asI_int, asL_lst, asT_tup, onSeq_lst, onT_tup, evs_cons, evs_nil, evT_cons, evT_nil, if_true, Bool.false_eq_true, if_false, isTrueD_bl, Bool.not_true, Bool.not_false, and_self, List.set_cons_succ, List.set_cons_zero, thenO_nx, thenO_ret, finish_d, List.take_length, walked_tup, walked_lst, walked_eT, walked_eL, walked_zT, o1_lenT, o1_lenL, o1_tupleL, o1_int, o1_intb, o1_abs, o2_add, o2_sub, o2_lt, o2_le, o2_gt, eqD_int, neD_int, asDs_cons, asDs_nil, Option.map_some, bindT_tp, bindTs_cons, bindTs_nil, bindT_nm, isa, onBl_bl, hlm, d2, q1, qh]
      have s2 : ex (callD tab (k + 5)) 20 (.asg (.nm 10) (.o2 .catT (.tup [.o2 .add (.idxT (.var 1) (.cst (.int 0))) (.idxT (.var 1) (.cst (.int 1)))]) (.slT (.var 1) (some (.cst (.int 2))) none))) (e21 p (some (.d (.tup ((a :: b :: r).map natD)))) (some (.d (.int (s : Int)))) (some (.d (kD κ))) (some (.d (.tup (t.map natD)))) a5 a6 a7 a8 a9 none none none a13) T = some (.nx (e21 p (some (.d (.tup ((a :: b :: r).map natD)))) (some (.d (.int (s : Int)))) (some (.d (kD κ))) (some (.d (.tup (t.map natD)))) a5 a6 a7 a8 a9 (some (.d (.tup (((a + b) :: r).map natD)))) none none a13), T) := by
        have g0 : atD ((a :: b :: r).map natD) 0 = some (.int (a : Int)) := row_at (l := a :: b :: r) (i := 0) (by simp)
        have g1 : atD ((a :: b :: r).map natD) 1 = some (.int (b : Int)) := row_at (l := a :: b :: r) (i := 1) (by simp)
        have c2 : cutD ((a :: b :: r).map natD) (some 2) none = r.map natD := cut_lo ((a :: b :: r).map natD) 2
        have hf1 : fits 1 = true := by decide
        have es : (a : Int) + (b : Int) = ((a + b : Nat) : Int) := by omega
        have hc := o2_cat [.int ((a + b : Nat) : Int)] (r.map natD) (by rw [List.length_singleton, List.length_map]; rw [List.length_cons] at bl4; omega)
        rw [show [D.int ((a + b : Nat) : Int)] ++ r.map natD = ((a + b) :: r).map natD from rfl] at hc
        generalize (a :: b :: r).map natD = L at *
        generalize ((a + b) :: r).map natD = M at *
        unfold e21
        simp only [List.map_cons, List.map_nil, List.length_cons, List.length_nil, Nat.reduceAdd, Nat.reduceSub, Nat.reduceLT, Nat.zero_add, List.replicate_succ, List.replicate_zero, List.cons_append, List.nil_append, exs_cons, exs_nil, ex_asgN, ex_asgT, ex_ret, ex_ife, ex_expr, ex_for, ex_par, ev_call, ev_callK, ev_o1, ev_o2, ev_var, ev_cst, ev_glob, ev_and, ev_or, ev_not, ev_isa, ev_lc, ev_tup, ev_idxT, ev_idxL, getV_zero, getV_succ, bnd, deref_d, asD_d, asI_int, asL_lst, asT_tup, onSeq_lst, onT_tup, evs_cons, evs_nil, evT_cons, evT_nil, if_true, Bool.false_eq_true, if_false, isTrueD_bl, Bool.not_true, Bool.not_false, and_self, List.set_cons_succ, List.set_cons_zero, thenO_nx, thenO_ret, finish_d, List.take_length, walked_tup, walked_lst, walked_eT, walked_eL, walked_zT, o1_lenT, o1_lenL, o1_tupleL, o1_int, o1_intb, o1_abs, o2_add, o2_sub, o2_lt, o2_le, o2_gt, eqD_int, neD_int, asDs_cons, asDs_nil, Option.map_some, bindT_tp, bindTs_cons, bindTs_nil, bindT_nm, isa, onBl_bl, g0, g1, es, hf1, ev_slT, evO_none, evO_some, c2, hc]
      have s3 : ex (callD tab (k + 5)) 20 (.asg (.nm 11) (.lc (.var 14) (.nm 14) .lst [.call 19 [.o1 .len (.var 10), .var 2]] [.call 18 [.var 10, .var 2, .var 3, .var 14]] [14])) (e21 p (some (.d (.tup ((a :: b :: r).map natD)))) (some (.d (.int (s : Int)))) (some (.d (kD κ))) (some (.d (.tup (t.map natD)))) a5 a6 a7 a8 a9 (some (.d (.tup (((a + b) :: r).map natD)))) none none a13) T = some (.nx (e21 p (some (.d (.tup ((a :: b :: r).map natD)))) (some (.d (.int (s : Int)))) (some (.d (kD κ))) (some (.d (.tup (t.map natD)))) a5 a6 a7 a8 a9 (some (.d (.tup (((a + b) :: r).map natD)))) (some (.d (.lst ((goodL ((a + b) :: r) s κ).map rowT)))) none a13), T) := by
        have ht := turns_good (k + 3) bl4 bw s (by omega) κ (.var 10) (.var 3) (.var 2) (e21 p (some (.d (.tup ((a :: b :: r).map natD)))) (some (.d (.int (s : Int)))) (some (.d (kD κ))) (some (.d (.tup (t.map natD)))) a5 a6 a7 a8 a9 (some (.d (.tup (((a + b) :: r).map natD)))) none none a13) (by simp [-Option.bind_some, e21]) T (fun x => rfl) (fun x => rfl) (fun x => rfl) (fun x => rfl) (fun x => rfl)
        have hlm : (((a + b) :: r).map natD).length = ((a + b) :: r).length := List.length_map _
        generalize hb2 : (a + b) :: r = bs at *
        generalize (a :: b :: r).map natD = L at *
        unfold e21 at ht ⊢
        simp only [List.map_cons, List.map_nil, List.length_cons, List.length_nil, Nat.reduceAdd, Nat.reduceSub, Nat.reduceLT, Nat.zero_add, List.replicate_succ, List.replicate_zero, List.cons_append, List.nil_append, exs_cons, exs_nil, ex_asgN, ex_asgT, ex_ret, ex_ife, ex_expr, ex_for, ex_par, ev_call, ev_callK, ev_o1, ev_o2, ev_var, ev_cst, ev_glob, ev_and, ev_or, ev_not, ev_isa, ev_lc, ev_tup, ev_idxT, ev_idxL, getV_zero, getV_succ, bnd, deref_d, asD_d, asI_int, asL_lst, asT_tup, onSeq_lst, onT_tup, evs_cons, evs_nil, evT_cons, evT_nil, if_true, Bool.false_eq_true, if_false, isTrueD_bl, Bool.not_true, Bool.not_false, and_self, List.set_cons_succ, List.set_cons_zero, thenO_nx, thenO_ret, finish_d, List.take_length, walked_tup, walked_lst, walked_eT, walked_eL, walked_zT, o1_lenT, o1_lenL, o1_tupleL, o1_int, o1_intb, o1_abs, o2_add, o2_sub, o2_lt, o2_le, o2_gt, eqD_int, neD_int, asDs_cons, asDs_nil, Option.map_some, bindT_tp, bindTs_cons, bindTs_nil, bindT_nm, isa, onBl_bl, hlm, k2, ht]
      -- the sign, and the row that is there
      have ht0 : 2 ≤ t.length := by
        rw [tl, List.length_cons, List.length_cons]
        omega
      have gt0 : atD (t.map natD) 0 = some (.int ((at0 t 0 : Nat) : Int)) := row_at (l := t) (i := 0) (by omega)
      have gt1 : atD (t.map natD) 1 = some (.int ((at0 t 1 : Nat) : Int)) := row_at (l := t) (i := 1) (by omega)
      obtain ⟨sg, hsg, hin⟩ : ∃ sg : Int, (∀ U, ev (callD tab (k + 5)) 40 (.ite (.o2 .eq (.var 3) (.cst (.str "down"))) (.cst (.int 1)) (.o1 .neg (.cst (.int 1)))) (e21 p (some (.d (.tup ((a :: b :: r).map natD)))) (some (.d (.int (s : Int)))) (some (.d (kD κ))) (some (.d (.tup (t.map natD)))) a5 a6 a7 a8 a9 (some (.d (.tup (((a + b) :: r).map natD)))) (some (.d (.lst ((goodL ((a + b) :: r) s κ).map rowT)))) none a13) U = some (.d (.int sg), U)) ∧ B 10 sg ∧ ∃ z ∈ goodL ((a + b) :: r) s κ, 0 ≤ sg * (((at0 z 0 : Nat) : Int) - ((at0 t 0 : Nat) : Int) - ((at0 t 1 : Nat) : Int)) := by
        cases κ with
        | half => exact absurd rfl hk
        | down =>
          obtain ⟨z, z1, z2, z3, z4⟩ := j1 rfl
          refine ⟨1, fun U => ?_, by unfold B; decide, z, good_in z1 z2 z3, by omega⟩
          have qd : decide (Kd.down = Kd.down) = true := rfl
          unfold e21
          simp only [List.map_cons, List.map_nil, List.length_cons, List.length_nil, Nat.reduceAdd, Nat.reduceSub, Nat.reduceLT, Nat.zero_add, List.replicate_succ, List.replicate_zero, List.cons_append, List.nil_append, exs_cons, exs_nil, ex_asgN, ex_asgT, ex_ret, ex_ife, ex_expr, ex_for, ex_par, ev_call, ev_callK, ev_o1, ev_o2, ev_var, ev_cst, ev_glob, ev_and, ev_or, ev_not, ev_isa, ev_lc, ev_tup, ev_idxT, ev_idxL, getV_zero, getV_succ, bnd, deref_d, asD_d, asI_int, asL_lst, asT_tup, onSeq_lst, onT_tup, evs_cons, evs_nil, evT_cons, evT_nil, if_true, Bool.false_eq_true, if_false, isTrueD_bl, Bool.not_true, Bool.not_false, and_self, List.set_cons_succ, List.set_cons_zero, thenO_nx, thenO_ret, finish_d, List.take_length, walked_tup, walked_lst, walked_eT, walked_eL, walked_zT, o1_lenT, o1_lenL, o1_tupleL, o1_int, o1_intb, o1_abs, o2_add, o2_sub, o2_lt, o2_le, o2_gt, eqD_int, neD_int, asDs_cons, asDs_nil, Option.map_some, bindT_tp, bindTs_cons, bindTs_nil, bindT_nm, isa, onBl_bl, ev_ite, q2, qd, decide_true]
        | up =>
          obtain ⟨z, z1, z2, z3, z4⟩ := j2 rfl
          refine ⟨-1, fun U => ?_, by unfold B; decide, z, good_in z1 z2 z3, by omega⟩
          have qd : decide (Kd.up = Kd.down) = false := rfl
          unfold e21
          simp only [List.map_cons, List.map_nil, List.length_cons, List.length_nil, Nat.reduceAdd, Nat.reduceSub, Nat.reduceLT, Nat.zero_add, List.replicate_succ, List.replicate_zero, List.cons_append, List.nil_append, exs_cons, exs_nil, ex_asgN, ex_asgT, ex_ret, ex_ife, ex_expr, ex_for, ex_par, ev_call, ev_callK, ev_o1, ev_o2, ev_var, ev_cst, ev_glob, ev_and, ev_or, ev_not, ev_isa, ev_lc, ev_tup, ev_idxT, ev_idxL, getV_zero, getV_succ, bnd, deref_d, asD_d, asI_int, asL_lst, asT_tup, onSeq_lst, onT_tup, evs_cons, evs_nil, evT_cons, evT_nil, if_true, Bool.false_eq_true, if_false, isTrueD_bl, Bool.not_true, Bool.not_false, and_self, List.set_cons_succ, List.set_cons_zero, thenO_nx, thenO_ret, finish_d, List.take_length, walked_tup, walked_lst, walked_eT, walked_eL, walked_zT, o1_lenT, o1_lenL, o1_tupleL, o1_int, o1_intb, o1_abs, o2_add, o2_sub, o2_lt, o2_le, o2_gt, eqD_int, neD_int, asDs_cons, asDs_nil, Option.map_some, bindT_tp, bindTs_cons, bindTs_nil, bindT_nm, isa, onBl_bl, ev_ite, q2, qd, o1_neg]
      obtain ⟨hB, z, hz, hz2⟩ := hin
      have s4 : ex (callD tab (k + 5)) 20 (.asg (.nm 12) (.ite (.o2 .eq (.var 3) (.cst (.str "down"))) (.cst (.int 1)) (.o1 .neg (.cst (.int 1))))) (e21 p (some (.d (.tup ((a :: b :: r).map natD)))) (some (.d (.int (s : Int)))) (some (.d (kD κ))) (some (.d (.tup (t.map natD)))) a5 a6 a7 a8 a9 (some (.d (.tup (((a + b) :: r).map natD)))) (some (.d (.lst ((goodL ((a + b) :: r) s κ).map rowT)))) none a13) T = some (.nx (e21 p (some (.d (.tup ((a :: b :: r).map natD)))) (some (.d (.int (s : Int)))) (some (.d (kD κ))) (some (.d (.tup (t.map natD)))) a5 a6 a7 a8 a9 (some (.d (.tup (((a + b) :: r).map natD)))) (some (.d (.lst ((goodL ((a + b) :: r) s κ).map rowT)))) (some (.d (.int sg))) a13), T) := by
        rw [ex_asgN, hsg, bnd]
        rfl
      have s5 : ex (callD tab (k + 5)) 20 (.ret (.o1 .any (.lc (.o2 .ge (.o2 .mul (.var 12) (.o2 .sub (.o2 .sub (.idxT (.var 14) (.cst (.int 0))) (.idxT (.var 4) (.cst (.int 0)))) (.idxT (.var 4) (.cst (.int 1))))) (.cst (.int 0))) (.nm 14) .lst [.var 11] [] [14]))) (e21 p (some (.d (.tup ((a :: b :: r).map natD)))) (some (.d (.int (s : Int)))) (some (.d (kD κ))) (some (.d (.tup (t.map natD)))) a5 a6 a7 a8 a9 (some (.d (.tup (((a + b) :: r).map natD)))) (some (.d (.lst ((goodL ((a + b) :: r) s κ).map rowT)))) (some (.d (.int sg))) a13) T = some (.ret (.d (.bl true)), T) := by
        have ht := turns_mapI (g := ev (callD tab (k + 5)) 38) (elt := .o2 .ge (.o2 .mul (.var 12) (.o2 .sub (.o2 .sub (.idxT (.var 14) (.cst (.int 0))) (.idxT (.var 4) (.cst (.int 0)))) (.idxT (.var 4) (.cst (.int 1))))) (.cst (.int 0))) (tg := .nm 14) (own := [14]) (ρ := e21 p (some (.d (.tup ((a :: b :: r).map natD)))) (some (.d (.int (s : Int)))) (some (.d (kD κ))) (some (.d (.tup (t.map natD)))) a5 a6 a7 a8 a9 (some (.d (.tup (((a + b) :: r).map natD)))) (some (.d (.lst ((goodL ((a + b) :: r) s κ).map rowT)))) (some (.d (.int sg))) a13) (S := T) rowT (fun z => .bl (decide (0 ≤ sg * (((at0 z 0 : Nat) : Int) - ((at0 t 0 : Nat) : Int) - ((at0 t 1 : Nat) : Int))))) (goodL ((a + b) :: r) s κ) [] (fun z hz => by
          obtain ⟨g1, g2, _⟩ := good_ok hz
          have gz0 : atD (z.map natD) 0 = some (.int ((at0 z 0 : Nat) : Int)) := row_at (l := z) (i := 0) (by rw [g1, List.length_cons]; omega)
          have az := at0_le_sum z 0
          have at_0 := at0_le_sum t 0
          have at_1 := at0_le_sum t 1
          have m1 : mulOk sg (((at0 z 0 : Nat) : Int) - ((at0 t 0 : Nat) : Int) - ((at0 t 1 : Nat) : Int)) = true := mulOk_of (n := 10) (m := 20) hB (by unfold B; omega) (by omega)
          refine ⟨[some (.r p), some (.d (.tup ((a :: b :: r).map natD))), some (.d (.int (s : Int))), some (.d (kD κ)), some (.d (.tup (t.map natD))), a5, a6, a7, a8, a9, some (.d (.tup (((a + b) :: r).map natD))), some (.d (.lst ((goodL ((a + b) :: r) s κ).map rowT))), some (.d (.int sg)), a13, some (.d (.tup (z.map natD))), none, none, none], by simp [-Option.bind_some, e21, rowT], ?_⟩
          simp only [List.map_cons, List.map_nil, List.length_cons, List.length_nil, Nat.reduceAdd, Nat.reduceSub, Nat.reduceLT, Nat.zero_add, List.replicate_succ, List.replicate_zero, List.cons_append, List.nil_append, exs_cons, exs_nil, ex_asgN, ex_asgT, ex_ret, ex_ife, ex_expr, ex_for, ex_par, ev_call, ev_callK, ev_o1, ev_o2, ev_var, ev_cst, ev_glob, ev_and, ev_or, ev_not, ev_isa, ev_lc, ev_tup, ev_idxT, ev_idxL, getV_zero, getV_succ, bnd, deref_d, asD_d, asI_int, asL_lst, asT_tup, onSeq_lst, onT_tup, evs_cons, evs_nil, evT_cons, evT_nil, if_true, Bool.false_eq_true, if_false, isTrueD_bl, Bool.not_true, Bool.not_false, and_self, List.set_cons_succ, List.set_cons_zero, thenO_nx, thenO_ret, finish_d, List.take_length, walked_tup, walked_lst, walked_eT, walked_eL, walked_zT, o1_lenT, o1_lenL, o1_tupleL, o1_int, o1_intb, o1_abs, o2_add, o2_sub, o2_lt, o2_le, o2_gt, eqD_int, neD_int, asDs_cons, asDs_nil, Option.map_some, bindT_tp, bindTs_cons, bindTs_nil, bindT_nm, isa, onBl_bl, gz0, gt0, gt1, o2_mul m1, o2_ge]) (by rw [List.length_nil]; omega)
        rw [List.nil_append] at ht
        have han := o1_any_map (fun z => decide (0 ≤ sg * (((at0 z 0 : Nat) : Int) - ((at0 t 0 : Nat) : Int) - ((at0 t 1 : Nat) : Int)))) (goodL ((a + b) :: r) s κ)
        have htrue : ((goodL ((a + b) :: r) s κ).any fun z => decide (0 ≤ sg * (((at0 z 0 : Nat) : Int) - ((at0 t 0 : Nat) : Int) - ((at0 t 1 : Nat) : Int)))) = true := by
          rw [List.any_eq_true]
          exact ⟨z, hz, decide_eq_true hz2⟩
        rw [htrue] at han
        generalize (a :: b :: r).map natD = L at *
        generalize ((a + b) :: r).map natD = M at *
        unfold e21 at ht ⊢
        simp only [List.map_cons, List.map_nil, List.length_cons, List.length_nil, Nat.reduceAdd, Nat.reduceSub, Nat.reduceLT, Nat.zero_add, List.replicate_succ, List.replicate_zero, List.cons_append, List.nil_append, exs_cons, exs_nil, ex_asgN, ex_asgT, ex_ret, ex_ife, ex_expr, ex_for, ex_par, ev_call, ev_callK, ev_o1, ev_o2, ev_var, ev_cst, ev_glob, ev_and, ev_or, ev_not, ev_isa, ev_lc, ev_tup, ev_idxT, ev_idxL, getV_zero, getV_succ, bnd, deref_d, asD_d, asI_int, asL_lst, asT_tup, onSeq_lst, onT_tup, evs_cons, evs_nil, evT_cons, evT_nil, if_true, Bool.false_eq_true, if_false, isTrueD_bl, Bool.not_true, Bool.not_false, and_self, List.set_cons_succ, List.set_cons_zero, thenO_nx, thenO_ret, finish_d, List.take_length, walked_tup, walked_lst, walked_eT, walked_eL, walked_zT, o1_lenT, o1_lenL, o1_tupleL, o1_int, o1_intb, o1_abs, o2_add, o2_sub, o2_lt, o2_le, o2_gt, eqD_int, neD_int, asDs_cons, asDs_nil, Option.map_some, bindT_tp, bindTs_cons, bindTs_nil, bindT_nm, isa, onBl_bl, ht, han]
      unfold endBody
      rw [exs_nx s1, exs_nx s2, exs_nx s3, exs_nx s4, exs_rt s5]
theorem r_kind (k : Nat) {ws : List Nat} (v : Votes ws) (l4 : ws.length ≤ 4) (w999 : ∀ w ∈ ws, w ≤ 999) (s : Nat) (hs8 : s ≤ 7) (κ : Kd) {n : Int} {S : Store} {p : Nat} (h : Pot n S p) (hn : n < 400000) :
    ∃ xs, callD tab (k + 6) 21 [.r p, .d (.tup (ws.map natD)), .d (.int (s : Int)), .d (kD κ)] S = some (.d (.bl true), S.set p (some xs)) ∧ Pot (n + 200) (S.set p (some xs)) p := by
  have l0 := v.l0
  have hp := v.pos
  generalize hT : seatsL ws κ s = t
  have tl : t.length = ws.length := by rw [← hT]; exact seatsL_len ws κ s
  have tsum : t.sum = s := by rw [← hT]; exact seats_sum l0 κ s
  have tright : rightB ws κ t = true := by rw [← hT]; exact right_iff.mpr (seats_right l0 v.w0 κ s)
  have tgood : t ∈ goodL ws s κ := good_in tl tsum tright
  have tle : ∀ x ∈ t, x ≤ 7 := fun x hx => by
    have := mem_le_sum hx
    omega
  have tne : t ≠ [] := fun z => by
    rw [z] at tl
    simp at tl
    omega
  have hw3 : ∀ i, at0 ws i ≤ 3000000000 := fun i => Nat.le_trans (v.each i) (by decide)
  have k1 : ∀ S, callD tab (k + 5) 10 [.d (.tup (ws.map natD)), .d (.int (s : Int)), .d (kD κ)] S = some (.d (.tup (t.map natD)), S) := fun S => by
    have := r_by_steps k v s (by omega) κ S
    rw [hT] at this
    exact this
  have k1' := fun S => r_by_steps k v (s + 1) (by omega) κ S
  have k2 := fun S => r_all_seats (k + 4) ws.length s l4 (by omega) S
  have k2' := fun S => r_all_seats (k + 4) ws.length (s + 1) l4 (by omega) S
  have hen := every_len l4 (by omega : s ≤ 9)
  have ngood : goodL ws s κ ⊆ everyL ws.length s := fun r hr => every_in (good_ok hr).1 (good_ok hr).2.1
  have glen : (goodL ws s κ).length ≤ 10000 := Nat.le_trans (List.length_filter_le _ _) hen
  have glen1 : (goodL ws (s + 1) κ).length ≤ 10000 := Nat.le_trans (List.length_filter_le _ _) (every_len l4 (by omega))
  rw [callD_run (fn := f21) rfl rfl]
  have hf2 : fits 2 = true := by decide
  have s1 : ∀ T : Store, ex (callD tab (k + 5)) 20 (.asg (.tp [(.nm 4), (.nm 5)]) (.tup [.callK 10 [.var 1, .var 2, .var 3], .call 19 [.o1 .len (.var 1), .var 2]])) (e21 p (some (.d (.tup (ws.map natD)))) (some (.d (.int (s : Int)))) (some (.d (kD κ))) none none none none none none none none none none) T = some (.nx (e21 p (some (.d (.tup (ws.map natD)))) (some (.d (.int (s : Int)))) (some (.d (kD κ))) (some (.d (.tup (t.map natD)))) (some (.d (.lst ((everyL ws.length s).map rowT)))) none none none none none none none none), T) := fun T => by
    unfold e21
    simp only [List.map_cons, List.map_nil, List.length_cons, List.length_nil, Nat.reduceAdd, Nat.reduceSub, Nat.reduceLT, Nat.zero_add, List.replicate_succ, List.replicate_zero, List.cons_append, List.nil_append, exs_cons, exs_nil, ex_asgN, ex_asgT, ex_ret, ex_ife, ex_expr, ex_for, ex_par, ev_call, ev_callK, ev_o1, ev_o2, ev_var, ev_cst, ev_glob, ev_and, ev_or, ev_not, ev_isa, ev_lc, ev_tup, ev_idxT, ev_idxL, getV_zero, getV_succ, bnd, deref_d, asD_d, asI_int, asL_lst, asT_tup, onSeq_lst, onT_tup, evs_cons, evs_nil, evT_cons, evT_nil, if_true, Bool.false_eq_true, if_false, isTrueD_bl, Bool.not_true, Bool.not_false, and_self, List.set_cons_succ, List.set_cons_zero, thenO_nx, thenO_ret, finish_d, List.take_length, walked_tup, walked_lst, walked_eT, walked_eL, walked_zT, o1_lenT, o1_lenL, o1_tupleL, o1_int, o1_intb, o1_abs, o2_add, o2_sub, o2_lt, o2_le, o2_gt, eqD_int, neD_int, asDs_cons, asDs_nil, Option.map_some, bindT_tp, bindTs_cons, bindTs_nil, bindT_nm, isa, onBl_bl, k1, k2, List.length_map, hf2]
  have s2 : ∀ T : Store, ex (callD tab (k + 5)) 20 (.asg (.nm 6) (.lc (.var 14) (.nm 14) .lst [.var 5] [.call 18 [.var 1, .var 2, .var 3, .var 14]] [14])) (e21 p (some (.d (.tup (ws.map natD)))) (some (.d (.int (s : Int)))) (some (.d (kD κ))) (some (.d (.tup (t.map natD)))) (some (.d (.lst ((everyL ws.length s).map rowT)))) none none none none none none none none) T = some (.nx (e21 p (some (.d (.tup (ws.map natD)))) (some (.d (.int (s : Int)))) (some (.d (kD κ))) (some (.d (.tup (t.map natD)))) (some (.d (.lst ((everyL ws.length s).map rowT)))) (some (.d (.lst ((goodL ws s κ).map rowT)))) none none none none none none none), T) := fun T => by
    have ht := turns_good (k + 3) l4 hw3 s (by omega) κ (.var 1) (.var 3) (.var 2) (e21 p (some (.d (.tup (ws.map natD)))) (some (.d (.int (s : Int)))) (some (.d (kD κ))) (some (.d (.tup (t.map natD)))) (some (.d (.lst ((everyL ws.length s).map rowT)))) none none none none none none none none) (by simp [-Option.bind_some, e21]) T (fun x => rfl) (fun x => rfl) (fun x => rfl) (fun x => rfl) (fun x => rfl)
    unfold e21 at ht ⊢
    simp only [List.map_cons, List.map_nil, List.length_cons, List.length_nil, Nat.reduceAdd, Nat.reduceSub, Nat.reduceLT, Nat.zero_add, List.replicate_succ, List.replicate_zero, List.cons_append, List.nil_append, exs_cons, exs_nil, ex_asgN, ex_asgT, ex_ret, ex_ife, ex_expr, ex_for, ex_par, ev_call, ev_callK, ev_o1, ev_o2, ev_var, ev_cst, ev_glob, ev_and, ev_or, ev_not, ev_isa, ev_lc, ev_tup, ev_idxT, ev_idxL, getV_zero, getV_succ, bnd, deref_d, asD_d, asI_int, asL_lst, asT_tup, onSeq_lst, onT_tup, evs_cons, evs_nil, evT_cons, evT_nil, if_true, Bool.false_eq_true, if_false, isTrueD_bl, Bool.not_true, Bool.not_false, and_self, List.set_cons_succ, List.set_cons_zero, thenO_nx, thenO_ret, finish_d, List.take_length, walked_tup, walked_lst, walked_eT, walked_eL, walked_zT, o1_lenT, o1_lenL, o1_tupleL, o1_int, o1_intb, o1_abs, o2_add, o2_sub, o2_lt, o2_le, o2_gt, eqD_int, neD_int, asDs_cons, asDs_nil, Option.map_some, bindT_tp, bindTs_cons, bindTs_nil, bindT_nm, isa, onBl_bl, ht]
  have hbd : ∀ r ∈ goodL ws s κ, boundB ws s κ r = true := fun r hr => bound_ok l0 v.w0 (good_ok hr).1 (good_ok hr).2.1 (good_ok hr).2.2
  have s3 : ∀ T : Store, ex (callD tab (k + 5)) 20 (.ife (.or (.o2 .notInD (.var 4) (.var 6)) (.not (.o1 .all (.lc (.call 20 [.var 1, .var 2, .var 3, .var 14]) (.nm 14) .lst [.var 6] [] [14])))) [.ret (.cst (.bl false))] []) (e21 p (some (.d (.tup (ws.map natD)))) (some (.d (.int (s : Int)))) (some (.d (kD κ))) (some (.d (.tup (t.map natD)))) (some (.d (.lst ((everyL ws.length s).map rowT)))) (some (.d (.lst ((goodL ws s κ).map rowT)))) none none none none none none none) T = some (.nx (e21 p (some (.d (.tup (ws.map natD)))) (some (.d (.int (s : Int)))) (some (.d (kD κ))) (some (.d (.tup (t.map natD)))) (some (.d (.lst ((everyL ws.length s).map rowT)))) (some (.d (.lst ((goodL ws s κ).map rowT)))) none none none none none none none), T) := fun T => by
    have hni := notin_of tgood
    have ht := turns_mapI (g := ev (callD tab (k + 5)) 36) (elt := .call 20 [.var 1, .var 2, .var 3, .var 14]) (tg := .nm 14) (own := [14]) (ρ := e21 p (some (.d (.tup (ws.map natD)))) (some (.d (.int (s : Int)))) (some (.d (kD κ))) (some (.d (.tup (t.map natD)))) (some (.d (.lst ((everyL ws.length s).map rowT)))) (some (.d (.lst ((goodL ws s κ).map rowT)))) none none none none none none none) (S := T) rowT (fun r => .bl (boundB ws s κ r)) (goodL ws s κ) [] (fun r hr => by
      refine ⟨[some (.r p), some (.d (.tup (ws.map natD))), some (.d (.int (s : Int))), some (.d (kD κ)), some (.d (.tup (t.map natD))), some (.d (.lst ((everyL ws.length s).map rowT))), some (.d (.lst ((goodL ws s κ).map rowT))), none, none, none, none, none, none, none, some (.d (rowT r)), none, none, none], by simp [-Option.bind_some, e21], ?_⟩
      have e := r_bounded (k + 4) v s (by omega) κ r (good_ok hr).1 (fun i => by
        have a := at0_le_sum r i
        have b := (good_ok hr).2.1
        omega) T
      simp only [List.map_cons, List.map_nil, List.length_cons, List.length_nil, Nat.reduceAdd, Nat.reduceSub, Nat.reduceLT, Nat.zero_add, List.replicate_succ, List.replicate_zero, List.cons_append, List.nil_append, exs_cons, exs_nil, ex_asgN, ex_asgT, ex_ret, ex_ife, ex_expr, ex_for, ex_par, ev_call, ev_callK, ev_o1, ev_o2, ev_var, ev_cst, ev_glob, ev_and, ev_or, ev_not, ev_isa, ev_lc, ev_tup, ev_idxT, ev_idxL, getV_zero, getV_succ, bnd, deref_d, asD_d, asI_int, asL_lst, asT_tup, onSeq_lst, onT_tup, evs_cons, evs_nil, evT_cons, evT_nil, if_true, Bool.false_eq_true, if_false, isTrueD_bl, Bool.not_true, Bool.not_false, and_self, List.set_cons_succ, List.set_cons_zero, thenO_nx, thenO_ret, finish_d, List.take_length, walked_tup, walked_lst, walked_eT, walked_eL, walked_zT, o1_lenT, o1_lenL, o1_tupleL, o1_int, o1_intb, o1_abs, o2_add, o2_sub, o2_lt, o2_le, o2_gt, eqD_int, neD_int, asDs_cons, asDs_nil, Option.map_some, bindT_tp, bindTs_cons, bindTs_nil, bindT_nm, isa, onBl_bl, rowT, e]) (by rw [List.length_nil]; omega)
    rw [List.nil_append] at ht
    have ha := o1_all_map (boundB ws s κ) (goodL ws s κ)
    have hal : (goodL ws s κ).all (boundB ws s κ) = true := List.all_eq_true.mpr hbd
    rw [hal] at ha
    unfold e21 at ht ⊢
    simp only [List.map_cons, List.map_nil, List.length_cons, List.length_nil, Nat.reduceAdd, Nat.reduceSub, Nat.reduceLT, Nat.zero_add, List.replicate_succ, List.replicate_zero, List.cons_append, List.nil_append, exs_cons, exs_nil, ex_asgN, ex_asgT, ex_ret, ex_ife, ex_expr, ex_for, ex_par, ev_call, ev_callK, ev_o1, ev_o2, ev_var, ev_cst, ev_glob, ev_and, ev_or, ev_not, ev_isa, ev_lc, ev_tup, ev_idxT, ev_idxL, getV_zero, getV_succ, bnd, deref_d, asD_d, asI_int, asL_lst, asT_tup, onSeq_lst, onT_tup, evs_cons, evs_nil, evT_cons, evT_nil, if_true, Bool.false_eq_true, if_false, isTrueD_bl, Bool.not_true, Bool.not_false, and_self, List.set_cons_succ, List.set_cons_zero, thenO_nx, thenO_ret, finish_d, List.take_length, walked_tup, walked_lst, walked_eT, walked_eL, walked_zT, o1_lenT, o1_lenL, o1_tupleL, o1_int, o1_intb, o1_abs, o2_add, o2_sub, o2_lt, o2_le, o2_gt, eqD_int, neD_int, asDs_cons, asDs_nil, Option.map_some, bindT_tp, bindTs_cons, bindTs_nil, bindT_nm, isa, onBl_bl, hni, ht, ha]
  have s4 : ∀ T : Store, ex (callD tab (k + 5)) 20 (.asg (.nm 7) (.o2 .catL (.slL (.var 5) none (some (.cst (.int 80)))) (.lst [.o1 .listT (.var 4), .revT (.var 4), .slT (.var 4) (some (.cst (.int 1))) none, .o2 .catT (.var 4) (.tup [.cst (.int 0)]), .cst .non, .o1 .tupleL (.lc (.o2 .eq (.var 16) (.cst (.int 1))) (.nm 16) .tup [.var 4] [] [16])]))) (e21 p (some (.d (.tup (ws.map natD)))) (some (.d (.int (s : Int)))) (some (.d (kD κ))) (some (.d (.tup (t.map natD)))) (some (.d (.lst ((everyL ws.length s).map rowT)))) (some (.d (.lst ((goodL ws s κ).map rowT)))) none none none none none none none) T = some (.nx (e21 p (some (.d (.tup (ws.map natD)))) (some (.d (.int (s : Int)))) (some (.d (kD κ))) (some (.d (.tup (t.map natD)))) (some (.d (.lst ((everyL ws.length s).map rowT)))) (some (.d (.lst ((goodL ws s κ).map rowT)))) (some (.d (.lst (valsL ws.length s t)))) none none none none none none), T) := fun T => by
    have c1 : cutD ((everyL ws.length s).map rowT) none (some 80) = ((everyL ws.length s).take 80).map rowT := by
      have := cut_hi ((everyL ws.length s).map rowT) 80
      rw [← List.map_take] at this
      exact this
    have c2 : cutD (t.map natD) (some 1) none = (t.drop 1).map natD := by
      have := cut_lo (t.map natD) 1
      rw [← List.map_drop] at this
      exact this
    have c3 : o1 .listT (.tup (t.map natD)) = some (.lst (t.map natD)) := rfl
    have c4 := o2_cat (t.map natD) [.int 0] (by rw [List.length_map, List.length_singleton]; omega)
    have hf1 : fits 1 = true := by decide
    have hf6 : fits 6 = true := by decide
    have ht := turns_mapI (g := ev (callD tab (k + 5)) 36) (elt := .o2 .eq (.var 16) (.cst (.int 1))) (tg := .nm 16) (own := [16]) (ρ := e21 p (some (.d (.tup (ws.map natD)))) (some (.d (.int (s : Int)))) (some (.d (kD κ))) (some (.d (.tup (t.map natD)))) (some (.d (.lst ((everyL ws.length s).map rowT)))) (some (.d (.lst ((goodL ws s κ).map rowT)))) none none none none none none none) (S := T) natD (fun x => .bl (decide (x = 1))) t [] (fun x hx => by
      refine ⟨[some (.r p), some (.d (.tup (ws.map natD))), some (.d (.int (s : Int))), some (.d (kD κ)), some (.d (.tup (t.map natD))), some (.d (.lst ((everyL ws.length s).map rowT))), some (.d (.lst ((goodL ws s κ).map rowT))), none, none, none, none, none, none, none, none, none, some (.d (.int (x : Int))), none], by simp [-Option.bind_some, e21, natD], ?_⟩
      have hd : decide ((x : Int) = 1) = decide (x = 1) := decide_eq_decide.mpr (by omega)
      simp only [List.map_cons, List.map_nil, List.length_cons, List.length_nil, Nat.reduceAdd, Nat.reduceSub, Nat.reduceLT, Nat.zero_add, List.replicate_succ, List.replicate_zero, List.cons_append, List.nil_append, exs_cons, exs_nil, ex_asgN, ex_asgT, ex_ret, ex_ife, ex_expr, ex_for, ex_par, ev_call, ev_callK, ev_o1, ev_o2, ev_var, ev_cst, ev_glob, ev_and, ev_or, ev_not, ev_isa, ev_lc, ev_tup, ev_idxT, ev_idxL, getV_zero, getV_succ, bnd, deref_d, asD_d, asI_int, asL_lst, asT_tup, onSeq_lst, onT_tup, evs_cons, evs_nil, evT_cons, evT_nil, if_true, Bool.false_eq_true, if_false, isTrueD_bl, Bool.not_true, Bool.not_false, and_self, List.set_cons_succ, List.set_cons_zero, thenO_nx, thenO_ret, finish_d, List.take_length, walked_tup, walked_lst, walked_eT, walked_eL, walked_zT, o1_lenT, o1_lenL, o1_tupleL, o1_int, o1_intb, o1_abs, o2_add, o2_sub, o2_lt, o2_le, o2_gt, eqD_int, neD_int, asDs_cons, asDs_nil, Option.map_some, bindT_tp, bindTs_cons, bindTs_nil, bindT_nm, isa, onBl_bl, hd]) (by rw [List.length_nil]; omega)
    rw [List.nil_append] at ht
    have cL : o2 .catL (.lst (((everyL ws.length s).take 80).map rowT)) (.lst [.lst (t.map natD), .tup (t.map natD).reverse, .tup ((t.drop 1).map natD), .tup (t.map natD ++ [.int 0]), .non, .tup (onesL t)]) = some (.lst (valsL ws.length s t)) := by
      show (if fits _ = true then _ else _) = _
      rw [if_pos (by unfold fits; exact decide_eq_true (by rw [List.length_map, List.length_take]; simp only [List.length_cons, List.length_nil]; omega))]
      rfl
    unfold onesL at cL
    unfold e21 at ht ⊢
    simp only [List.map_cons, List.map_nil, List.length_cons, List.length_nil, Nat.reduceAdd, Nat.reduceSub, Nat.reduceLT, Nat.zero_add, List.replicate_succ, List.replicate_zero, List.cons_append, List.nil_append, exs_cons, exs_nil, ex_asgN, ex_asgT, ex_ret, ex_ife, ex_expr, ex_for, ex_par, ev_call, ev_callK, ev_o1, ev_o2, ev_var, ev_cst, ev_glob, ev_and, ev_or, ev_not, ev_isa, ev_lc, ev_tup, ev_idxT, ev_idxL, getV_zero, getV_succ, bnd, deref_d, asD_d, asI_int, asL_lst, asT_tup, onSeq_lst, onT_tup, evs_cons, evs_nil, evT_cons, evT_nil, if_true, Bool.false_eq_true, if_false, isTrueD_bl, Bool.not_true, Bool.not_false, and_self, List.set_cons_succ, List.set_cons_zero, thenO_nx, thenO_ret, finish_d, List.take_length, walked_tup, walked_lst, walked_eT, walked_eL, walked_zT, o1_lenT, o1_lenL, o1_tupleL, o1_int, o1_intb, o1_abs, o2_add, o2_sub, o2_lt, o2_le, o2_gt, eqD_int, neD_int, asDs_cons, asDs_nil, Option.map_some, bindT_tp, bindTs_cons, bindTs_nil, bindT_nm, isa, onBl_bl, ev_slL, evO_none, evO_some, c1, ev_lst, c3, ev_revT, ev_slT, c2, hf1, c4, ht, hf6, cL]
  obtain ⟨bs, zs, e8, b1, b2, p8⟩ := turns_drawD (C := callD tab (k + 5)) (f := 38) (v := 15) (p := p) (elt := .call 16 [.var 0, .var 4]) (ρ := e21 p (some (.d (.tup (ws.map natD)))) (some (.d (.int (s : Int)))) (some (.d (kD κ))) (some (.d (.tup (t.map natD)))) (some (.d (.lst ((everyL ws.length s).map rowT)))) (some (.d (.lst ((goodL ws s κ).map rowT)))) (some (.d (.lst (valsL ws.length s t)))) none none none none none none) (fun _ => True) 20 (by omega) (by simp [-Option.bind_some, e21]) (fun x m S' hp' hm => by
    obtain ⟨d, us, eb, hfd, hpb⟩ := r_bent (k + 1) t tne (by omega) (fun x hx => by have := tle x hx; omega) hp' (by omega)
    refine ⟨d, us, ?_, trivial, hpb⟩
    unfold e21
    simp only [List.map_cons, List.map_nil, List.length_cons, List.length_nil, Nat.reduceAdd, Nat.reduceSub, Nat.reduceLT, Nat.zero_add, List.replicate_succ, List.replicate_zero, List.cons_append, List.nil_append, exs_cons, exs_nil, ex_asgN, ex_asgT, ex_ret, ex_ife, ex_expr, ex_for, ex_par, ev_call, ev_callK, ev_o1, ev_o2, ev_var, ev_cst, ev_glob, ev_and, ev_or, ev_not, ev_isa, ev_lc, ev_tup, ev_idxT, ev_idxL, getV_zero, getV_succ, bnd, deref_d, asD_d, asI_int, asL_lst, asT_tup, onSeq_lst, onT_tup, evs_cons, evs_nil, evT_cons, evT_nil, if_true, Bool.false_eq_true, if_false, isTrueD_bl, Bool.not_true, Bool.not_false, and_self, List.set_cons_succ, List.set_cons_zero, thenO_nx, thenO_ret, finish_d, List.take_length, walked_tup, walked_lst, walked_eT, walked_eL, walked_zT, o1_lenT, o1_lenL, o1_tupleL, o1_int, o1_intb, o1_abs, o2_add, o2_sub, o2_lt, o2_le, o2_gt, eqD_int, neD_int, asDs_cons, asDs_nil, Option.map_some, bindT_tp, bindTs_cons, bindTs_nil, bindT_nm, isa, onBl_bl, eb]) ((List.range 6).map natD) [] n S h (by rw [List.length_map, List.length_range]; omega) (by rw [List.length_map, List.length_range, List.length_nil]; omega)
  rw [List.nil_append] at e8
  rw [List.length_map, List.length_range] at b1 p8
  have hvl : (valsL ws.length s t).length ≤ 86 := by
    unfold valsL
    rw [List.length_append, List.length_map, List.length_take]
    simp only [List.length_cons, List.length_nil]
    omega
  obtain ⟨z8, z13, e9⟩ := try_loop k v s (by omega) κ p (some (.d (.tup (t.map natD)))) (some (.d (.lst ((everyL ws.length s).map rowT)))) (some (.d (.lst ((goodL ws s κ).map rowT)))) (some (.d (.lst (valsL ws.length s t)))) none none none none (S.set p (some zs)) (valsL ws.length s t ++ bs) none none
  have s5 : ex (callD tab (k + 5)) 20 (.for_ (.nm 8) .lst [.o2 .catL (.var 7) (.lc (.call 16 [.var 0, .var 4]) (.nm 15) .rng1 [.cst (.int 6)] [] [15])] tryBody) (e21 p (some (.d (.tup (ws.map natD)))) (some (.d (.int (s : Int)))) (some (.d (kD κ))) (some (.d (.tup (t.map natD)))) (some (.d (.lst ((everyL ws.length s).map rowT)))) (some (.d (.lst ((goodL ws s κ).map rowT)))) (some (.d (.lst (valsL ws.length s t)))) none none none none none none) S = some (.nx (e21 p (some (.d (.tup (ws.map natD)))) (some (.d (.int (s : Int)))) (some (.d (kD κ))) (some (.d (.tup (t.map natD)))) (some (.d (.lst ((everyL ws.length s).map rowT)))) (some (.d (.lst ((goodL ws s κ).map rowT)))) (some (.d (.lst (valsL ws.length s t)))) z8 none none none none z13), S.set p (some zs)) := by
    have hw : ∀ T : Store, walked T .rng1 [.d (.int 6)] = some ((List.range 6).map natD) := fun T => walk_N T 6 (by omega)
    have cL : o2 .catL (.lst (valsL ws.length s t)) (.lst bs) = some (.lst (valsL ws.length s t ++ bs)) := by
      show (if fits ((valsL ws.length s t).length + bs.length) = true then _ else _) = _
      rw [if_pos (by unfold fits; exact decide_eq_true (by omega))]
    rw [ex_for]
    unfold e21 at e8 e9 ⊢
    simp only [evs_cons, evs_nil, ev_o2, ev_lc, ev_var, ev_cst, getV_zero, getV_succ, bnd, hw, e8, deref_d, cL, walked_lst]
    exact e9
  have hn1 : (s : Int) + 1 = ((s + 1 : Nat) : Int) := by omega
  have s6 : ∀ T : Store, ex (callD tab (k + 5)) 20 (.asg (.nm 9) (.lc (.var 14) (.nm 14) .lst [.call 19 [.o1 .len (.var 1), .o2 .add (.var 2) (.cst (.int 1))]] [.call 18 [.var 1, .o2 .add (.var 2) (.cst (.int 1)), .var 3, .var 14]] [14])) (e21 p (some (.d (.tup (ws.map natD)))) (some (.d (.int (s : Int)))) (some (.d (kD κ))) (some (.d (.tup (t.map natD)))) (some (.d (.lst ((everyL ws.length s).map rowT)))) (some (.d (.lst ((goodL ws s κ).map rowT)))) (some (.d (.lst (valsL ws.length s t)))) z8 none none none none z13) T = some (.nx (e21 p (some (.d (.tup (ws.map natD)))) (some (.d (.int (s : Int)))) (some (.d (kD κ))) (some (.d (.tup (t.map natD)))) (some (.d (.lst ((everyL ws.length s).map rowT)))) (some (.d (.lst ((goodL ws s κ).map rowT)))) (some (.d (.lst (valsL ws.length s t)))) z8 (some (.d (.lst ((goodL ws (s + 1) κ).map rowT)))) none none none z13), T) := fun T => by
    have ht := turns_good (k + 3) l4 hw3 (s + 1) (by omega) κ (.var 1) (.var 3) (.o2 .add (.var 2) (.cst (.int 1))) (e21 p (some (.d (.tup (ws.map natD)))) (some (.d (.int (s : Int)))) (some (.d (kD κ))) (some (.d (.tup (t.map natD)))) (some (.d (.lst ((everyL ws.length s).map rowT)))) (some (.d (.lst ((goodL ws s κ).map rowT)))) (some (.d (.lst (valsL ws.length s t)))) z8 none none none none z13) (by simp [-Option.bind_some, e21]) T (fun x => rfl) (fun x => by
      unfold e21
      simp only [List.map_cons, List.map_nil, List.length_cons, List.length_nil, Nat.reduceAdd, Nat.reduceSub, Nat.reduceLT, Nat.zero_add, List.replicate_succ, List.replicate_zero, List.cons_append, List.nil_append, exs_cons, exs_nil, ex_asgN, ex_asgT, ex_ret, ex_ife, ex_expr, ex_for, ex_par, ev_call, ev_callK, ev_o1, ev_o2, ev_var, ev_cst, ev_glob, ev_and, ev_or, ev_not, ev_isa, ev_lc, ev_tup, ev_idxT, ev_idxL, getV_zero, getV_succ, bnd, deref_d, asD_d, asI_int, asL_lst, asT_tup, onSeq_lst, onT_tup, evs_cons, evs_nil, evT_cons, evT_nil, if_true, Bool.false_eq_true, if_false, isTrueD_bl, Bool.not_true, Bool.not_false, and_self, List.set_cons_succ, List.set_cons_zero, thenO_nx, thenO_ret, finish_d, List.take_length, walked_tup, walked_lst, walked_eT, walked_eL, walked_zT, o1_lenT, o1_lenL, o1_tupleL, o1_int, o1_intb, o1_abs, o2_add, o2_sub, o2_lt, o2_le, o2_gt, eqD_int, neD_int, asDs_cons, asDs_nil, Option.map_some, bindT_tp, bindTs_cons, bindTs_nil, bindT_nm, isa, onBl_bl, hn1]) (fun x => rfl) (fun x => rfl) (fun x => rfl)
    unfold e21 at ht ⊢
    simp only [List.map_cons, List.map_nil, List.length_cons, List.length_nil, Nat.reduceAdd, Nat.reduceSub, Nat.reduceLT, Nat.zero_add, List.replicate_succ, List.replicate_zero, List.cons_append, List.nil_append, exs_cons, exs_nil, ex_asgN, ex_asgT, ex_ret, ex_ife, ex_expr, ex_for, ex_par, ev_call, ev_callK, ev_o1, ev_o2, ev_var, ev_cst, ev_glob, ev_and, ev_or, ev_not, ev_isa, ev_lc, ev_tup, ev_idxT, ev_idxL, getV_zero, getV_succ, bnd, deref_d, asD_d, asI_int, asL_lst, asT_tup, onSeq_lst, onT_tup, evs_cons, evs_nil, evT_cons, evT_nil, if_true, Bool.false_eq_true, if_false, isTrueD_bl, Bool.not_true, Bool.not_false, and_self, List.set_cons_succ, List.set_cons_zero, thenO_nx, thenO_ret, finish_d, List.take_length, walked_tup, walked_lst, walked_eT, walked_eL, walked_zT, o1_lenT, o1_lenL, o1_tupleL, o1_int, o1_intb, o1_abs, o2_add, o2_sub, o2_lt, o2_le, o2_gt, eqD_int, neD_int, asDs_cons, asDs_nil, Option.map_some, bindT_tp, bindTs_cons, bindTs_nil, bindT_nm, isa, onBl_bl, List.length_map, hn1, k2', ht]
  have tup : seatsL ws κ (s + 1) ∈ goodL ws (s + 1) κ := good_in (seatsL_len ws κ (s + 1)) (seats_sum l0 κ (s + 1)) (right_iff.mpr (seats_right l0 v.w0 κ (s + 1)))
  have s7 : ∀ T : Store, ex (callD tab (k + 5)) 20 (.ife (.not (.o1 .any (.lc (.o1 .all (.lc (.o2 .le (.var 16) (.var 17)) (.tp [(.nm 16), (.nm 17)]) .zipTT [.var 4, .var 14] [] [16, 17])) (.nm 14) .lst [.var 9] [] [14]))) [.ret (.cst (.bl false))] []) (e21 p (some (.d (.tup (ws.map natD)))) (some (.d (.int (s : Int)))) (some (.d (kD κ))) (some (.d (.tup (t.map natD)))) (some (.d (.lst ((everyL ws.length s).map rowT)))) (some (.d (.lst ((goodL ws s κ).map rowT)))) (some (.d (.lst (valsL ws.length s t)))) z8 (some (.d (.lst ((goodL ws (s + 1) κ).map rowT)))) none none none z13) T = some (.nx (e21 p (some (.d (.tup (ws.map natD)))) (some (.d (.int (s : Int)))) (some (.d (kD κ))) (some (.d (.tup (t.map natD)))) (some (.d (.lst ((everyL ws.length s).map rowT)))) (some (.d (.lst ((goodL ws s κ).map rowT)))) (some (.d (.lst (valsL ws.length s t)))) z8 (some (.d (.lst ((goodL ws (s + 1) κ).map rowT)))) none none none z13), T) := fun T => by
    have ht := turns_mapI (g := ev (callD tab (k + 5)) 37) (elt := .o1 .all (.lc (.o2 .le (.var 16) (.var 17)) (.tp [(.nm 16), (.nm 17)]) .zipTT [.var 4, .var 14] [] [16, 17])) (tg := .nm 14) (own := [14]) (ρ := e21 p (some (.d (.tup (ws.map natD)))) (some (.d (.int (s : Int)))) (some (.d (kD κ))) (some (.d (.tup (t.map natD)))) (some (.d (.lst ((everyL ws.length s).map rowT)))) (some (.d (.lst ((goodL ws s κ).map rowT)))) (some (.d (.lst (valsL ws.length s t)))) z8 (some (.d (.lst ((goodL ws (s + 1) κ).map rowT)))) none none none z13) (S := T) rowT (fun r => .bl ((List.range ws.length).all fun i => decide (at0 t i ≤ at0 r i))) (goodL ws (s + 1) κ) [] (fun r hr => by
      have hrl := (good_ok hr).1
      refine ⟨[some (.r p), some (.d (.tup (ws.map natD))), some (.d (.int (s : Int))), some (.d (kD κ)), some (.d (.tup (t.map natD))), some (.d (.lst ((everyL ws.length s).map rowT))), some (.d (.lst ((goodL ws s κ).map rowT))), some (.d (.lst (valsL ws.length s t))), z8, some (.d (.lst ((goodL ws (s + 1) κ).map rowT))), none, none, none, z13, some (.d (rowT r)), none, none, none], by simp [-Option.bind_some, e21], ?_⟩
      have hz : zipD (t.map natD) (r.map natD) = (List.range ws.length).map fun i => .tup [natD (at0 t i), natD (at0 r i)] := by
        rw [← map_getD natD t, ← map_getD natD r, tl, hrl]
        exact zipD_map _ _ _
      have hin := turns_mapI (g := ev (callD tab (k + 5)) 35) (elt := .o2 .le (.var 16) (.var 17)) (tg := .tp [(.nm 16), (.nm 17)]) (own := [16, 17]) (ρ := [some (.r p), some (.d (.tup (ws.map natD))), some (.d (.int (s : Int))), some (.d (kD κ)), some (.d (.tup (t.map natD))), some (.d (.lst ((everyL ws.length s).map rowT))), some (.d (.lst ((goodL ws s κ).map rowT))), some (.d (.lst (valsL ws.length s t))), z8, some (.d (.lst ((goodL ws (s + 1) κ).map rowT))), none, none, none, z13, some (.d (rowT r)), none, none, none]) (S := T) (fun i => .tup [natD (at0 t i), natD (at0 r i)]) (fun i => .bl (decide (at0 t i ≤ at0 r i))) (List.range ws.length) [] (fun i hi => by
        refine ⟨[some (.r p), some (.d (.tup (ws.map natD))), some (.d (.int (s : Int))), some (.d (kD κ)), some (.d (.tup (t.map natD))), some (.d (.lst ((everyL ws.length s).map rowT))), some (.d (.lst ((goodL ws s κ).map rowT))), some (.d (.lst (valsL ws.length s t))), z8, some (.d (.lst ((goodL ws (s + 1) κ).map rowT))), none, none, none, z13, some (.d (rowT r)), none, some (.d (.int ((at0 t i : Nat) : Int))), some (.d (.int ((at0 r i : Nat) : Int)))], by simp [-Option.bind_some, natD], ?_⟩
        have hd : decide (((at0 t i : Nat) : Int) ≤ ((at0 r i : Nat) : Int)) = decide (at0 t i ≤ at0 r i) := decide_eq_decide.mpr (by omega)
        simp only [List.map_cons, List.map_nil, List.length_cons, List.length_nil, Nat.reduceAdd, Nat.reduceSub, Nat.reduceLT, Nat.zero_add, List.replicate_succ, List.replicate_zero, List.cons_append, List.nil_append, exs_cons, exs_nil, ex_asgN, ex_asgT, ex_ret, ex_ife, ex_expr, ex_for, ex_par, ev_call, ev_callK, ev_o1, ev_o2, ev_var, ev_cst, ev_glob, ev_and, ev_or, ev_not, ev_isa, ev_lc, ev_tup, ev_idxT, ev_idxL, getV_zero, getV_succ, bnd, deref_d, asD_d, asI_int, asL_lst, asT_tup, onSeq_lst, onT_tup, evs_cons, evs_nil, evT_cons, evT_nil, if_true, Bool.false_eq_true, if_false, isTrueD_bl, Bool.not_true, Bool.not_false, and_self, List.set_cons_succ, List.set_cons_zero, thenO_nx, thenO_ret, finish_d, List.take_length, walked_tup, walked_lst, walked_eT, walked_eL, walked_zT, o1_lenT, o1_lenL, o1_tupleL, o1_int, o1_intb, o1_abs, o2_add, o2_sub, o2_lt, o2_le, o2_gt, eqD_int, neD_int, asDs_cons, asDs_nil, Option.map_some, bindT_tp, bindTs_cons, bindTs_nil, bindT_nm, isa, onBl_bl, hd]) (by simp [-Option.bind_some]; omega)
      rw [List.nil_append] at hin
      have ha := o1_all_map (fun i => decide (at0 t i ≤ at0 r i)) (List.range ws.length)
      have er : rowT r = .tup (r.map natD) := rfl
      rw [er] at hin ⊢
      simp only [List.map_cons, List.map_nil, List.length_cons, List.length_nil, Nat.reduceAdd, Nat.reduceSub, Nat.reduceLT, Nat.zero_add, List.replicate_succ, List.replicate_zero, List.cons_append, List.nil_append, exs_cons, exs_nil, ex_asgN, ex_asgT, ex_ret, ex_ife, ex_expr, ex_for, ex_par, ev_call, ev_callK, ev_o1, ev_o2, ev_var, ev_cst, ev_glob, ev_and, ev_or, ev_not, ev_isa, ev_lc, ev_tup, ev_idxT, ev_idxL, getV_zero, getV_succ, bnd, deref_d, asD_d, asI_int, asL_lst, asT_tup, onSeq_lst, onT_tup, evs_cons, evs_nil, evT_cons, evT_nil, if_true, Bool.false_eq_true, if_false, isTrueD_bl, Bool.not_true, Bool.not_false, and_self, List.set_cons_succ, List.set_cons_zero, thenO_nx, thenO_ret, finish_d, List.take_length, walked_tup, walked_lst, walked_eT, walked_eL, walked_zT, o1_lenT, o1_lenL, o1_tupleL, o1_int, o1_intb, o1_abs, o2_add, o2_sub, o2_lt, o2_le, o2_gt, eqD_int, neD_int, asDs_cons, asDs_nil, Option.map_some, bindT_tp, bindTs_cons, bindTs_nil, bindT_nm, isa, onBl_bl, hz, hin, ha]) (by rw [List.length_nil]; omega)
    rw [List.nil_append] at ht
    have han := o1_any_map (fun r => (List.range ws.length).all fun i => decide (at0 t i ≤ at0 r i)) (goodL ws (s + 1) κ)
    have htrue : ((goodL ws (s + 1) κ).any fun r => (List.range ws.length).all fun i => decide (at0 t i ≤ at0 r i)) = true := by
      rw [List.any_eq_true]
      refine ⟨_, tup, ?_⟩
      rw [List.all_eq_true]
      intro i _
      rw [← hT]
      exact decide_eq_true (seats_le l0 κ s i)
    rw [htrue] at han
    unfold e21 at ht ⊢
    simp only [List.map_cons, List.map_nil, List.length_cons, List.length_nil, Nat.reduceAdd, Nat.reduceSub, Nat.reduceLT, Nat.zero_add, List.replicate_succ, List.replicate_zero, List.cons_append, List.nil_append, exs_cons, exs_nil, ex_asgN, ex_asgT, ex_ret, ex_ife, ex_expr, ex_for, ex_par, ev_call, ev_callK, ev_o1, ev_o2, ev_var, ev_cst, ev_glob, ev_and, ev_or, ev_not, ev_isa, ev_lc, ev_tup, ev_idxT, ev_idxL, getV_zero, getV_succ, bnd, deref_d, asD_d, asI_int, asL_lst, asT_tup, onSeq_lst, onT_tup, evs_cons, evs_nil, evT_cons, evT_nil, if_true, Bool.false_eq_true, if_false, isTrueD_bl, Bool.not_true, Bool.not_false, and_self, List.set_cons_succ, List.set_cons_zero, thenO_nx, thenO_ret, finish_d, List.take_length, walked_tup, walked_lst, walked_eT, walked_eL, walked_zT, o1_lenT, o1_lenL, o1_tupleL, o1_int, o1_intb, o1_abs, o2_add, o2_sub, o2_lt, o2_le, o2_gt, eqD_int, neD_int, asDs_cons, asDs_nil, Option.map_some, bindT_tp, bindTs_cons, bindTs_nil, bindT_nm, isa, onBl_bl, ht, han]
  have s8 : ∀ T : Store, ex (callD tab (k + 5)) 20 (.ife (.o2 .notInD (.call 10 [.var 1, .o2 .add (.var 2) (.cst (.int 1)), .var 3]) (.var 9)) [.ret (.cst (.bl false))] []) (e21 p (some (.d (.tup (ws.map natD)))) (some (.d (.int (s : Int)))) (some (.d (kD κ))) (some (.d (.tup (t.map natD)))) (some (.d (.lst ((everyL ws.length s).map rowT)))) (some (.d (.lst ((goodL ws s κ).map rowT)))) (some (.d (.lst (valsL ws.length s t)))) z8 (some (.d (.lst ((goodL ws (s + 1) κ).map rowT)))) none none none z13) T = some (.nx (e21 p (some (.d (.tup (ws.map natD)))) (some (.d (.int (s : Int)))) (some (.d (kD κ))) (some (.d (.tup (t.map natD)))) (some (.d (.lst ((everyL ws.length s).map rowT)))) (some (.d (.lst ((goodL ws s κ).map rowT)))) (some (.d (.lst (valsL ws.length s t)))) z8 (some (.d (.lst ((goodL ws (s + 1) κ).map rowT)))) none none none z13), T) := fun T => by
    have hni := notin_of tup
    unfold e21
    simp only [List.map_cons, List.map_nil, List.length_cons, List.length_nil, Nat.reduceAdd, Nat.reduceSub, Nat.reduceLT, Nat.zero_add, List.replicate_succ, List.replicate_zero, List.cons_append, List.nil_append, exs_cons, exs_nil, ex_asgN, ex_asgT, ex_ret, ex_ife, ex_expr, ex_for, ex_par, ev_call, ev_callK, ev_o1, ev_o2, ev_var, ev_cst, ev_glob, ev_and, ev_or, ev_not, ev_isa, ev_lc, ev_tup, ev_idxT, ev_idxL, getV_zero, getV_succ, bnd, deref_d, asD_d, asI_int, asL_lst, asT_tup, onSeq_lst, onT_tup, evs_cons, evs_nil, evT_cons, evT_nil, if_true, Bool.false_eq_true, if_false, isTrueD_bl, Bool.not_true, Bool.not_false, and_self, List.set_cons_succ, List.set_cons_zero, thenO_nx, thenO_ret, finish_d, List.take_length, walked_tup, walked_lst, walked_eT, walked_eL, walked_zT, o1_lenT, o1_lenL, o1_tupleL, o1_int, o1_intb, o1_abs, o2_add, o2_sub, o2_lt, o2_le, o2_gt, eqD_int, neD_int, asDs_cons, asDs_nil, Option.map_some, bindT_tp, bindTs_cons, bindTs_nil, bindT_nm, isa, onBl_bl, hn1, k1', hni]
  refine ⟨zs, ?_, p8.mono (by omega)⟩
  unfold tryBody at s5
  unfold f21
  show Option.bind (exs _ _ (e21 p (some (.d (.tup (ws.map natD)))) (some (.d (.int (s : Int)))) (some (.d (kD κ))) none none none none none none none none none none) S) _ = _
  rw [exs_nx (s1 _), exs_nx (s2 _), exs_nx (s3 _), exs_nx (s4 _), exs_nx s5, exs_nx (s6 _), exs_nx (s7 _), exs_nx (s8 _)]
  have fin := kind_end k v l4 w999 s hs8 κ tl tsum tright p (some (.d (.lst ((everyL ws.length s).map rowT)))) (some (.d (.lst ((goodL ws s κ).map rowT)))) (some (.d (.lst (valsL ws.length s t)))) z8 (some (.d (.lst ((goodL ws (s + 1) κ).map rowT)))) z13 (S.set p (some zs))
  unfold endBody at fin
  rw [fin, bnd, thenO_ret, finish_d, take_set_len]
end K56
end

section
set_option autoImplicit false
set_option linter.all false
set_option maxRecDepth 20000
/-! k56: few votes, many votes, what is known, the law. -/
namespace K56
open PySem DL
def env5 (p : Nat) (a1 a2 : Option E) : DL.Env := [some (.r p), a1, a2, none, none]
def votesE : Tm := .o1 .tupleL (.lc (.o1 .int (.o2 .add (.cst (.int 1)) (.call 13 [.var 0, .call 14 [.var 0, .lst [.cst (.int 3), .cst (.int 20), .cst (.int 999)]]]))) (.nm 3) .rng1 [.o2 .add (.cst (.int 1)) (.call 13 [.var 0, .cst (.int 4)])] [] [3])
theorem few_votes (k : Nat) {n : Int} {S : Store} {p : Nat} (h : Pot n S p) (hn : n < 500000) :
    ∃ (ws : List Nat) (xs : List D), ev (callD tab (k + 2)) 40 votesE (env5 p none none) S = some (.d (.tup (ws.map natD)), S.set p (some xs)) ∧
      Votes ws ∧ ws.length ≤ 4 ∧ (∀ w ∈ ws, w ≤ 999) ∧ Pot (n + 20) (S.set p (some xs)) p := by
  obtain ⟨r, xs, e, h1, h2, h3⟩ := takes (k + 1) 4 h (by omega) (by omega)
  obtain ⟨r, rfl⟩ : ∃ t : Nat, r = (t : Int) := ⟨r.toNat, by omega⟩
  have er : (1 : Int) + (r : Int) = ((1 + r : Nat) : Int) := by omega
  have hw : ∀ S : Store, walked S .rng1 [.d (.int ((1 + r : Nat) : Int))] = some ((List.range (1 + r)).map natD) := fun S => walk_N S (1 + r) (by omega)
  have hf3 : fits 3 = true := by decide
  obtain ⟨ws, ys, e1, g1, g2, g3⟩ := turns_draw (C := callD tab (k + 2)) (f := 38) (v := 3) (p := p) (elt := .o1 .int (.o2 .add (.cst (.int 1)) (.call 13 [.var 0, .call 14 [.var 0, .lst [.cst (.int 3), .cst (.int 20), .cst (.int 999)]]]))) (ρ := env5 p none none) (fun w => 1 ≤ w ∧ w ≤ 999) 2 (by omega) (by simp [-Option.bind_some, env5])
    (fun x m S hp hm => by
      obtain ⟨u, xs, e, hu, h3⟩ := r_of k [.int 3, .int 20, .int 999] hp (by omega) (by simp [-Option.bind_some])
      obtain ⟨u, rfl, hu0, hu1⟩ : ∃ i : Int, u = .int i ∧ 0 < i ∧ i ≤ 999 := by
        simp only [List.mem_cons, List.not_mem_nil, or_false] at hu
        rcases hu with h | h | h <;> exact ⟨_, h, by omega, by omega⟩
      obtain ⟨r, ys, e', h1', h2', h3'⟩ := takes (k + 1) u h3 (by omega) (by omega)
      obtain ⟨t, rfl⟩ : ∃ t : Nat, r = (t : Int) := ⟨r.toNat, by omega⟩
      rw [List.set_set] at e' h3'
      refine ⟨1 + t, ys, ?_, by omega, h3'.mono (by omega)⟩
      have et : (1 : Int) + (t : Int) = ((1 + t : Nat) : Int) := by omega
      simp only [List.map_cons, List.map_nil, List.length_cons, List.length_nil, Nat.reduceAdd, Nat.reduceSub, Nat.reduceLT, Nat.zero_add, List.replicate_succ, List.replicate_zero, List.cons_append, List.nil_append, exs_cons, exs_nil, ex_asgN, ex_asgT, ex_ret, ex_ife, ex_expr, ex_for, ex_par, ev_call, ev_callK, ev_o1, ev_o2, ev_var, ev_cst, ev_glob, ev_and, ev_or, ev_not, ev_isa, ev_lc, ev_tup, ev_idxT, ev_idxL, getV_zero, getV_succ, bnd, deref_d, asD_d, asI_int, asL_lst, asT_tup, onSeq_lst, onT_tup, evs_cons, evs_nil, evT_cons, evT_nil, if_true, Bool.false_eq_true, if_false, isTrueD_bl, Bool.not_true, Bool.not_false, and_self, List.set_cons_succ, List.set_cons_zero, thenO_nx, thenO_ret, finish_d, List.take_length, walked_tup, walked_lst, walked_eT, walked_eL, walked_zT, o1_lenT, o1_lenL, o1_tupleL, o1_int, o1_intb, o1_abs, o2_add, o2_sub, o2_lt, o2_le, o2_gt, eqD_int, neD_int, asDs_cons, asDs_nil, Option.map_some, bindT_tp, bindTs_cons, bindTs_nil, bindT_nm, isa, onBl_bl, env5, ev_lst, hf3, e, e', et, natD])
    ((List.range (1 + r)).map natD) [] (n + 1) (S.set p (some xs)) h3 (by rw [List.length_map, List.length_range]; omega) (by rw [List.length_map, List.length_range, List.length_nil]; omega)
  rw [List.length_map, List.length_range] at g1 g3
  rw [List.set_set] at e1 g3
  refine ⟨ws, ys, ?_, ⟨by omega, by omega, fun w hw => (g2 w hw).1, fun w hw => by have := (g2 w hw).2; omega⟩, by omega, fun w hw => (g2 w hw).2, g3.mono (by omega)⟩
  rw [List.map_nil, List.nil_append] at e1
  unfold votesE
  unfold env5 at e1 ⊢
  simp only [List.map_cons, List.map_nil, List.length_cons, List.length_nil, Nat.reduceAdd, Nat.reduceSub, Nat.reduceLT, Nat.zero_add, List.replicate_succ, List.replicate_zero, List.cons_append, List.nil_append, exs_cons, exs_nil, ex_asgN, ex_asgT, ex_ret, ex_ife, ex_expr, ex_for, ex_par, ev_call, ev_callK, ev_o1, ev_o2, ev_var, ev_cst, ev_glob, ev_and, ev_or, ev_not, ev_isa, ev_lc, ev_tup, ev_idxT, ev_idxL, getV_zero, getV_succ, bnd, deref_d, asD_d, asI_int, asL_lst, asT_tup, onSeq_lst, onT_tup, evs_cons, evs_nil, evT_cons, evT_nil, if_true, Bool.false_eq_true, if_false, isTrueD_bl, Bool.not_true, Bool.not_false, and_self, List.set_cons_succ, List.set_cons_zero, thenO_nx, thenO_ret, finish_d, List.take_length, walked_tup, walked_lst, walked_eT, walked_eL, walked_zT, o1_lenT, o1_lenL, o1_tupleL, o1_int, o1_intb, o1_abs, o2_add, o2_sub, o2_lt, o2_le, o2_gt, eqD_int, neD_int, asDs_cons, asDs_nil, Option.map_some, bindT_tp, bindTs_cons, bindTs_nil, bindT_nm, isa, onBl_bl, e, er, hw, e1]
theorem turns_kinds (k p : Nat) {ws : List Nat} (v : Votes ws) (l4 : ws.length ≤ 4) (w999 : ∀ w ∈ ws, w ≤ 999) (s : Nat) (hs : s ≤ 7) : ∀ (l : List Kd) (c : Nat) (n : Int) (S : Store), Pot n S p → n + 200 * (l.length : Int) < 400000 → c + l.length < 1000 →
    ∃ xs, turns (ev (callD tab (k + 6)) 38) (.call 21 [.var 0, .var 1, .var 2, .var 4]) (.nm 4) [] [4] (env5 p (some (.d (.tup (ws.map natD)))) (some (.d (.int (s : Int))))) (l.map kD) (List.replicate c (.bl true)) S = some (List.replicate (c + l.length) (.bl true), S.set p (some xs)) ∧ Pot (n + 200 * (l.length : Int)) (S.set p (some xs)) p
  | [], c, n, S, h, _, _ => by
    obtain ⟨xs, hx⟩ := h.self
    refine ⟨xs, ?_, ?_⟩
    · rw [List.map_nil, turns_nil, ← hx]
      rfl
    · rw [← hx]
      have e : n + 200 * (([] : List Kd).length : Int) = n := by simp [-Option.bind_some]
      rw [e]
      exact h
  | x :: l, c, n, S, h, hn, hc => by
    rw [List.length_cons] at hn hc
    obtain ⟨xs, e1, h1⟩ := r_kind k v l4 w999 s hs x h (by omega)
    obtain ⟨ys, e2, h2⟩ := turns_kinds k p v l4 w999 s hs l (c + 1) (n + 200) (S.set p (some xs)) h1 (by omega) (by omega)
    refine ⟨ys, ?_, ?_⟩
    · have hb : bindT (.nm 4) (kD x) (wipe (env5 p (some (.d (.tup (ws.map natD)))) (some (.d (.int (s : Int))))) [4]) = some [some (.r p), some (.d (.tup (ws.map natD))), some (.d (.int (s : Int))), none, some (.d (kD x))] := by simp [-Option.bind_some, env5]
      have he : ev (callD tab (k + 6)) 38 (.call 21 [.var 0, .var 1, .var 2, .var 4]) [some (.r p), some (.d (.tup (ws.map natD))), some (.d (.int (s : Int))), none, some (.d (kD x))] S = some (.d (.bl true), S.set p (some xs)) := by
        simp only [ev_call, evs_cons, evs_nil, ev_var, getV_zero, getV_succ, bnd, e1]
      have hr : List.replicate c (D.bl true) ++ [D.bl true] = List.replicate (c + 1) (D.bl true) := by rw [List.replicate_succ']
      rw [List.map_cons, turns_cons, hb, bnd, evT_nil, bnd, if_pos rfl, he, bnd, asD_d, bnd, if_pos (by rw [List.length_replicate]; omega), hr, e2, List.set_set, List.length_cons]
      congr 3
      omega
    · rw [List.set_set] at h2
      rw [List.length_cons]
      exact h2.mono (by omega)
theorem r_few (k : Nat) {n : Int} {S : Store} {p : Nat} (h : Pot n S p) (hn : n < 300000) :
    ∃ xs, callD tab (k + 7) 22 [.r p] S = some (.d (.bl true), S.set p (some xs)) ∧ Pot (n + 700) (S.set p (some xs)) p := by
  obtain ⟨ws, xs, e1, v, l4, w999, p1⟩ := few_votes (k + 4) h (by omega)
  obtain ⟨r, ys, e2, r0, r1, p2⟩ := takes (k + 5) 8 p1 (by omega) (by omega)
  obtain ⟨s, rfl⟩ : ∃ t : Nat, r = (t : Int) := ⟨r.toNat, by omega⟩
  simp only [List.set_set] at e2 p2
  obtain ⟨zs, e3, p3⟩ := turns_kinds k p v l4 w999 s (by omega) [.down, .half, .up] 0 (n + 20 + 1) (S.set p (some ys)) p2 (by simp [-Option.bind_some]; omega) (by simp [-Option.bind_some])
  simp only [List.set_set] at e3 p3
  refine ⟨zs, ?_, p3.mono (by simp [-Option.bind_some]; omega)⟩
  rw [callD_run (fn := f22) rfl rfl]
  have s1 : ex (callD tab (k + 6)) 20 (.asg (.nm 1) votesE) (env5 p none none) S = some (.nx (env5 p (some (.d (.tup (ws.map natD)))) none), S.set p (some xs)) := by
    rw [ex_asgN, e1, bnd]
    rfl
  have s2 : ex (callD tab (k + 6)) 20 (.asg (.nm 2) (.o1 .int (.call 13 [.var 0, .cst (.int 8)]))) (env5 p (some (.d (.tup (ws.map natD)))) none) (S.set p (some xs)) = some (.nx (env5 p (some (.d (.tup (ws.map natD)))) (some (.d (.int (s : Int))))), S.set p (some ys)) := by
    unfold env5
    simp only [List.map_cons, List.map_nil, List.length_cons, List.length_nil, Nat.reduceAdd, Nat.reduceSub, Nat.reduceLT, Nat.zero_add, List.replicate_succ, List.replicate_zero, List.cons_append, List.nil_append, exs_cons, exs_nil, ex_asgN, ex_asgT, ex_ret, ex_ife, ex_expr, ex_for, ex_par, ev_call, ev_callK, ev_o1, ev_o2, ev_var, ev_cst, ev_glob, ev_and, ev_or, ev_not, ev_isa, ev_lc, ev_tup, ev_idxT, ev_idxL, getV_zero, getV_succ, bnd, deref_d, asD_d, asI_int, asL_lst, asT_tup, onSeq_lst, onT_tup, evs_cons, evs_nil, evT_cons, evT_nil, if_true, Bool.false_eq_true, if_false, isTrueD_bl, Bool.not_true, Bool.not_false, and_self, List.set_cons_succ, List.set_cons_zero, thenO_nx, thenO_ret, finish_d, List.take_length, walked_tup, walked_lst, walked_eT, walked_eL, walked_zT, o1_lenT, o1_lenL, o1_tupleL, o1_int, o1_intb, o1_abs, o2_add, o2_sub, o2_lt, o2_le, o2_gt, eqD_int, neD_int, asDs_cons, asDs_nil, Option.map_some, bindT_tp, bindTs_cons, bindTs_nil, bindT_nm, isa, onBl_bl, e2]
  have hal : o1 .all (.lst (List.replicate (0 + [Kd.down, Kd.half, Kd.up].length) (D.bl true))) = some (.bl true) := o1_all [true, true, true]
  have hf3 : fits 3 = true := by decide
  have ek : [kD .down, kD .half, kD .up] = [D.str "down", .str "half", .str "up"] := rfl
  rw [List.map_cons, List.map_cons, List.map_cons, List.map_nil, ek] at e3
  have s3 : ex (callD tab (k + 6)) 20 (.ret (.o1 .all (.lc (.call 21 [.var 0, .var 1, .var 2, .var 4]) (.nm 4) .tup [.tup [.cst (.str "down"), .cst (.str "half"), .cst (.str "up")]] [] [4]))) (env5 p (some (.d (.tup (ws.map natD)))) (some (.d (.int (s : Int))))) (S.set p (some ys)) = some (.ret (.d (.bl true)), S.set p (some zs)) := by
    rw [List.replicate_zero] at e3
    simp only [ex_ret, ev_o1, ev_lc, evs_cons, evs_nil, ev_tup, ev_cst, bnd, asDs_cons, asDs_nil, Option.map_some, List.length_cons, List.length_nil, Nat.zero_add, Nat.reduceAdd, hf3, if_true, walked_tup, e3, deref_d]
    rw [show List.replicate (0 + [Kd.down, Kd.half, Kd.up].length) (D.bl true) = List.replicate (0 + [Kd.down, Kd.half, Kd.up].length) (D.bl true) from rfl] at hal
    simp only [List.length_cons, List.length_nil, Nat.zero_add, Nat.reduceAdd] at hal
    simp only [hal, bnd]
  unfold votesE at s1
  unfold f22
  show Option.bind (exs _ _ (env5 p none none) S) _ = _
  rw [exs_nx s1, exs_nx s2, exs_rt s3, bnd, thenO_ret, finish_d, take_set_len]
/-! ### many -/
def env6 (p : Nat) (a1 a2 a3 a4 : Option E) : DL.Env := [some (.r p), a1, a2, a3, a4, none]
def votes2 : Tm := .o1 .tupleL (.lc (.o1 .int (.o2 .add (.cst (.int 1)) (.call 13 [.var 0, .call 14 [.var 0, .lst [.cst (.int 20), .o2 .pow (.cst (.int 10)) (.cst (.int 9))]]]))) (.nm 5) .rng1 [.o2 .add (.cst (.int 5)) (.call 13 [.var 0, .cst (.int 16)])] [] [5])
theorem many_votes (k : Nat) {n : Int} {S : Store} {p : Nat} (h : Pot n S p) (hn : n < 500000) :
    ∃ (ws : List Nat) (xs : List D), ev (callD tab (k + 2)) 40 votes2 (env6 p none none none none) S = some (.d (.tup (ws.map natD)), S.set p (some xs)) ∧
      Votes ws ∧ Pot (n + 60) (S.set p (some xs)) p := by
  obtain ⟨r, xs, e, h1, h2, h3⟩ := takes (k + 1) 16 h (by omega) (by omega)
  obtain ⟨r, rfl⟩ : ∃ t : Nat, r = (t : Int) := ⟨r.toNat, by omega⟩
  have er : (5 : Int) + (r : Int) = ((5 + r : Nat) : Int) := by omega
  have hw : ∀ S : Store, walked S .rng1 [.d (.int ((5 + r : Nat) : Int))] = some ((List.range (5 + r)).map natD) := fun S => walk_N S (5 + r) (by omega)
  have hf2 : fits 2 = true := by decide
  obtain ⟨ws, ys, e1, g1, g2, g3⟩ := turns_draw (C := callD tab (k + 2)) (f := 38) (v := 5) (p := p) (elt := .o1 .int (.o2 .add (.cst (.int 1)) (.call 13 [.var 0, .call 14 [.var 0, .lst [.cst (.int 20), .o2 .pow (.cst (.int 10)) (.cst (.int 9))]]]))) (ρ := env6 p none none none none) (fun w => 1 ≤ w ∧ w ≤ 1000000000) 2 (by omega) (by simp [-Option.bind_some, env6])
    (fun x m S hp hm => by
      obtain ⟨u, xs, e, hu, h3⟩ := r_of k [.int 20, .int 1000000000] hp (by omega) (by simp [-Option.bind_some])
      obtain ⟨u, rfl, hu0, hu1⟩ : ∃ i : Int, u = .int i ∧ 0 < i ∧ i ≤ 1000000000 := by
        simp only [List.mem_cons, List.not_mem_nil, or_false] at hu
        rcases hu with h | h <;> exact ⟨_, h, by omega, by omega⟩
      obtain ⟨r, ys, e', h1', h2', h3'⟩ := takes (k + 1) u h3 (by omega) (by omega)
      obtain ⟨t, rfl⟩ : ∃ t : Nat, r = (t : Int) := ⟨r.toNat, by omega⟩
      rw [List.set_set] at e' h3'
      refine ⟨1 + t, ys, ?_, by omega, h3'.mono (by omega)⟩
      have et : (1 : Int) + (t : Int) = ((1 + t : Nat) : Int) := by omega
      simp only [List.map_cons, List.map_nil, List.length_cons, List.length_nil, Nat.reduceAdd, Nat.reduceSub, Nat.reduceLT, Nat.zero_add, List.replicate_succ, List.replicate_zero, List.cons_append, List.nil_append, exs_cons, exs_nil, ex_asgN, ex_asgT, ex_ret, ex_ife, ex_expr, ex_for, ex_par, ev_call, ev_callK, ev_o1, ev_o2, ev_var, ev_cst, ev_glob, ev_and, ev_or, ev_not, ev_isa, ev_lc, ev_tup, ev_idxT, ev_idxL, getV_zero, getV_succ, bnd, deref_d, asD_d, asI_int, asL_lst, asT_tup, onSeq_lst, onT_tup, evs_cons, evs_nil, evT_cons, evT_nil, if_true, Bool.false_eq_true, if_false, isTrueD_bl, Bool.not_true, Bool.not_false, and_self, List.set_cons_succ, List.set_cons_zero, thenO_nx, thenO_ret, finish_d, List.take_length, walked_tup, walked_lst, walked_eT, walked_eL, walked_zT, o1_lenT, o1_lenL, o1_tupleL, o1_int, o1_intb, o1_abs, o2_add, o2_sub, o2_lt, o2_le, o2_gt, eqD_int, neD_int, asDs_cons, asDs_nil, Option.map_some, bindT_tp, bindTs_cons, bindTs_nil, bindT_nm, isa, onBl_bl, env6, p9, ev_lst, hf2, e, e', et, natD])
    ((List.range (5 + r)).map natD) [] (n + 1) (S.set p (some xs)) h3 (by rw [List.length_map, List.length_range]; omega) (by rw [List.length_map, List.length_range, List.length_nil]; omega)
  rw [List.length_map, List.length_range] at g1 g3
  rw [List.set_set] at e1 g3
  refine ⟨ws, ys, ?_, ⟨by omega, by omega, fun w hw => (g2 w hw).1, fun w hw => (g2 w hw).2⟩, g3.mono (by omega)⟩
  rw [List.map_nil, List.nil_append] at e1
  unfold votes2
  unfold env6 at e1 ⊢
  simp only [List.map_cons, List.map_nil, List.length_cons, List.length_nil, Nat.reduceAdd, Nat.reduceSub, Nat.reduceLT, Nat.zero_add, List.replicate_succ, List.replicate_zero, List.cons_append, List.nil_append, exs_cons, exs_nil, ex_asgN, ex_asgT, ex_ret, ex_ife, ex_expr, ex_for, ex_par, ev_call, ev_callK, ev_o1, ev_o2, ev_var, ev_cst, ev_glob, ev_and, ev_or, ev_not, ev_isa, ev_lc, ev_tup, ev_idxT, ev_idxL, getV_zero, getV_succ, bnd, deref_d, asD_d, asI_int, asL_lst, asT_tup, onSeq_lst, onT_tup, evs_cons, evs_nil, evT_cons, evT_nil, if_true, Bool.false_eq_true, if_false, isTrueD_bl, Bool.not_true, Bool.not_false, and_self, List.set_cons_succ, List.set_cons_zero, thenO_nx, thenO_ret, finish_d, List.take_length, walked_tup, walked_lst, walked_eT, walked_eL, walked_zT, o1_lenT, o1_lenL, o1_tupleL, o1_int, o1_intb, o1_abs, o2_add, o2_sub, o2_lt, o2_le, o2_gt, eqD_int, neD_int, asDs_cons, asDs_nil, Option.map_some, bindT_tp, bindTs_cons, bindTs_nil, bindT_nm, isa, onBl_bl, e, er, hw, e1]
def manyBody : List Stm := [.asg (.nm 4) (.call 10 [.var 1, .var 2, .var 3]), .ife (.or (.not (.call 18 [.var 1, .var 2, .var 3, .var 4])) (.not (.call 20 [.var 1, .var 2, .var 3, .var 4]))) [.ret (.cst (.bl false))] [], .ife (.notB true (.call 11 [.var 1, .var 2, .var 3, .var 4])) [.ret (.cst (.bl false))] []]
theorem many_loop (k : Nat) {ws : List Nat} (v : Votes ws) (s : Nat) (hs : s ≤ 500) (p : Nat) (S : Store) : ∀ (l : List Kd) (a3 a4 : Option E),
    ∃ z z', forL (ex (callD tab (k + 5)) 19) (.nm 3) manyBody (l.map kD) (env6 p (some (.d (.tup (ws.map natD)))) (some (.d (.int (s : Int)))) a3 a4) S = some (.nx (env6 p (some (.d (.tup (ws.map natD)))) (some (.d (.int (s : Int)))) z z'), S)
  | [], a3, a4 => ⟨a3, a4, rfl⟩
  | κ :: l, a3, a4 => by
    have l0 := v.l0
    obtain ⟨z, z', ih⟩ := many_loop k v s hs p S l (some (.d (kD κ))) (some (.d (.tup ((seatsL ws κ s).map natD))))
    refine ⟨z, z', ?_⟩
    have tl := seatsL_len ws κ s
    have tsum := seats_sum l0 κ s
    have tright : rightB ws κ (seatsL ws κ s) = true := right_iff.mpr (seats_right l0 v.w0 κ s)
    have e1 := r_by_steps k v s hs κ S
    have e2 := r_law_right (k + 3) v.l1 (fun i => Nat.le_trans (v.each i) (by decide)) s (by omega) κ (rowT (seatsL ws κ s)) S
    have e4 := r_shows k v s hs κ (rowT (seatsL ws κ s)) S
    rw [← law_shows, law_row tl tsum, tright] at e4
    rw [law_row tl tsum, tright] at e2
    unfold rowT at e2 e4
    have e3 := r_bounded (k + 4) v s (by omega) κ (seatsL ws κ s) tl (fun i => by
      have := at0_le_sum (seatsL ws κ s) i
      omega) S
    rw [bound_ok l0 v.w0 tl tsum tright] at e3
    have st : exs (ex (callD tab (k + 5)) 19) manyBody (env6 p (some (.d (.tup (ws.map natD)))) (some (.d (.int (s : Int)))) (some (.d (kD κ))) a4) S = some (.nx (env6 p (some (.d (.tup (ws.map natD)))) (some (.d (.int (s : Int)))) (some (.d (kD κ))) (some (.d (.tup ((seatsL ws κ s).map natD))))), S) := by
      unfold manyBody env6
      simp only [List.map_cons, List.map_nil, List.length_cons, List.length_nil, Nat.reduceAdd, Nat.reduceSub, Nat.reduceLT, Nat.zero_add, List.replicate_succ, List.replicate_zero, List.cons_append, List.nil_append, exs_cons, exs_nil, ex_asgN, ex_asgT, ex_ret, ex_ife, ex_expr, ex_for, ex_par, ev_call, ev_callK, ev_o1, ev_o2, ev_var, ev_cst, ev_glob, ev_and, ev_or, ev_not, ev_isa, ev_lc, ev_tup, ev_idxT, ev_idxL, getV_zero, getV_succ, bnd, deref_d, asD_d, asI_int, asL_lst, asT_tup, onSeq_lst, onT_tup, evs_cons, evs_nil, evT_cons, evT_nil, if_true, Bool.false_eq_true, if_false, isTrueD_bl, Bool.not_true, Bool.not_false, and_self, List.set_cons_succ, List.set_cons_zero, thenO_nx, thenO_ret, finish_d, List.take_length, walked_tup, walked_lst, walked_eT, walked_eL, walked_zT, o1_lenT, o1_lenL, o1_tupleL, o1_int, o1_intb, o1_abs, o2_add, o2_sub, o2_lt, o2_le, o2_gt, eqD_int, neD_int, asDs_cons, asDs_nil, Option.map_some, bindT_tp, bindTs_cons, bindTs_nil, bindT_nm, isa, onBl_bl, e1, e2, e3, e4, ev_notB, decide_true]
    rw [List.map_cons, forL_cons, bindT_nm, if_pos (by simp [-Option.bind_some, env6]), bnd]
    rw [show (env6 p (some (.d (.tup (ws.map natD)))) (some (.d (.int (s : Int)))) a3 a4).set 3 (some (.d (kD κ))) = env6 p (some (.d (.tup (ws.map natD)))) (some (.d (.int (s : Int)))) (some (.d (kD κ))) a4 from rfl, st, bnd, thenO_nx]
    exact ih
theorem r_many (k : Nat) {n : Int} {S : Store} {p : Nat} (h : Pot n S p) (hn : n < 400000) :
    ∃ xs, callD tab (k + 6) 23 [.r p] S = some (.d (.bl true), S.set p (some xs)) ∧ Pot (n + 100) (S.set p (some xs)) p := by
  obtain ⟨ws, xs, e1, v, p1⟩ := many_votes (k + 3) h (by omega)
  obtain ⟨r, ys, e2, r0, r1, p2⟩ := takes (k + 4) 501 p1 (by omega) (by omega)
  obtain ⟨s, rfl⟩ : ∃ t : Nat, r = (t : Int) := ⟨r.toNat, by omega⟩
  simp only [List.set_set] at e2 p2
  obtain ⟨z, z', e3⟩ := many_loop k v s (by omega) p (S.set p (some ys)) [.down, .half, .up] none none
  refine ⟨ys, ?_, p2.mono (by omega)⟩
  rw [callD_run (fn := f23) rfl rfl]
  have s1 : ex (callD tab (k + 5)) 20 (.asg (.nm 1) votes2) (env6 p none none none none) S = some (.nx (env6 p (some (.d (.tup (ws.map natD)))) none none none), S.set p (some xs)) := by
    rw [ex_asgN, e1, bnd]
    rfl
  have s2 : ex (callD tab (k + 5)) 20 (.asg (.nm 2) (.o1 .int (.call 13 [.var 0, .cst (.int 501)]))) (env6 p (some (.d (.tup (ws.map natD)))) none none none) (S.set p (some xs)) = some (.nx (env6 p (some (.d (.tup (ws.map natD)))) (some (.d (.int (s : Int)))) none none), S.set p (some ys)) := by
    unfold env6
    simp only [List.map_cons, List.map_nil, List.length_cons, List.length_nil, Nat.reduceAdd, Nat.reduceSub, Nat.reduceLT, Nat.zero_add, List.replicate_succ, List.replicate_zero, List.cons_append, List.nil_append, exs_cons, exs_nil, ex_asgN, ex_asgT, ex_ret, ex_ife, ex_expr, ex_for, ex_par, ev_call, ev_callK, ev_o1, ev_o2, ev_var, ev_cst, ev_glob, ev_and, ev_or, ev_not, ev_isa, ev_lc, ev_tup, ev_idxT, ev_idxL, getV_zero, getV_succ, bnd, deref_d, asD_d, asI_int, asL_lst, asT_tup, onSeq_lst, onT_tup, evs_cons, evs_nil, evT_cons, evT_nil, if_true, Bool.false_eq_true, if_false, isTrueD_bl, Bool.not_true, Bool.not_false, and_self, List.set_cons_succ, List.set_cons_zero, thenO_nx, thenO_ret, finish_d, List.take_length, walked_tup, walked_lst, walked_eT, walked_eL, walked_zT, o1_lenT, o1_lenL, o1_tupleL, o1_int, o1_intb, o1_abs, o2_add, o2_sub, o2_lt, o2_le, o2_gt, eqD_int, neD_int, asDs_cons, asDs_nil, Option.map_some, bindT_tp, bindTs_cons, bindTs_nil, bindT_nm, isa, onBl_bl, e2]
  have hf3 : fits 3 = true := by decide
  have ek : [kD .down, kD .half, kD .up] = [D.str "down", .str "half", .str "up"] := rfl
  rw [List.map_cons, List.map_cons, List.map_cons, List.map_nil, ek] at e3
  have s3 : ex (callD tab (k + 5)) 20 (.for_ (.nm 3) .tup [.tup [.cst (.str "down"), .cst (.str "half"), .cst (.str "up")]] manyBody) (env6 p (some (.d (.tup (ws.map natD)))) (some (.d (.int (s : Int)))) none none) (S.set p (some ys)) = some (.nx (env6 p (some (.d (.tup (ws.map natD)))) (some (.d (.int (s : Int)))) z z'), S.set p (some ys)) := by
    rw [ex_for]
    simp only [evs_cons, evs_nil, ev_tup, ev_cst, bnd, asDs_cons, asDs_nil, Option.map_some, List.length_cons, List.length_nil, Nat.zero_add, Nat.reduceAdd, hf3, if_true, walked_tup]
    exact e3
  have s4 : ex (callD tab (k + 5)) 20 (.ret (.cst (.bl true))) (env6 p (some (.d (.tup (ws.map natD)))) (some (.d (.int (s : Int)))) z z') (S.set p (some ys)) = some (.ret (.d (.bl true)), S.set p (some ys)) := by
    simp only [List.map_cons, List.map_nil, List.length_cons, List.length_nil, Nat.reduceAdd, Nat.reduceSub, Nat.reduceLT, Nat.zero_add, List.replicate_succ, List.replicate_zero, List.cons_append, List.nil_append, exs_cons, exs_nil, ex_asgN, ex_asgT, ex_ret, ex_ife, ex_expr, ex_for, ex_par, ev_call, ev_callK, ev_o1, ev_o2, ev_var, ev_cst, ev_glob, ev_and, ev_or, ev_not, ev_isa, ev_lc, ev_tup, ev_idxT, ev_idxL, getV_zero, getV_succ, bnd, deref_d, asD_d, asI_int, asL_lst, asT_tup, onSeq_lst, onT_tup, evs_cons, evs_nil, evT_cons, evT_nil, if_true, Bool.false_eq_true, if_false, isTrueD_bl, Bool.not_true, Bool.not_false, and_self, List.set_cons_succ, List.set_cons_zero, thenO_nx, thenO_ret, finish_d, List.take_length, walked_tup, walked_lst, walked_eT, walked_eL, walked_zT, o1_lenT, o1_lenL, o1_tupleL, o1_int, o1_intb, o1_abs, o2_add, o2_sub, o2_lt, o2_le, o2_gt, eqD_int, neD_int, asDs_cons, asDs_nil, Option.map_some, bindT_tp, bindTs_cons, bindTs_nil, bindT_nm, isa, onBl_bl]
  unfold votes2 at s1
  unfold manyBody at s3
  unfold f23
  show Option.bind (exs _ _ (env6 p none none none none) S) _ = _
  rw [exs_nx s1, exs_nx s2, exs_nx s3, exs_rt s4, bnd, thenO_ret, finish_d, take_set_len]
/-! ### what is known -/
theorem vA : Votes [90, 8, 2] := ⟨by decide, by decide, by decide, by decide⟩
theorem vB : Votes [90, 2, 2, 2, 2, 2] := ⟨by decide, by decide, by decide, by decide⟩
theorem vC : Votes [5, 3] := ⟨by decide, by decide, by decide, by decide⟩
theorem vD : Votes [1, 1, 1] := ⟨by decide, by decide, by decide, by decide⟩
theorem r_known (k : Nat) (S : Store) : callD tab (k + 6) 24 [] S = some (.d (.bl true), S) := by
  rw [callD_run (fn := f24) rfl rfl]
  have a1 : callD tab (k + 5) 10 [.d (.tup [.int 90, .int 8, .int 2]), .d (.int 10), .d (.str "down")] S = some (.d (.tup [.int 10, .int 0, .int 0]), S) := by
    have h := r_by_steps k vA 10 (by decide) .down S
    rw [show seatsL [90, 8, 2] .down 10 = [10, 0, 0] from by decide +kernel] at h
    exact h
  have a2 : callD tab (k + 5) 10 [.d (.tup [.int 90, .int 2, .int 2, .int 2, .int 2, .int 2]), .d (.int 10), .d (.str "up")] S = some (.d (.tup [.int 5, .int 1, .int 1, .int 1, .int 1, .int 1]), S) := by
    have h := r_by_steps k vB 10 (by decide) .up S
    rw [show seatsL [90, 2, 2, 2, 2, 2] .up 10 = [5, 1, 1, 1, 1, 1] from by decide +kernel] at h
    exact h
  have a3 : callD tab (k + 5) 7 [.d (.tup [.int 90, .int 2, .int 2, .int 2, .int 2, .int 2]), .d (.int 10), .d (.tup [.int 5, .int 1, .int 1, .int 1, .int 1, .int 1])] S = some (.d (.bl false), S) := by
    have h := r_is_within (k + 1) vB 10 (by decide) (.tup [.int 5, .int 1, .int 1, .int 1, .int 1, .int 1]) S
    rw [show withinB [90, 2, 2, 2, 2, 2] 10 (.tup [.int 5, .int 1, .int 1, .int 1, .int 1, .int 1]) = false from by decide +kernel] at h
    exact h
  have a4 : callD tab (k + 5) 10 [.d (.tup [.int 5, .int 3]), .d (.int 0), .d (.str "half")] S = some (.d (.tup [.int 0, .int 0]), S) := by
    have h := r_by_steps k vC 0 (by decide) .half S
    rw [show seatsL [5, 3] .half 0 = [0, 0] from by decide +kernel] at h
    exact h
  have a5 : callD tab (k + 5) 10 [.d (.tup [.int 1, .int 1, .int 1]), .d (.int 3), .d (.str "up")] S = some (.d (.tup [.int 1, .int 1, .int 1]), S) := by
    have h := r_by_steps k vD 3 (by decide) .up S
    rw [show seatsL [1, 1, 1] .up 3 = [1, 1, 1] from by decide +kernel] at h
    exact h
  have q1 : o2 .ne (.tup [.int 10, .int 0, .int 0]) (.tup [.int 10, .int 0, .int 0]) = some (.bl false) := o2_ne_refl (by decide +kernel)
  have q2 : o2 .ne (.tup [.int 5, .int 1, .int 1, .int 1, .int 1, .int 1]) (.tup [.int 5, .int 1, .int 1, .int 1, .int 1, .int 1]) = some (.bl false) := o2_ne_refl (by decide +kernel)
  have q3 : o2 .eq (.tup [.int 0, .int 0]) (.tup [.int 0, .int 0]) = some (.bl true) := o2_eq_refl (by decide +kernel)
  have q4 : o2 .eq (.tup [.int 1, .int 1, .int 1]) (.tup [.int 1, .int 1, .int 1]) = some (.bl true) := o2_eq_refl (by decide +kernel)
  have h2 : fits 2 = true := by decide
  have h3 : fits 3 = true := by decide
  have h6 : fits 6 = true := by decide
  simp only [List.map_cons, List.map_nil, List.length_cons, List.length_nil, Nat.reduceAdd, Nat.reduceSub, Nat.reduceLT, Nat.zero_add, List.replicate_succ, List.replicate_zero, List.cons_append, List.nil_append, exs_cons, exs_nil, ex_asgN, ex_asgT, ex_ret, ex_ife, ex_expr, ex_for, ex_par, ev_call, ev_callK, ev_o1, ev_o2, ev_var, ev_cst, ev_glob, ev_and, ev_or, ev_not, ev_isa, ev_lc, ev_tup, ev_idxT, ev_idxL, getV_zero, getV_succ, bnd, deref_d, asD_d, asI_int, asL_lst, asT_tup, onSeq_lst, onT_tup, evs_cons, evs_nil, evT_cons, evT_nil, if_true, Bool.false_eq_true, if_false, isTrueD_bl, Bool.not_true, Bool.not_false, and_self, List.set_cons_succ, List.set_cons_zero, thenO_nx, thenO_ret, finish_d, List.take_length, walked_tup, walked_lst, walked_eT, walked_eL, walked_zT, o1_lenT, o1_lenL, o1_tupleL, o1_int, o1_intb, o1_abs, o2_add, o2_sub, o2_lt, o2_le, o2_gt, eqD_int, neD_int, asDs_cons, asDs_nil, Option.map_some, bindT_tp, bindTs_cons, bindTs_nil, bindT_nm, isa, onBl_bl, f24, h2, h3, h6, a1, a2, a3, a4, a5, q1, q2, q3, q4, ev_notB, decide_true]
/-! ### the law -/
theorem turns_few (k p : Nat) (z0 z1 z3 : Option E) : ∀ (l : List D) (c : Nat) (n : Int) (S : Store), Pot n S p → n + 700 * (l.length : Int) < 300000 → c + l.length < 1000 →
    ∃ xs, turns (ev (callD tab (k + 7)) 36) (.call 22 [.var 2]) (.nm 3) [] [3] [z0, z1, some (.r p), z3] l (List.replicate c (.bl true)) S = some (List.replicate (c + l.length) (.bl true), S.set p (some xs)) ∧ Pot (n + 700 * (l.length : Int)) (S.set p (some xs)) p
  | [], c, n, S, h, _, _ => by
    obtain ⟨xs, hx⟩ := h.self
    refine ⟨xs, ?_, ?_⟩
    · rw [turns_nil, ← hx]
      rfl
    · rw [← hx]
      have e : n + 700 * (([] : List D).length : Int) = n := by simp [-Option.bind_some]
      rw [e]
      exact h
  | x :: l, c, n, S, h, hn, hc => by
    rw [List.length_cons] at hn hc
    obtain ⟨xs, e1, h1⟩ := r_few k h (by omega)
    obtain ⟨ys, e2, h2⟩ := turns_few k p z0 z1 z3 l (c + 1) (n + 700) (S.set p (some xs)) h1 (by omega) (by omega)
    refine ⟨ys, ?_, ?_⟩
    · have hb : bindT (.nm 3) x (wipe [z0, z1, some (.r p), z3] [3]) = some [z0, z1, some (.r p), some (.d x)] := by simp [-Option.bind_some]
      have he : ev (callD tab (k + 7)) 36 (.call 22 [.var 2]) [z0, z1, some (.r p), some (.d x)] S = some (.d (.bl true), S.set p (some xs)) := by
        simp only [ev_call, evs_cons, evs_nil, ev_var, getV_zero, getV_succ, bnd, e1]
      have hr : List.replicate c (D.bl true) ++ [D.bl true] = List.replicate (c + 1) (D.bl true) := by rw [List.replicate_succ']
      rw [turns_cons, hb, bnd, evT_nil, bnd, if_pos rfl, he, bnd, asD_d, bnd, if_pos (by rw [List.length_replicate]; omega), hr, e2, List.set_set, List.length_cons]
      congr 3
      omega
    · rw [List.set_set] at h2
      rw [List.length_cons]
      exact h2.mono (by omega)
def lawBody : List Stm := [.asg (.nm 2) (.call 12 [.var 0, .var 1]), .ife (.or (.not (.o1 .all (.lc (.call 22 [.var 2]) (.nm 3) .rng1 [.cst (.int 2)] [] [3]))) (.not (.call 23 [.var 2]))) [.ret (.cst (.bl false))] [], .ife (.not (.call 24 [])) [.ret (.cst (.bl false))] []]
theorem law_step (k : Nat) (ns : List Int) (pl : Nat) (hp : pl ≤ 1) (z2 : Option E) (S : Store) : ∃ z2' S', exs (ex (callD tab (k + 7)) 19) lawBody [some (.d (.scr (ns.map D.int))), some (.d (.int (pl : Int))), z2, none] S = some (.nx [some (.d (.scr (ns.map D.int))), some (.d (.int (pl : Int))), z2', none], S') := by
  obtain ⟨xs, e1, h1⟩ := g_pot (T := tab) (j := 12) (c1 := 9673) (c2 := 7137) (c3 := 76743) (c4 := 7125) (c5 := 2565) rfl ⟨by decide, by decide, by decide, by decide, by decide⟩ (k + 6) ns pl (by omega) S
  obtain ⟨ys, e2, h2⟩ := turns_few k S.length (some (.d (.scr (ns.map D.int)))) (some (.d (.int (pl : Int)))) none [natD 0, natD 1] 0 0 (S ++ [some xs]) h1 (by simp [-Option.bind_some]) (by simp [-Option.bind_some])
  obtain ⟨zs, e3, h3⟩ := r_many (k + 1) h2 (by simp [-Option.bind_some])
  have e4 := fun S => r_known (k + 1) S
  have hw : ∀ S : Store, walked S .rng1 [.d (.int 2)] = some [natD 0, natD 1] := fun S => walk_N S 2 (by omega)
  have e2' : turns (ev (callD tab (k + 7)) 36) (.call 22 [.var 2]) (.nm 3) [] [3] [some (.d (.scr (ns.map D.int))), some (.d (.int (pl : Int))), some (.r S.length), none] [natD 0, natD 1] [] (S ++ [some xs]) = some (List.replicate 2 (.bl true), (S ++ [some xs]).set S.length (some ys)) := e2
  have hal : o1 .all (.lst (List.replicate 2 (D.bl true))) = some (.bl true) := o1_all [true, true]
  refine ⟨some (.r S.length), ((S ++ [some xs]).set S.length (some ys)).set S.length (some zs), ?_⟩
  have s1 : ex (callD tab (k + 7)) 19 (.asg (.nm 2) (.call 12 [.var 0, .var 1])) [some (.d (.scr (ns.map D.int))), some (.d (.int (pl : Int))), z2, none] S = some (.nx [some (.d (.scr (ns.map D.int))), some (.d (.int (pl : Int))), some (.r S.length), none], S ++ [some xs]) := by
    simp only [List.map_cons, List.map_nil, List.length_cons, List.length_nil, Nat.reduceAdd, Nat.reduceSub, Nat.reduceLT, Nat.zero_add, List.replicate_succ, List.replicate_zero, List.cons_append, List.nil_append, exs_cons, exs_nil, ex_asgN, ex_asgT, ex_ret, ex_ife, ex_expr, ex_for, ex_par, ev_call, ev_callK, ev_o1, ev_o2, ev_var, ev_cst, ev_glob, ev_and, ev_or, ev_not, ev_isa, ev_lc, ev_tup, ev_idxT, ev_idxL, getV_zero, getV_succ, bnd, deref_d, asD_d, asI_int, asL_lst, asT_tup, onSeq_lst, onT_tup, evs_cons, evs_nil, evT_cons, evT_nil, if_true, Bool.false_eq_true, if_false, isTrueD_bl, Bool.not_true, Bool.not_false, and_self, List.set_cons_succ, List.set_cons_zero, thenO_nx, thenO_ret, finish_d, List.take_length, walked_tup, walked_lst, walked_eT, walked_eL, walked_zT, o1_lenT, o1_lenL, o1_tupleL, o1_int, o1_intb, o1_abs, o2_add, o2_sub, o2_lt, o2_le, o2_gt, eqD_int, neD_int, asDs_cons, asDs_nil, Option.map_some, bindT_tp, bindTs_cons, bindTs_nil, bindT_nm, isa, onBl_bl, e1]
  have s2 : ex (callD tab (k + 7)) 19 (.ife (.or (.not (.o1 .all (.lc (.call 22 [.var 2]) (.nm 3) .rng1 [.cst (.int 2)] [] [3]))) (.not (.call 23 [.var 2]))) [.ret (.cst (.bl false))] []) [some (.d (.scr (ns.map D.int))), some (.d (.int (pl : Int))), some (.r S.length), none] (S ++ [some xs]) = some (.nx [some (.d (.scr (ns.map D.int))), some (.d (.int (pl : Int))), some (.r S.length), none], ((S ++ [some xs]).set S.length (some ys)).set S.length (some zs)) := by
    simp only [ex_ife, ev_or, ev_not, ev_o1, ev_lc, ev_call, evs_cons, evs_nil, ev_var, ev_cst, getV_zero, getV_succ, bnd, hw, e2', deref_d, hal, isTrueD_bl, Bool.not_true, Bool.false_eq_true, if_false, e3, exs_nil]
  have s3 : ex (callD tab (k + 7)) 19 (.ife (.not (.call 24 [])) [.ret (.cst (.bl false))] []) [some (.d (.scr (ns.map D.int))), some (.d (.int (pl : Int))), some (.r S.length), none] (((S ++ [some xs]).set S.length (some ys)).set S.length (some zs)) = some (.nx [some (.d (.scr (ns.map D.int))), some (.d (.int (pl : Int))), some (.r S.length), none], ((S ++ [some xs]).set S.length (some ys)).set S.length (some zs)) := by
    simp only [ex_ife, ev_not, ev_call, evs_nil, bnd, e4, isTrueD_bl, Bool.not_true, Bool.false_eq_true, if_false, exs_nil]
  unfold lawBody
  rw [exs_nx s1, exs_nx s2, exs_nx s3, exs_nil]
theorem law_loop (k : Nat) (ns : List Int) : ∀ (l : List Nat) (z1 z2 : Option E) (S : Store), (∀ x ∈ l, x ≤ 1) →
    ∃ z1' z2' S', forL (ex (callD tab (k + 7)) 19) (.nm 1) lawBody (l.map natD) [some (.d (.scr (ns.map D.int))), z1, z2, none] S = some (.nx [some (.d (.scr (ns.map D.int))), z1', z2', none], S')
  | [], z1, z2, S, _ => ⟨z1, z2, S, by rw [List.map_nil, forL_nil]⟩
  | x :: l, z1, z2, S, h => by
    obtain ⟨z, S1, st⟩ := law_step k ns x (h x List.mem_cons_self) z2 S
    obtain ⟨z1', z2', S', ih⟩ := law_loop k ns l (some (.d (.int (x : Int)))) z S1 fun y hy => h y (List.mem_cons_of_mem _ hy)
    refine ⟨z1', z2', S', ?_⟩
    rw [List.map_cons, forL_cons, bindT_nm, if_pos (by simp [-Option.bind_some]), bnd]
    rw [show ([some (.d (.scr (ns.map D.int))), z1, z2, none] : DL.Env).set 1 (some (.d (natD x))) = [some (.d (.scr (ns.map D.int))), some (.d (.int (x : Int))), z2, none] from rfl, st, bnd, thenO_nx]
    exact ih
theorem r_law (k : Nat) (ns : List Int) : callD tab (k + 8) 25 [.d (.scr (ns.map D.int))] [] = some (.d (.bl true), []) := by
  rw [callD_run (fn := f25) rfl rfl]
  obtain ⟨j, j1, j2, e1⟩ := g_cells (T := tab) (j := 15) rfl (k + 6) (ns.map D.int) 2 (by omega) []
  obtain ⟨z1, z2, S', e2⟩ := law_loop k ns (List.range j.toNat) none none [] fun x hx => by
    rw [List.mem_range] at hx
    omega
  have hr : rangeD 0 j = (List.range j.toNat).map natD := by
    unfold rangeD
    rw [Int.sub_zero]
    refine List.map_congr_left fun i _ => ?_
    rw [Int.zero_add]
    rfl
  rw [hr] at e1
  have s1 : ex (callD tab (k + 7)) 20 (.for_ (.nm 1) .lst [.call 15 [.var 0, .cst (.int 2)]] lawBody) [some (.d (.scr (ns.map D.int))), none, none, none] [] = some (.nx [some (.d (.scr (ns.map D.int))), z1, z2, none], S') := by
    rw [ex_for]
    simp only [ev_call, evs_cons, evs_nil, ev_var, ev_cst, getV_zero, bnd, e1, walked_lst]
    exact e2
  have s2 : ex (callD tab (k + 7)) 20 (.ret (.cst (.bl true))) [some (.d (.scr (ns.map D.int))), z1, z2, none] S' = some (.ret (.d (.bl true)), S') := by
    simp only [ex_ret, ev_cst, bnd]
  show Option.bind (exs _ [.for_ (.nm 1) .lst [.call 15 [.var 0, .cst (.int 2)]] lawBody, .ret (.cst (.bl true))] [some (.d (.scr (ns.map D.int))), none, none, none] []) _ = _
  rw [exs_nx s1, exs_rt s2, bnd, thenO_ret, finish_d]
  rfl
theorem main (ns : List Int) (_ : ns.length ≤ 63) (_ : ∀ z ∈ ns, Builtin.Int.intBits z ≤ 1048576) : callD prm.T 40 25 [.d (.scr (ns.map D.int))] [] = some (.d (.bl true), []) := r_law 32 ns
end K56
end

namespace K56
open PySem L2 DL
theorem b0 (kV doc pm : Value) (an : Option Addr) (cdv ct : Value) : ∀ us : List Value, us.length = f0.ps.length → bindArgs (PySem.W.fnOf f0.name f0.name (defArgs (top 6)) (defBody (top 6)) (defScope (top 6)) .none kV doc pm an cdv ct) ⟨us, []⟩ = pure (f0.ps.zip us)
  | [_], _ => rfl
theorem k0 (kV doc pm : Value) (an : Option Addr) (cdv ct : Value) : ∀ us : List Value, us.length = f0.ps.length → bindArgs (PySem.W.fnOf f0.name f0.name (defArgs (top 6)) (defBody (top 6)) (defScope (top 6)) .none kV doc pm an cdv ct) ⟨[], f0.ps.zip us⟩ = pure (f0.ps.zip us)
  | [_], _ => rfl
theorem b1 (kV doc pm : Value) (an : Option Addr) (cdv ct : Value) : ∀ us : List Value, us.length = f1.ps.length → bindArgs (PySem.W.fnOf f1.name f1.name (defArgs (top 7)) (defBody (top 7)) (defScope (top 7)) .none kV doc pm an cdv ct) ⟨us, []⟩ = pure (f1.ps.zip us)
  | [_, _, _], _ => rfl
theorem k1 (kV doc pm : Value) (an : Option Addr) (cdv ct : Value) : ∀ us : List Value, us.length = f1.ps.length → bindArgs (PySem.W.fnOf f1.name f1.name (defArgs (top 7)) (defBody (top 7)) (defScope (top 7)) .none kV doc pm an cdv ct) ⟨[], f1.ps.zip us⟩ = pure (f1.ps.zip us)
  | [_, _, _], _ => rfl
theorem b2 (kV doc pm : Value) (an : Option Addr) (cdv ct : Value) : ∀ us : List Value, us.length = f2.ps.length → bindArgs (PySem.W.fnOf f2.name f2.name (defArgs (top 15)) (defBody (top 15)) (defScope (top 15)) .none kV doc pm an cdv ct) ⟨us, []⟩ = pure (f2.ps.zip us)
  | [_, _], _ => rfl
theorem k2 (kV doc pm : Value) (an : Option Addr) (cdv ct : Value) : ∀ us : List Value, us.length = f2.ps.length → bindArgs (PySem.W.fnOf f2.name f2.name (defArgs (top 15)) (defBody (top 15)) (defScope (top 15)) .none kV doc pm an cdv ct) ⟨[], f2.ps.zip us⟩ = pure (f2.ps.zip us)
  | [_, _], _ => rfl
theorem b3 (kV doc pm : Value) (an : Option Addr) (cdv ct : Value) : ∀ us : List Value, us.length = f3.ps.length → bindArgs (PySem.W.fnOf f3.name f3.name (defArgs (top 16)) (defBody (top 16)) (defScope (top 16)) .none kV doc pm an cdv ct) ⟨us, []⟩ = pure (f3.ps.zip us)
  | [_, _], _ => rfl
theorem k3 (kV doc pm : Value) (an : Option Addr) (cdv ct : Value) : ∀ us : List Value, us.length = f3.ps.length → bindArgs (PySem.W.fnOf f3.name f3.name (defArgs (top 16)) (defBody (top 16)) (defScope (top 16)) .none kV doc pm an cdv ct) ⟨[], f3.ps.zip us⟩ = pure (f3.ps.zip us)
  | [_, _], _ => rfl
theorem b4 (kV doc pm : Value) (an : Option Addr) (cdv ct : Value) : ∀ us : List Value, us.length = f4.ps.length → bindArgs (PySem.W.fnOf f4.name f4.name (defArgs (top 17)) (defBody (top 17)) (defScope (top 17)) .none kV doc pm an cdv ct) ⟨us, []⟩ = pure (f4.ps.zip us)
  | [_, _], _ => rfl
theorem k4 (kV doc pm : Value) (an : Option Addr) (cdv ct : Value) : ∀ us : List Value, us.length = f4.ps.length → bindArgs (PySem.W.fnOf f4.name f4.name (defArgs (top 17)) (defBody (top 17)) (defScope (top 17)) .none kV doc pm an cdv ct) ⟨[], f4.ps.zip us⟩ = pure (f4.ps.zip us)
  | [_, _], _ => rfl
theorem b5 (kV doc pm : Value) (an : Option Addr) (cdv ct : Value) : ∀ us : List Value, us.length = f5.ps.length → bindArgs (PySem.W.fnOf f5.name f5.name (defArgs (top 18)) (defBody (top 18)) (defScope (top 18)) .none kV doc pm an cdv ct) ⟨us, []⟩ = pure (f5.ps.zip us)
  | [_, _], _ => rfl
theorem k5 (kV doc pm : Value) (an : Option Addr) (cdv ct : Value) : ∀ us : List Value, us.length = f5.ps.length → bindArgs (PySem.W.fnOf f5.name f5.name (defArgs (top 18)) (defBody (top 18)) (defScope (top 18)) .none kV doc pm an cdv ct) ⟨[], f5.ps.zip us⟩ = pure (f5.ps.zip us)
  | [_, _], _ => rfl
theorem b6 (kV doc pm : Value) (an : Option Addr) (cdv ct : Value) : ∀ us : List Value, us.length = f6.ps.length → bindArgs (PySem.W.fnOf f6.name f6.name (defArgs (top 19)) (defBody (top 19)) (defScope (top 19)) .none kV doc pm an cdv ct) ⟨us, []⟩ = pure (f6.ps.zip us)
  | [_, _, _], _ => rfl
theorem k6 (kV doc pm : Value) (an : Option Addr) (cdv ct : Value) : ∀ us : List Value, us.length = f6.ps.length → bindArgs (PySem.W.fnOf f6.name f6.name (defArgs (top 19)) (defBody (top 19)) (defScope (top 19)) .none kV doc pm an cdv ct) ⟨[], f6.ps.zip us⟩ = pure (f6.ps.zip us)
  | [_, _, _], _ => rfl
theorem b7 (kV doc pm : Value) (an : Option Addr) (cdv ct : Value) : ∀ us : List Value, us.length = f7.ps.length → bindArgs (PySem.W.fnOf f7.name f7.name (defArgs (top 20)) (defBody (top 20)) (defScope (top 20)) .none kV doc pm an cdv ct) ⟨us, []⟩ = pure (f7.ps.zip us)
  | [_, _, _], _ => rfl
theorem k7 (kV doc pm : Value) (an : Option Addr) (cdv ct : Value) : ∀ us : List Value, us.length = f7.ps.length → bindArgs (PySem.W.fnOf f7.name f7.name (defArgs (top 20)) (defBody (top 20)) (defScope (top 20)) .none kV doc pm an cdv ct) ⟨[], f7.ps.zip us⟩ = pure (f7.ps.zip us)
  | [_, _, _], _ => rfl
theorem b8 (kV doc pm : Value) (an : Option Addr) (cdv ct : Value) : ∀ us : List Value, us.length = f8.ps.length → bindArgs (PySem.W.fnOf f8.name f8.name (defArgs (top 21)) (defBody (top 21)) (defScope (top 21)) .none kV doc pm an cdv ct) ⟨us, []⟩ = pure (f8.ps.zip us)
  | [_, _, _], _ => rfl
theorem k8 (kV doc pm : Value) (an : Option Addr) (cdv ct : Value) : ∀ us : List Value, us.length = f8.ps.length → bindArgs (PySem.W.fnOf f8.name f8.name (defArgs (top 21)) (defBody (top 21)) (defScope (top 21)) .none kV doc pm an cdv ct) ⟨[], f8.ps.zip us⟩ = pure (f8.ps.zip us)
  | [_, _, _], _ => rfl
theorem b9 (kV doc pm : Value) (an : Option Addr) (cdv ct : Value) : ∀ us : List Value, us.length = f9.ps.length → bindArgs (PySem.W.fnOf f9.name f9.name (defArgs (top 22)) (defBody (top 22)) (defScope (top 22)) .none kV doc pm an cdv ct) ⟨us, []⟩ = pure (f9.ps.zip us)
  | [_, _], _ => rfl
theorem k9 (kV doc pm : Value) (an : Option Addr) (cdv ct : Value) : ∀ us : List Value, us.length = f9.ps.length → bindArgs (PySem.W.fnOf f9.name f9.name (defArgs (top 22)) (defBody (top 22)) (defScope (top 22)) .none kV doc pm an cdv ct) ⟨[], f9.ps.zip us⟩ = pure (f9.ps.zip us)
  | [_, _], _ => rfl
theorem b10 (kV doc pm : Value) (an : Option Addr) (cdv ct : Value) : ∀ us : List Value, us.length = f10.ps.length → bindArgs (PySem.W.fnOf f10.name f10.name (defArgs (top 23)) (defBody (top 23)) (defScope (top 23)) .none kV doc pm an cdv ct) ⟨us, []⟩ = pure (f10.ps.zip us)
  | [_, _, _], _ => rfl
theorem k10 (kV doc pm : Value) (an : Option Addr) (cdv ct : Value) : ∀ us : List Value, us.length = f10.ps.length → bindArgs (PySem.W.fnOf f10.name f10.name (defArgs (top 23)) (defBody (top 23)) (defScope (top 23)) .none kV doc pm an cdv ct) ⟨[], f10.ps.zip us⟩ = pure (f10.ps.zip us)
  | [_, _, _], _ => rfl
theorem b11 (kV doc pm : Value) (an : Option Addr) (cdv ct : Value) : ∀ us : List Value, us.length = f11.ps.length → bindArgs (PySem.W.fnOf f11.name f11.name (defArgs (top 24)) (defBody (top 24)) (defScope (top 24)) .none kV doc pm an cdv ct) ⟨us, []⟩ = pure (f11.ps.zip us)
  | [_, _, _, _], _ => rfl
theorem k11 (kV doc pm : Value) (an : Option Addr) (cdv ct : Value) : ∀ us : List Value, us.length = f11.ps.length → bindArgs (PySem.W.fnOf f11.name f11.name (defArgs (top 24)) (defBody (top 24)) (defScope (top 24)) .none kV doc pm an cdv ct) ⟨[], f11.ps.zip us⟩ = pure (f11.ps.zip us)
  | [_, _, _, _], _ => rfl
theorem b12 (kV doc pm : Value) (an : Option Addr) (cdv ct : Value) : ∀ us : List Value, us.length = f12.ps.length → bindArgs (PySem.W.fnOf f12.name f12.name (defArgs (top 26)) (defBody (top 26)) (defScope (top 26)) .none kV doc pm an cdv ct) ⟨us, []⟩ = pure (f12.ps.zip us)
  | [_, _], _ => rfl
theorem k12 (kV doc pm : Value) (an : Option Addr) (cdv ct : Value) : ∀ us : List Value, us.length = f12.ps.length → bindArgs (PySem.W.fnOf f12.name f12.name (defArgs (top 26)) (defBody (top 26)) (defScope (top 26)) .none kV doc pm an cdv ct) ⟨[], f12.ps.zip us⟩ = pure (f12.ps.zip us)
  | [_, _], _ => rfl
theorem b13 (kV doc pm : Value) (an : Option Addr) (cdv ct : Value) : ∀ us : List Value, us.length = f13.ps.length → bindArgs (PySem.W.fnOf f13.name f13.name (defArgs (top 27)) (defBody (top 27)) (defScope (top 27)) .none kV doc pm an cdv ct) ⟨us, []⟩ = pure (f13.ps.zip us)
  | [_, _], _ => rfl
theorem k13 (kV doc pm : Value) (an : Option Addr) (cdv ct : Value) : ∀ us : List Value, us.length = f13.ps.length → bindArgs (PySem.W.fnOf f13.name f13.name (defArgs (top 27)) (defBody (top 27)) (defScope (top 27)) .none kV doc pm an cdv ct) ⟨[], f13.ps.zip us⟩ = pure (f13.ps.zip us)
  | [_, _], _ => rfl
theorem b14 (kV doc pm : Value) (an : Option Addr) (cdv ct : Value) : ∀ us : List Value, us.length = f14.ps.length → bindArgs (PySem.W.fnOf f14.name f14.name (defArgs (top 28)) (defBody (top 28)) (defScope (top 28)) .none kV doc pm an cdv ct) ⟨us, []⟩ = pure (f14.ps.zip us)
  | [_, _], _ => rfl
theorem k14 (kV doc pm : Value) (an : Option Addr) (cdv ct : Value) : ∀ us : List Value, us.length = f14.ps.length → bindArgs (PySem.W.fnOf f14.name f14.name (defArgs (top 28)) (defBody (top 28)) (defScope (top 28)) .none kV doc pm an cdv ct) ⟨[], f14.ps.zip us⟩ = pure (f14.ps.zip us)
  | [_, _], _ => rfl
theorem b15 (kV doc pm : Value) (an : Option Addr) (cdv ct : Value) : ∀ us : List Value, us.length = f15.ps.length → bindArgs (PySem.W.fnOf f15.name f15.name (defArgs (top 29)) (defBody (top 29)) (defScope (top 29)) .none kV doc pm an cdv ct) ⟨us, []⟩ = pure (f15.ps.zip us)
  | [_, _], _ => rfl
theorem k15 (kV doc pm : Value) (an : Option Addr) (cdv ct : Value) : ∀ us : List Value, us.length = f15.ps.length → bindArgs (PySem.W.fnOf f15.name f15.name (defArgs (top 29)) (defBody (top 29)) (defScope (top 29)) .none kV doc pm an cdv ct) ⟨[], f15.ps.zip us⟩ = pure (f15.ps.zip us)
  | [_, _], _ => rfl
theorem b16 (kV doc pm : Value) (an : Option Addr) (cdv ct : Value) : ∀ us : List Value, us.length = f16.ps.length → bindArgs (PySem.W.fnOf f16.name f16.name (defArgs (top 30)) (defBody (top 30)) (defScope (top 30)) .none kV doc pm an cdv ct) ⟨us, []⟩ = pure (f16.ps.zip us)
  | [_, _], _ => rfl
theorem k16 (kV doc pm : Value) (an : Option Addr) (cdv ct : Value) : ∀ us : List Value, us.length = f16.ps.length → bindArgs (PySem.W.fnOf f16.name f16.name (defArgs (top 30)) (defBody (top 30)) (defScope (top 30)) .none kV doc pm an cdv ct) ⟨[], f16.ps.zip us⟩ = pure (f16.ps.zip us)
  | [_, _], _ => rfl
theorem b17 (kV doc pm : Value) (an : Option Addr) (cdv ct : Value) : ∀ us : List Value, us.length = f17.ps.length → bindArgs (PySem.W.fnOf f17.name f17.name (defArgs (top 31)) (defBody (top 31)) (defScope (top 31)) .none kV doc pm an cdv ct) ⟨us, []⟩ = pure (f17.ps.zip us)
  | [_, _], _ => rfl
theorem k17 (kV doc pm : Value) (an : Option Addr) (cdv ct : Value) : ∀ us : List Value, us.length = f17.ps.length → bindArgs (PySem.W.fnOf f17.name f17.name (defArgs (top 31)) (defBody (top 31)) (defScope (top 31)) .none kV doc pm an cdv ct) ⟨[], f17.ps.zip us⟩ = pure (f17.ps.zip us)
  | [_, _], _ => rfl
theorem b18 (kV doc pm : Value) (an : Option Addr) (cdv ct : Value) : ∀ us : List Value, us.length = f18.ps.length → bindArgs (PySem.W.fnOf f18.name f18.name (defArgs (top 32)) (defBody (top 32)) (defScope (top 32)) .none kV doc pm an cdv ct) ⟨us, []⟩ = pure (f18.ps.zip us)
  | [_, _, _, _], _ => rfl
theorem k18 (kV doc pm : Value) (an : Option Addr) (cdv ct : Value) : ∀ us : List Value, us.length = f18.ps.length → bindArgs (PySem.W.fnOf f18.name f18.name (defArgs (top 32)) (defBody (top 32)) (defScope (top 32)) .none kV doc pm an cdv ct) ⟨[], f18.ps.zip us⟩ = pure (f18.ps.zip us)
  | [_, _, _, _], _ => rfl
theorem b19 (kV doc pm : Value) (an : Option Addr) (cdv ct : Value) : ∀ us : List Value, us.length = f19.ps.length → bindArgs (PySem.W.fnOf f19.name f19.name (defArgs (top 33)) (defBody (top 33)) (defScope (top 33)) .none kV doc pm an cdv ct) ⟨us, []⟩ = pure (f19.ps.zip us)
  | [_, _], _ => rfl
theorem k19 (kV doc pm : Value) (an : Option Addr) (cdv ct : Value) : ∀ us : List Value, us.length = f19.ps.length → bindArgs (PySem.W.fnOf f19.name f19.name (defArgs (top 33)) (defBody (top 33)) (defScope (top 33)) .none kV doc pm an cdv ct) ⟨[], f19.ps.zip us⟩ = pure (f19.ps.zip us)
  | [_, _], _ => rfl
theorem b20 (kV doc pm : Value) (an : Option Addr) (cdv ct : Value) : ∀ us : List Value, us.length = f20.ps.length → bindArgs (PySem.W.fnOf f20.name f20.name (defArgs (top 34)) (defBody (top 34)) (defScope (top 34)) .none kV doc pm an cdv ct) ⟨us, []⟩ = pure (f20.ps.zip us)
  | [_, _, _, _], _ => rfl
theorem k20 (kV doc pm : Value) (an : Option Addr) (cdv ct : Value) : ∀ us : List Value, us.length = f20.ps.length → bindArgs (PySem.W.fnOf f20.name f20.name (defArgs (top 34)) (defBody (top 34)) (defScope (top 34)) .none kV doc pm an cdv ct) ⟨[], f20.ps.zip us⟩ = pure (f20.ps.zip us)
  | [_, _, _, _], _ => rfl
theorem b21 (kV doc pm : Value) (an : Option Addr) (cdv ct : Value) : ∀ us : List Value, us.length = f21.ps.length → bindArgs (PySem.W.fnOf f21.name f21.name (defArgs (top 35)) (defBody (top 35)) (defScope (top 35)) .none kV doc pm an cdv ct) ⟨us, []⟩ = pure (f21.ps.zip us)
  | [_, _, _, _], _ => rfl
theorem k21 (kV doc pm : Value) (an : Option Addr) (cdv ct : Value) : ∀ us : List Value, us.length = f21.ps.length → bindArgs (PySem.W.fnOf f21.name f21.name (defArgs (top 35)) (defBody (top 35)) (defScope (top 35)) .none kV doc pm an cdv ct) ⟨[], f21.ps.zip us⟩ = pure (f21.ps.zip us)
  | [_, _, _, _], _ => rfl
theorem b22 (kV doc pm : Value) (an : Option Addr) (cdv ct : Value) : ∀ us : List Value, us.length = f22.ps.length → bindArgs (PySem.W.fnOf f22.name f22.name (defArgs (top 36)) (defBody (top 36)) (defScope (top 36)) .none kV doc pm an cdv ct) ⟨us, []⟩ = pure (f22.ps.zip us)
  | [_], _ => rfl
theorem k22 (kV doc pm : Value) (an : Option Addr) (cdv ct : Value) : ∀ us : List Value, us.length = f22.ps.length → bindArgs (PySem.W.fnOf f22.name f22.name (defArgs (top 36)) (defBody (top 36)) (defScope (top 36)) .none kV doc pm an cdv ct) ⟨[], f22.ps.zip us⟩ = pure (f22.ps.zip us)
  | [_], _ => rfl
theorem b23 (kV doc pm : Value) (an : Option Addr) (cdv ct : Value) : ∀ us : List Value, us.length = f23.ps.length → bindArgs (PySem.W.fnOf f23.name f23.name (defArgs (top 37)) (defBody (top 37)) (defScope (top 37)) .none kV doc pm an cdv ct) ⟨us, []⟩ = pure (f23.ps.zip us)
  | [_], _ => rfl
theorem k23 (kV doc pm : Value) (an : Option Addr) (cdv ct : Value) : ∀ us : List Value, us.length = f23.ps.length → bindArgs (PySem.W.fnOf f23.name f23.name (defArgs (top 37)) (defBody (top 37)) (defScope (top 37)) .none kV doc pm an cdv ct) ⟨[], f23.ps.zip us⟩ = pure (f23.ps.zip us)
  | [_], _ => rfl
theorem b24 (kV doc pm : Value) (an : Option Addr) (cdv ct : Value) : ∀ us : List Value, us.length = f24.ps.length → bindArgs (PySem.W.fnOf f24.name f24.name (defArgs (top 38)) (defBody (top 38)) (defScope (top 38)) .none kV doc pm an cdv ct) ⟨us, []⟩ = pure (f24.ps.zip us)
  | [], _ => rfl
theorem k24 (kV doc pm : Value) (an : Option Addr) (cdv ct : Value) : ∀ us : List Value, us.length = f24.ps.length → bindArgs (PySem.W.fnOf f24.name f24.name (defArgs (top 38)) (defBody (top 38)) (defScope (top 38)) .none kV doc pm an cdv ct) ⟨[], f24.ps.zip us⟩ = pure (f24.ps.zip us)
  | [], _ => rfl
theorem b25 (kV doc pm : Value) (an : Option Addr) (cdv ct : Value) : ∀ us : List Value, us.length = f25.ps.length → bindArgs (PySem.W.fnOf f25.name f25.name (defArgs (top 39)) (defBody (top 39)) (defScope (top 39)) .none kV doc pm an cdv ct) ⟨us, []⟩ = pure (f25.ps.zip us)
  | [_], _ => rfl
theorem k25 (kV doc pm : Value) (an : Option Addr) (cdv ct : Value) : ∀ us : List Value, us.length = f25.ps.length → bindArgs (PySem.W.fnOf f25.name f25.name (defArgs (top 39)) (defBody (top 39)) (defScope (top 39)) .none kV doc pm an cdv ct) ⟨[], f25.ps.zip us⟩ = pure (f25.ps.zip us)
  | [_], _ => rfl
theorem all_mk {K : PySem.W.Frag} {mg : Str → Option Value} {h : Heap} (X : K.In h) (G : h.Ns mainGlobals mg) {g0 g1 g2 g3 g4 g5 g6 g7 g8 g9 g10 g11 g12 g13 g14 g15 g16 g17 g18 g19 g20 g21 g22 g23 g24 g25 : Addr}
    {oc0 kv0 dc0 pm0 cd0 ct0 oc1 kv1 dc1 pm1 cd1 ct1 oc2 kv2 dc2 pm2 cd2 ct2 oc3 kv3 dc3 pm3 cd3 ct3 oc4 kv4 dc4 pm4 cd4 ct4 oc5 kv5 dc5 pm5 cd5 ct5 oc6 kv6 dc6 pm6 cd6 ct6 oc7 kv7 dc7 pm7 cd7 ct7 oc8 kv8 dc8 pm8 cd8 ct8 oc9 kv9 dc9 pm9 cd9 ct9 oc10 kv10 dc10 pm10 cd10 ct10 oc11 kv11 dc11 pm11 cd11 ct11 oc12 kv12 dc12 pm12 cd12 ct12 oc13 kv13 dc13 pm13 cd13 ct13 oc14 kv14 dc14 pm14 cd14 ct14 oc15 kv15 dc15 pm15 cd15 ct15 oc16 kv16 dc16 pm16 cd16 ct16 oc17 kv17 dc17 pm17 cd17 ct17 oc18 kv18 dc18 pm18 cd18 ct18 oc19 kv19 dc19 pm19 cd19 ct19 oc20 kv20 dc20 pm20 cd20 ct20 oc21 kv21 dc21 pm21 cd21 ct21 oc22 kv22 dc22 pm22 cd22 ct22 oc23 kv23 dc23 pm23 cd23 ct23 oc24 kv24 dc24 pm24 cd24 ct24 oc25 kv25 dc25 pm25 cd25 ct25 : Value}
    {od0 an0 od1 an1 od2 an2 od3 an3 od4 an4 od5 an5 od6 an6 od7 an7 od8 an8 od9 an9 od10 an10 od11 an11 od12 an12 od13 an13 od14 an14 od15 an15 od16 an16 od17 an17 od18 an18 od19 an19 od20 an20 od21 an21 od22 an22 od23 an23 od24 an24 od25 an25 : Option Addr}
    {sl0 sl1 sl2 sl3 sl4 sl5 sl6 sl7 sl8 sl9 sl10 sl11 sl12 sl13 sl14 sl15 sl16 sl17 sl18 sl19 sl20 sl21 sl22 sl23 sl24 sl25 : Array (Option Value)}
    {t0 t1 t2 t3 t4 t5 : Tok}
    (a0 : PySem.W.nsIn K mainGlobals "is_integer" = some (some (.ref g0))) (l0 : K.lookup g0 = some ⟨oc0, od0, .func (PySem.W.fnOf "is_integer" "is_integer" (defArgs (top 6)) (defBody (top 6)) (defScope (top 6)) .none kv0 dc0 pm0 an0 cd0 ct0), sl0⟩) (e0 : PySem.W.codeIn K cd0 "is_integer" = true) (p0 : PySem.W.keepIn K (.ref g0) = true)
    (a1 : PySem.W.nsIn K mainGlobals "is_between" = some (some (.ref g1))) (l1 : K.lookup g1 = some ⟨oc1, od1, .func (PySem.W.fnOf "is_between" "is_between" (defArgs (top 7)) (defBody (top 7)) (defScope (top 7)) .none kv1 dc1 pm1 an1 cd1 ct1), sl1⟩) (e1 : PySem.W.codeIn K cd1 "is_between" = true) (p1 : PySem.W.keepIn K (.ref g1) = true)
    (a2 : PySem.W.nsIn K mainGlobals "check_votes" = some (some (.ref g2))) (l2 : K.lookup g2 = some ⟨oc2, od2, .func (PySem.W.fnOf "check_votes" "check_votes" (defArgs (top 15)) (defBody (top 15)) (defScope (top 15)) .none kv2 dc2 pm2 an2 cd2 ct2), sl2⟩) (e2 : PySem.W.codeIn K cd2 "check_votes" = true) (p2 : PySem.W.keepIn K (.ref g2) = true)
    (a3 : PySem.W.nsIn K mainGlobals "dues_of" = some (some (.ref g3))) (l3 : K.lookup g3 = some ⟨oc3, od3, .func (PySem.W.fnOf "dues_of" "dues_of" (defArgs (top 16)) (defBody (top 16)) (defScope (top 16)) .none kv3 dc3 pm3 an3 cd3 ct3), sl3⟩) (e3 : PySem.W.codeIn K cd3 "dues_of" = true) (p3 : PySem.W.keepIn K (.ref g3) = true)
    (a4 : PySem.W.nsIn K mainGlobals "due_seats" = some (some (.ref g4))) (l4 : K.lookup g4 = some ⟨oc4, od4, .func (PySem.W.fnOf "due_seats" "due_seats" (defArgs (top 17)) (defBody (top 17)) (defScope (top 17)) .none kv4 dc4 pm4 an4 cd4 ct4), sl4⟩) (e4 : PySem.W.codeIn K cd4 "due_seats" = true) (p4 : PySem.W.keepIn K (.ref g4) = true)
    (a5 : PySem.W.nsIn K mainGlobals "by_due" = some (some (.ref g5))) (l5 : K.lookup g5 = some ⟨oc5, od5, .func (PySem.W.fnOf "by_due" "by_due" (defArgs (top 18)) (defBody (top 18)) (defScope (top 18)) .none kv5 dc5 pm5 an5 cd5 ct5), sl5⟩) (e5 : PySem.W.codeIn K cd5 "by_due" = true) (p5 : PySem.W.keepIn K (.ref g5) = true)
    (a6 : PySem.W.nsIn K mainGlobals "are_seats" = some (some (.ref g6))) (l6 : K.lookup g6 = some ⟨oc6, od6, .func (PySem.W.fnOf "are_seats" "are_seats" (defArgs (top 19)) (defBody (top 19)) (defScope (top 19)) .none kv6 dc6 pm6 an6 cd6 ct6), sl6⟩) (e6 : PySem.W.codeIn K cd6 "are_seats" = true) (p6 : PySem.W.keepIn K (.ref g6) = true)
    (a7 : PySem.W.nsIn K mainGlobals "is_within" = some (some (.ref g7))) (l7 : K.lookup g7 = some ⟨oc7, od7, .func (PySem.W.fnOf "is_within" "is_within" (defArgs (top 20)) (defBody (top 20)) (defScope (top 20)) .none kv7 dc7 pm7 an7 cd7 ct7), sl7⟩) (e7 : PySem.W.codeIn K cd7 "is_within" = true) (p7 : PySem.W.keepIn K (.ref g7) = true)
    (a8 : PySem.W.nsIn K mainGlobals "check_steps" = some (some (.ref g8))) (l8 : K.lookup g8 = some ⟨oc8, od8, .func (PySem.W.fnOf "check_steps" "check_steps" (defArgs (top 21)) (defBody (top 21)) (defScope (top 21)) .none kv8 dc8 pm8 an8 cd8 ct8), sl8⟩) (e8 : PySem.W.codeIn K cd8 "check_steps" = true) (p8 : PySem.W.keepIn K (.ref g8) = true)
    (a9 : PySem.W.nsIn K mainGlobals "step" = some (some (.ref g9))) (l9 : K.lookup g9 = some ⟨oc9, od9, .func (PySem.W.fnOf "step" "step" (defArgs (top 22)) (defBody (top 22)) (defScope (top 22)) .none kv9 dc9 pm9 an9 cd9 ct9), sl9⟩) (e9 : PySem.W.codeIn K cd9 "step" = true) (p9 : PySem.W.keepIn K (.ref g9) = true)
    (a10 : PySem.W.nsIn K mainGlobals "by_steps" = some (some (.ref g10))) (l10 : K.lookup g10 = some ⟨oc10, od10, .func (PySem.W.fnOf "by_steps" "by_steps" (defArgs (top 23)) (defBody (top 23)) (defScope (top 23)) .none kv10 dc10 pm10 an10 cd10 ct10), sl10⟩) (e10 : PySem.W.codeIn K cd10 "by_steps" = true) (p10 : PySem.W.keepIn K (.ref g10) = true)
    (a11 : PySem.W.nsIn K mainGlobals "shows_by_steps" = some (some (.ref g11))) (l11 : K.lookup g11 = some ⟨oc11, od11, .func (PySem.W.fnOf "shows_by_steps" "shows_by_steps" (defArgs (top 24)) (defBody (top 24)) (defScope (top 24)) .none kv11 dc11 pm11 an11 cd11 ct11), sl11⟩) (e11 : PySem.W.codeIn K cd11 "shows_by_steps" = true) (p11 : PySem.W.keepIn K (.ref g11) = true)
    (a12 : PySem.W.nsIn K mainGlobals "_law_pot" = some (some (.ref g12))) (l12 : K.lookup g12 = some ⟨oc12, od12, .func (PySem.W.fnOf "_law_pot" "_law_pot" (defArgs (top 26)) (defBody (top 26)) (defScope (top 26)) .none kv12 dc12 pm12 an12 cd12 ct12), sl12⟩) (e12 : PySem.W.codeIn K cd12 "_law_pot" = true) (p12 : PySem.W.keepIn K (.ref g12) = true)
    (a13 : PySem.W.nsIn K mainGlobals "_law_take" = some (some (.ref g13))) (l13 : K.lookup g13 = some ⟨oc13, od13, .func (PySem.W.fnOf "_law_take" "_law_take" (defArgs (top 27)) (defBody (top 27)) (defScope (top 27)) .none kv13 dc13 pm13 an13 cd13 ct13), sl13⟩) (e13 : PySem.W.codeIn K cd13 "_law_take" = true) (p13 : PySem.W.keepIn K (.ref g13) = true)
    (a14 : PySem.W.nsIn K mainGlobals "_law_of" = some (some (.ref g14))) (l14 : K.lookup g14 = some ⟨oc14, od14, .func (PySem.W.fnOf "_law_of" "_law_of" (defArgs (top 28)) (defBody (top 28)) (defScope (top 28)) .none kv14 dc14 pm14 an14 cd14 ct14), sl14⟩) (e14 : PySem.W.codeIn K cd14 "_law_of" = true) (p14 : PySem.W.keepIn K (.ref g14) = true)
    (a15 : PySem.W.nsIn K mainGlobals "_law_cells" = some (some (.ref g15))) (l15 : K.lookup g15 = some ⟨oc15, od15, .func (PySem.W.fnOf "_law_cells" "_law_cells" (defArgs (top 29)) (defBody (top 29)) (defScope (top 29)) .none kv15 dc15 pm15 an15 cd15 ct15), sl15⟩) (e15 : PySem.W.codeIn K cd15 "_law_cells" = true) (p15 : PySem.W.keepIn K (.ref g15) = true)
    (a16 : PySem.W.nsIn K mainGlobals "_law_bent" = some (some (.ref g16))) (l16 : K.lookup g16 = some ⟨oc16, od16, .func (PySem.W.fnOf "_law_bent" "_law_bent" (defArgs (top 30)) (defBody (top 30)) (defScope (top 30)) .none kv16 dc16 pm16 an16 cd16 ct16), sl16⟩) (e16 : PySem.W.codeIn K cd16 "_law_bent" = true) (p16 : PySem.W.keepIn K (.ref g16) = true)
    (a17 : PySem.W.nsIn K mainGlobals "_law_step" = some (some (.ref g17))) (l17 : K.lookup g17 = some ⟨oc17, od17, .func (PySem.W.fnOf "_law_step" "_law_step" (defArgs (top 31)) (defBody (top 31)) (defScope (top 31)) .none kv17 dc17 pm17 an17 cd17 ct17), sl17⟩) (e17 : PySem.W.codeIn K cd17 "_law_step" = true) (p17 : PySem.W.keepIn K (.ref g17) = true)
    (a18 : PySem.W.nsIn K mainGlobals "_law_is_right" = some (some (.ref g18))) (l18 : K.lookup g18 = some ⟨oc18, od18, .func (PySem.W.fnOf "_law_is_right" "_law_is_right" (defArgs (top 32)) (defBody (top 32)) (defScope (top 32)) .none kv18 dc18 pm18 an18 cd18 ct18), sl18⟩) (e18 : PySem.W.codeIn K cd18 "_law_is_right" = true) (p18 : PySem.W.keepIn K (.ref g18) = true)
    (a19 : PySem.W.nsIn K mainGlobals "_law_all_seats" = some (some (.ref g19))) (l19 : K.lookup g19 = some ⟨oc19, od19, .func (PySem.W.fnOf "_law_all_seats" "_law_all_seats" (defArgs (top 33)) (defBody (top 33)) (defScope (top 33)) .none kv19 dc19 pm19 an19 cd19 ct19), sl19⟩) (e19 : PySem.W.codeIn K cd19 "_law_all_seats" = true) (p19 : PySem.W.keepIn K (.ref g19) = true)
    (a20 : PySem.W.nsIn K mainGlobals "_law_is_bounded" = some (some (.ref g20))) (l20 : K.lookup g20 = some ⟨oc20, od20, .func (PySem.W.fnOf "_law_is_bounded" "_law_is_bounded" (defArgs (top 34)) (defBody (top 34)) (defScope (top 34)) .none kv20 dc20 pm20 an20 cd20 ct20), sl20⟩) (e20 : PySem.W.codeIn K cd20 "_law_is_bounded" = true) (p20 : PySem.W.keepIn K (.ref g20) = true)
    (a21 : PySem.W.nsIn K mainGlobals "_law_is_kind_right" = some (some (.ref g21))) (l21 : K.lookup g21 = some ⟨oc21, od21, .func (PySem.W.fnOf "_law_is_kind_right" "_law_is_kind_right" (defArgs (top 35)) (defBody (top 35)) (defScope (top 35)) .none kv21 dc21 pm21 an21 cd21 ct21), sl21⟩) (e21 : PySem.W.codeIn K cd21 "_law_is_kind_right" = true) (p21 : PySem.W.keepIn K (.ref g21) = true)
    (a22 : PySem.W.nsIn K mainGlobals "_law_are_few_right" = some (some (.ref g22))) (l22 : K.lookup g22 = some ⟨oc22, od22, .func (PySem.W.fnOf "_law_are_few_right" "_law_are_few_right" (defArgs (top 36)) (defBody (top 36)) (defScope (top 36)) .none kv22 dc22 pm22 an22 cd22 ct22), sl22⟩) (e22 : PySem.W.codeIn K cd22 "_law_are_few_right" = true) (p22 : PySem.W.keepIn K (.ref g22) = true)
    (a23 : PySem.W.nsIn K mainGlobals "_law_are_many_right" = some (some (.ref g23))) (l23 : K.lookup g23 = some ⟨oc23, od23, .func (PySem.W.fnOf "_law_are_many_right" "_law_are_many_right" (defArgs (top 37)) (defBody (top 37)) (defScope (top 37)) .none kv23 dc23 pm23 an23 cd23 ct23), sl23⟩) (e23 : PySem.W.codeIn K cd23 "_law_are_many_right" = true) (p23 : PySem.W.keepIn K (.ref g23) = true)
    (a24 : PySem.W.nsIn K mainGlobals "_law_are_known_right" = some (some (.ref g24))) (l24 : K.lookup g24 = some ⟨oc24, od24, .func (PySem.W.fnOf "_law_are_known_right" "_law_are_known_right" (defArgs (top 38)) (defBody (top 38)) (defScope (top 38)) .none kv24 dc24 pm24 an24 cd24 ct24), sl24⟩) (e24 : PySem.W.codeIn K cd24 "_law_are_known_right" = true) (p24 : PySem.W.keepIn K (.ref g24) = true)
    (a25 : PySem.W.nsIn K mainGlobals "law" = some (some (.ref g25))) (l25 : K.lookup g25 = some ⟨oc25, od25, .func (PySem.W.fnOf "law" "law" (defArgs (top 39)) (defBody (top 39)) (defScope (top 39)) .none kv25 dc25 pm25 an25 cd25 ct25), sl25⟩) (e25 : PySem.W.codeIn K cd25 "law" = true) (p25 : PySem.W.keepIn K (.ref g25) = true)
    (z0 : PySem.W.nsIn K mainGlobals "abs" = some none)
    (z1 : PySem.W.nsIn K mainGlobals "all" = some none)
    (z2 : PySem.W.nsIn K mainGlobals "any" = some none)
    (z3 : PySem.W.nsIn K mainGlobals "bool" = some none)
    (z4 : PySem.W.nsIn K mainGlobals "enumerate" = some none)
    (z5 : PySem.W.nsIn K mainGlobals "int" = some none)
    (z6 : PySem.W.nsIn K mainGlobals "isinstance" = some none)
    (z7 : PySem.W.nsIn K mainGlobals "len" = some none)
    (z8 : PySem.W.nsIn K mainGlobals "list" = some none)
    (z9 : PySem.W.nsIn K mainGlobals "max" = some none)
    (z10 : PySem.W.nsIn K mainGlobals "min" = some none)
    (z11 : PySem.W.nsIn K mainGlobals "range" = some none)
    (z12 : PySem.W.nsIn K mainGlobals "repr" = some none)
    (z13 : PySem.W.nsIn K mainGlobals "sorted" = some none)
    (z14 : PySem.W.nsIn K mainGlobals "str" = some none)
    (z15 : PySem.W.nsIn K mainGlobals "sum" = some none)
    (z16 : PySem.W.nsIn K mainGlobals "tuple" = some none)
    (z17 : PySem.W.nsIn K mainGlobals "zip" = some none)
    (y0 : PySem.W.nsIn K mainGlobals "DOWN" = some (some (.str "down" t0)))
    (y1 : PySem.W.nsIn K mainGlobals "HALF" = some (some (.str "half" t1)))
    (y2 : PySem.W.nsIn K mainGlobals "MOST_SEATS" = some (some (.int 500 t2)))
    (y3 : PySem.W.nsIn K mainGlobals "MOST_VOTES" = some (some (.int 1000000000 t3)))
    (y4 : PySem.W.nsIn K mainGlobals "MOST_WEIGHTS" = some (some (.int 20 t4)))
    (y5 : PySem.W.nsIn K mainGlobals "UP" = some (some (.str "up" t5))) : Tab K mg prm [] where
  ok := fun f fn hf => match f, hf with
    | 0, hf => by
      cases hf
      exact ⟨top 6, ⟨⟨_, _, fun_mk l0 e0 p0, PySem.W.mg_of X G a0⟩, s0, b0, k0⟩, c0⟩
    | 1, hf => by
      cases hf
      exact ⟨top 7, ⟨⟨_, _, fun_mk l1 e1 p1, PySem.W.mg_of X G a1⟩, s1, b1, k1⟩, c1⟩
    | 2, hf => by
      cases hf
      exact ⟨top 15, ⟨⟨_, _, fun_mk l2 e2 p2, PySem.W.mg_of X G a2⟩, s2, b2, k2⟩, c2⟩
    | 3, hf => by
      cases hf
      exact ⟨top 16, ⟨⟨_, _, fun_mk l3 e3 p3, PySem.W.mg_of X G a3⟩, s3, b3, k3⟩, c3⟩
    | 4, hf => by
      cases hf
      exact ⟨top 17, ⟨⟨_, _, fun_mk l4 e4 p4, PySem.W.mg_of X G a4⟩, s4, b4, k4⟩, c4⟩
    | 5, hf => by
      cases hf
      exact ⟨top 18, ⟨⟨_, _, fun_mk l5 e5 p5, PySem.W.mg_of X G a5⟩, s5, b5, k5⟩, c5⟩
    | 6, hf => by
      cases hf
      exact ⟨top 19, ⟨⟨_, _, fun_mk l6 e6 p6, PySem.W.mg_of X G a6⟩, s6, b6, k6⟩, c6⟩
    | 7, hf => by
      cases hf
      exact ⟨top 20, ⟨⟨_, _, fun_mk l7 e7 p7, PySem.W.mg_of X G a7⟩, s7, b7, k7⟩, c7⟩
    | 8, hf => by
      cases hf
      exact ⟨top 21, ⟨⟨_, _, fun_mk l8 e8 p8, PySem.W.mg_of X G a8⟩, s8, b8, k8⟩, c8⟩
    | 9, hf => by
      cases hf
      exact ⟨top 22, ⟨⟨_, _, fun_mk l9 e9 p9, PySem.W.mg_of X G a9⟩, s9, b9, k9⟩, c9⟩
    | 10, hf => by
      cases hf
      exact ⟨top 23, ⟨⟨_, _, fun_mk l10 e10 p10, PySem.W.mg_of X G a10⟩, s10, b10, k10⟩, c10⟩
    | 11, hf => by
      cases hf
      exact ⟨top 24, ⟨⟨_, _, fun_mk l11 e11 p11, PySem.W.mg_of X G a11⟩, s11, b11, k11⟩, c11⟩
    | 12, hf => by
      cases hf
      exact ⟨top 26, ⟨⟨_, _, fun_mk l12 e12 p12, PySem.W.mg_of X G a12⟩, s12, b12, k12⟩, c12⟩
    | 13, hf => by
      cases hf
      exact ⟨top 27, ⟨⟨_, _, fun_mk l13 e13 p13, PySem.W.mg_of X G a13⟩, s13, b13, k13⟩, c13⟩
    | 14, hf => by
      cases hf
      exact ⟨top 28, ⟨⟨_, _, fun_mk l14 e14 p14, PySem.W.mg_of X G a14⟩, s14, b14, k14⟩, c14⟩
    | 15, hf => by
      cases hf
      exact ⟨top 29, ⟨⟨_, _, fun_mk l15 e15 p15, PySem.W.mg_of X G a15⟩, s15, b15, k15⟩, c15⟩
    | 16, hf => by
      cases hf
      exact ⟨top 30, ⟨⟨_, _, fun_mk l16 e16 p16, PySem.W.mg_of X G a16⟩, s16, b16, k16⟩, c16⟩
    | 17, hf => by
      cases hf
      exact ⟨top 31, ⟨⟨_, _, fun_mk l17 e17 p17, PySem.W.mg_of X G a17⟩, s17, b17, k17⟩, c17⟩
    | 18, hf => by
      cases hf
      exact ⟨top 32, ⟨⟨_, _, fun_mk l18 e18 p18, PySem.W.mg_of X G a18⟩, s18, b18, k18⟩, c18⟩
    | 19, hf => by
      cases hf
      exact ⟨top 33, ⟨⟨_, _, fun_mk l19 e19 p19, PySem.W.mg_of X G a19⟩, s19, b19, k19⟩, c19⟩
    | 20, hf => by
      cases hf
      exact ⟨top 34, ⟨⟨_, _, fun_mk l20 e20 p20, PySem.W.mg_of X G a20⟩, s20, b20, k20⟩, c20⟩
    | 21, hf => by
      cases hf
      exact ⟨top 35, ⟨⟨_, _, fun_mk l21 e21 p21, PySem.W.mg_of X G a21⟩, s21, b21, k21⟩, c21⟩
    | 22, hf => by
      cases hf
      exact ⟨top 36, ⟨⟨_, _, fun_mk l22 e22 p22, PySem.W.mg_of X G a22⟩, s22, b22, k22⟩, c22⟩
    | 23, hf => by
      cases hf
      exact ⟨top 37, ⟨⟨_, _, fun_mk l23 e23 p23, PySem.W.mg_of X G a23⟩, s23, b23, k23⟩, c23⟩
    | 24, hf => by
      cases hf
      exact ⟨top 38, ⟨⟨_, _, fun_mk l24 e24 p24, PySem.W.mg_of X G a24⟩, s24, b24, k24⟩, c24⟩
    | 25, hf => by
      cases hf
      exact ⟨top 39, ⟨⟨_, _, fun_mk l25 e25 p25, PySem.W.mg_of X G a25⟩, s25, b25, k25⟩, c25⟩
    | f + 26, hf => by
      cases hf
  bi := fun x hx => by
    have hm : x ∈ prm.bi := List.contains_iff_mem.mp hx
    simp only [prm, List.mem_cons, List.not_mem_nil, or_false] at hm
    rcases hm with rfl | rfl | rfl | rfl | rfl | rfl | rfl | rfl | rfl | rfl | rfl | rfl | rfl | rfl | rfl | rfl | rfl | rfl
    · exact PySem.W.mg_none_of X G z0
    · exact PySem.W.mg_none_of X G z1
    · exact PySem.W.mg_none_of X G z2
    · exact PySem.W.mg_none_of X G z3
    · exact PySem.W.mg_none_of X G z4
    · exact PySem.W.mg_none_of X G z5
    · exact PySem.W.mg_none_of X G z6
    · exact PySem.W.mg_none_of X G z7
    · exact PySem.W.mg_none_of X G z8
    · exact PySem.W.mg_none_of X G z9
    · exact PySem.W.mg_none_of X G z10
    · exact PySem.W.mg_none_of X G z11
    · exact PySem.W.mg_none_of X G z12
    · exact PySem.W.mg_none_of X G z13
    · exact PySem.W.mg_none_of X G z14
    · exact PySem.W.mg_none_of X G z15
    · exact PySem.W.mg_none_of X G z16
    · exact PySem.W.mg_none_of X G z17
  cst := fun p hp hl => by
    simp only [prm, List.mem_cons, List.not_mem_nil, or_false] at hp
    rcases hp with rfl | rfl | rfl | rfl | rfl | rfl
    · exact ⟨_, _, PySem.W.mg_of X G y0, (show RelV (.str "down") (.str "down" t0) from ⟨_, rfl⟩), fun F => .str _⟩
    · exact ⟨_, _, PySem.W.mg_of X G y1, (show RelV (.str "half") (.str "half" t1) from ⟨_, rfl⟩), fun F => .str _⟩
    · exact ⟨_, _, PySem.W.mg_of X G y2, (show RelV (.int 500) (.int 500 t2) from ⟨_, rfl⟩), fun F => .int _⟩
    · exact ⟨_, _, PySem.W.mg_of X G y3, (show RelV (.int 1000000000) (.int 1000000000 t3) from ⟨_, rfl⟩), fun F => .int _⟩
    · exact ⟨_, _, PySem.W.mg_of X G y4, (show RelV (.int 20) (.int 20 t4) from ⟨_, rfl⟩), fun F => .int _⟩
    · exact ⟨_, _, PySem.W.mg_of X G y5, (show RelV (.str "up") (.str "up" t5) from ⟨_, rfl⟩), fun F => .str _⟩
end K56

open PySem PySem.W PyProof.Rows in
set_option maxRecDepth 100000 in
set_option maxHeartbeats 0 in
theorem PySem.Challenge.cw_enoughvoices_k56_whole_seats_by_steps_holds : PySem.Challenge.rw_enoughvoices_k56_whole_seats_by_steps.Holds := by
  w_on; o_law; k_head; (case hw => w_witness2)
  k_fill
  refine DL.walk_D1 (l := PySem.Challenge.rw_enoughvoices_k56_whole_seats_by_steps) (Pr := K56.prm) (sts := []) (k := 40) (f := 25) (fn := K56.f25) "due_seats" rfl rfl ⟨rfl, by decide, by decide⟩ rfl rfl rfl (fun w h Y => PySem.W.km_in_of Y) ?F ?B rfl (by decide +kernel) K56.main
  case B =>
    intro w
    kernel_rfl
  case F =>
    intro w mg h KX G
    refine' K56.all_mk KX G ?a0 ?l0 ?e0 ?p0 ?a1 ?l1 ?e1 ?p1 ?a2 ?l2 ?e2 ?p2 ?a3 ?l3 ?e3 ?p3 ?a4 ?l4 ?e4 ?p4 ?a5 ?l5 ?e5 ?p5 ?a6 ?l6 ?e6 ?p6 ?a7 ?l7 ?e7 ?p7 ?a8 ?l8 ?e8 ?p8 ?a9 ?l9 ?e9 ?p9 ?a10 ?l10 ?e10 ?p10 ?a11 ?l11 ?e11 ?p11 ?a12 ?l12 ?e12 ?p12 ?a13 ?l13 ?e13 ?p13 ?a14 ?l14 ?e14 ?p14 ?a15 ?l15 ?e15 ?p15 ?a16 ?l16 ?e16 ?p16 ?a17 ?l17 ?e17 ?p17 ?a18 ?l18 ?e18 ?p18 ?a19 ?l19 ?e19 ?p19 ?a20 ?l20 ?e20 ?p20 ?a21 ?l21 ?e21 ?p21 ?a22 ?l22 ?e22 ?p22 ?a23 ?l23 ?e23 ?p23 ?a24 ?l24 ?e24 ?p24 ?a25 ?l25 ?e25 ?p25 ?z0 ?z1 ?z2 ?z3 ?z4 ?z5 ?z6 ?z7 ?z8 ?z9 ?z10 ?z11 ?z12 ?z13 ?z14 ?z15 ?z16 ?z17 ?y0 ?y1 ?y2 ?y3 ?y4 ?y5
    (case a0 => k_is)
    (case l0 => k_is)
    (case e0 => k_is)
    (case p0 => k_is)
    (case a1 => k_is)
    (case l1 => k_is)
    (case e1 => k_is)
    (case p1 => k_is)
    (case a2 => k_is)
    (case l2 => k_is)
    (case e2 => k_is)
    (case p2 => k_is)
    (case a3 => k_is)
    (case l3 => k_is)
    (case e3 => k_is)
    (case p3 => k_is)
    (case a4 => k_is)
    (case l4 => k_is)
    (case e4 => k_is)
    (case p4 => k_is)
    (case a5 => k_is)
    (case l5 => k_is)
    (case e5 => k_is)
    (case p5 => k_is)
    (case a6 => k_is)
    (case l6 => k_is)
    (case e6 => k_is)
    (case p6 => k_is)
    (case a7 => k_is)
    (case l7 => k_is)
    (case e7 => k_is)
    (case p7 => k_is)
    (case a8 => k_is)
    (case l8 => k_is)
    (case e8 => k_is)
    (case p8 => k_is)
    (case a9 => k_is)
    (case l9 => k_is)
    (case e9 => k_is)
    (case p9 => k_is)
    (case a10 => k_is)
    (case l10 => k_is)
    (case e10 => k_is)
    (case p10 => k_is)
    (case a11 => k_is)
    (case l11 => k_is)
    (case e11 => k_is)
    (case p11 => k_is)
    (case a12 => k_is)
    (case l12 => k_is)
    (case e12 => k_is)
    (case p12 => k_is)
    (case a13 => k_is)
    (case l13 => k_is)
    (case e13 => k_is)
    (case p13 => k_is)
    (case a14 => k_is)
    (case l14 => k_is)
    (case e14 => k_is)
    (case p14 => k_is)
    (case a15 => k_is)
    (case l15 => k_is)
    (case e15 => k_is)
    (case p15 => k_is)
    (case a16 => k_is)
    (case l16 => k_is)
    (case e16 => k_is)
    (case p16 => k_is)
    (case a17 => k_is)
    (case l17 => k_is)
    (case e17 => k_is)
    (case p17 => k_is)
    (case a18 => k_is)
    (case l18 => k_is)
    (case e18 => k_is)
    (case p18 => k_is)
    (case a19 => k_is)
    (case l19 => k_is)
    (case e19 => k_is)
    (case p19 => k_is)
    (case a20 => k_is)
    (case l20 => k_is)
    (case e20 => k_is)
    (case p20 => k_is)
    (case a21 => k_is)
    (case l21 => k_is)
    (case e21 => k_is)
    (case p21 => k_is)
    (case a22 => k_is)
    (case l22 => k_is)
    (case e22 => k_is)
    (case p22 => k_is)
    (case a23 => k_is)
    (case l23 => k_is)
    (case e23 => k_is)
    (case p23 => k_is)
    (case a24 => k_is)
    (case l24 => k_is)
    (case e24 => k_is)
    (case p24 => k_is)
    (case a25 => k_is)
    (case l25 => k_is)
    (case e25 => k_is)
    (case p25 => k_is)
    (case z0 => k_is)
    (case z1 => k_is)
    (case z2 => k_is)
    (case z3 => k_is)
    (case z4 => k_is)
    (case z5 => k_is)
    (case z6 => k_is)
    (case z7 => k_is)
    (case z8 => k_is)
    (case z9 => k_is)
    (case z10 => k_is)
    (case z11 => k_is)
    (case z12 => k_is)
    (case z13 => k_is)
    (case z14 => k_is)
    (case z15 => k_is)
    (case z16 => k_is)
    (case z17 => k_is)
    (case y0 => k_is)
    (case y1 => k_is)
    (case y2 => k_is)
    (case y3 => k_is)
    (case y4 => k_is)
    (case y5 => k_is)

