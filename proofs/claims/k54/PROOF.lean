import PyProof.Rows.All
import Wide.All
import OpenK.AllK
import Wide.FinOn
import PySem.Challenge.RW_enoughvoices_k54_whole_one_voice_joins
import HandS.ForMost
import HandS.Wide
import HandS.WideBits
import HandS.IsInst
import HandS.TupAny
import HandS.Zip
import HandS.SortInts
import HandS.Conv
import KE.GoesEnum
import KE.GoesMore
import KE.KDictZip
import HandS.RevTup
import HandS.TupLe
import HandS.SetFor
import HandS.Strs
import HandS.Dict
import HandS.Style
import HandS.Words
import HandS.Ends
import HandS.EndBits
import KE.IntBitsLaws
import PyProof.Rows.StrIntSpec
import PyProof.ReprLen
set_option Elab.async false
section
set_option autoImplicit false
/-! Plain data, a small typed tongue over it, and what it computes. -/
namespace DL
open PySem

/-- plain data -/
inductive D where
  | non | bl (b : Bool) | int (i : Int) | str (s : Str) | tup (xs : List D) | lst (xs : List D) | dct (kvs : List (L2.Key × D)) | scr (xs : List D)
  deriving Inhabited
/-- what a name may hold: plain data, or the n-th open list of the store -/
inductive E where
  | d (x : D) | r (n : Nat)
  deriving Inhabited
abbrev Env := List (Option E)
abbrev Store := List (Option (List D))
abbrev Rs (α : Type) := Option (α × Store)

mutual
def D.py : D → PyData
  | .non => .none
  | .bl b => .bool b
  | .int i => .int i
  | .str s => .str s
  | .tup xs => .tuple (D.pys xs)
  | .lst xs => .list (D.pys xs)
  | .dct _ => .none
  | .scr _ => .none
def D.pys : List D → List PyData
  | [] => []
  | x :: xs => D.py x :: D.pys xs
end
mutual
/-- no dict in it -/
def D.flat : D → Bool
  | .tup xs => D.flats xs
  | .lst xs => D.flats xs
  | .dct _ => false
  | .scr _ => false
  | _ => true
def D.flats : List D → Bool
  | [] => true
  | x :: xs => D.flat x && D.flats xs
end

def intsOf : List D → Option (List Int)
  | [] => some []
  | .int i :: r => (intsOf r).map (i :: ·)
  | _ => none
def boolsOf : List D → Option (List Bool)
  | [] => some []
  | .bl i :: r => (boolsOf r).map (i :: ·)
  | _ => none
def strsOf : List D → Option (List Str)
  | [] => some []
  | .str i :: r => (strsOf r).map (i :: ·)
  | _ => none

/-! ### operators by values -/
inductive O2 where
  | add | sub | mul | fdiv | mod | pow | shl | shr | band | catT | catL | catS | repL | eq | ne | lt | le | gt | ge | isIn | notIn
  deriving DecidableEq
def mulOk (i j : Int) : Bool := decide ((Builtin.Int.intBits i : Int) + (Builtin.Int.intBits j : Int) ≤ 134217728)
def divOk (j : Int) : Bool := decide (0 < j) && decide (j.natAbs.log2 < 9000)
def powOk (i j : Int) : Bool := decide (0 ≤ j) && decide ((Builtin.Int.intBits i : Int) * j ≤ 134217728)
def shlOk (i j : Int) : Bool := decide (0 ≤ j) && decide (j ≤ 1000000) && decide (i.natAbs < 2 ^ 64)
def fits (n : Nat) : Bool := decide (n ≤ 10000000)
/-- may be compared -/
def eqOk (x : D) : Bool := x.flat && SeqAt.shaped x.py
def eqD (x y : D) : Bool := PyData.eqv x.py y.py
def isLeaf : D → Bool
  | .non => true
  | .bl _ => true
  | .int _ => true
  | .str _ => true
  | _ => false
def eqLeaf : D → D → Bool
  | .non, .non => true
  | .bl a, .bl b => a == b
  | .int a, .int b => decide (a = b)
  | .str a, .str b => decide (a = b)
  | .bl a, .int b => decide (b = if a then 1 else 0)
  | .int b, .bl a => decide (b = if a then 1 else 0)
  | _, _ => false
def memOk (x : D) (xs : List D) : Bool := isLeaf x && xs.all isLeaf
def memD (x : D) (xs : List D) : Bool := xs.any fun y => eqLeaf y x
def i2 (f : Int → Int → Option D) : D → D → Option D
  | .int i, .int j => f i j
  | _, _ => none
def t2 : D → D → Option D
  | .tup xs, .tup ys => if fits (xs.length + ys.length) = true then some (.tup (xs ++ ys)) else none
  | _, _ => none
def l2 : D → D → Option D
  | .lst xs, .lst ys => if fits (xs.length + ys.length) = true then some (.lst (xs ++ ys)) else none
  | _, _ => none
def s2 : D → D → Option D
  | .str x, .str y => if fits (x.length + y.length) = true then some (.str (x ++ y)) else none
  | _, _ => none
def r2 : D → D → Option D
  | .lst xs, .int k => if (fits (xs.length * k.toNat) && decide (k.natAbs < 2 ^ 62)) = true then some (.lst (List.replicate k.toNat xs).flatten) else none
  | _, _ => none
def items : D → Option (List D)
  | .lst xs => some xs
  | .tup xs => some xs
  | _ => none
def o2 (o : O2) (x y : D) : Option D := match o with
  | .add => i2 (fun i j => some (.int (i + j))) x y
  | .sub => i2 (fun i j => some (.int (i - j))) x y
  | .mul => i2 (fun i j => if mulOk i j = true then some (.int (i * j)) else none) x y
  | .fdiv => i2 (fun i j => if divOk j = true then some (.int (i / j)) else none) x y
  | .mod => i2 (fun i j => if decide (0 < j) = true then some (.int (i % j)) else none) x y
  | .pow => i2 (fun i j => if powOk i j = true then some (.int (i ^ j.toNat)) else none) x y
  | .shl => i2 (fun i j => if shlOk i j = true then some (.int (i * 2 ^ j.toNat)) else none) x y
  | .shr => i2 (fun i j => if decide (0 ≤ j) = true then some (.int (i / 2 ^ j.toNat)) else none) x y
  | .band => i2 (fun i j => some (.int (Builtin.bitAnd i j))) x y
  | .catT => t2 x y
  | .catL => l2 x y
  | .catS => s2 x y
  | .repL => r2 x y
  | .eq => if (eqOk x && eqOk y) = true then some (.bl (eqD x y)) else none
  | .ne => if (eqOk x && eqOk y) = true then some (.bl (!eqD x y)) else none
  | .lt => i2 (fun i j => some (.bl (decide (i < j)))) x y
  | .le => i2 (fun i j => some (.bl (decide (i ≤ j)))) x y
  | .gt => i2 (fun i j => some (.bl (decide (j < i)))) x y
  | .ge => i2 (fun i j => some (.bl (decide (j ≤ i)))) x y
  | .isIn => (items y).bind fun ys => if memOk x ys = true then some (.bl (memD x ys)) else none
  | .notIn => (items y).bind fun ys => if memOk x ys = true then some (.bl (!memD x ys)) else none

/-! ### built-ins of one argument -/
inductive O1 where
  | neg | len | sum | all | any | abs | int | str | repr | tupleL | tupleT | listL | listT | sortedI | minL | maxL | lenSetI | sortedSetI | sumT
  deriving DecidableEq
def leastOf (xs : List Int) : Option Int := xs.min?
def mostOf (xs : List Int) : Option Int := xs.max?
/-- may be shown -/
def showOk (x : D) : Bool := x.flat && x.py.showable && decide (x.py.depth ≤ 60) && fits x.py.shown.length
def sortI (xs : List Int) : List Int := xs.mergeSort
def asI : D → Option Int
  | .int i => some i
  | _ => none
def asL : D → Option (List D)
  | .lst xs => some xs
  | _ => none
def asT : D → Option (List D)
  | .tup xs => some xs
  | _ => none
def lenD : D → Option Int
  | .lst xs => some xs.length
  | .tup xs => some xs.length
  | .scr xs => some xs.length
  | .str s => if fits s.length = true then some s.length else none
  | _ => none
def intD : D → Option Int
  | .int i => some i
  | .bl b => some (if b then 1 else 0)
  | _ => none
def o1 (o : O1) (x : D) : Option D := match o with
  | .neg => (asI x).bind fun i => some (.int (-i))
  | .len => (lenD x).bind fun i => some (.int i)
  | .sum => (asL x).bind fun xs => (intsOf xs).bind fun ns => some (.int ns.sum)
  | .sumT => (asT x).bind fun xs => (intsOf xs).bind fun ns => some (.int ns.sum)
  | .all => (asL x).bind fun xs => (boolsOf xs).bind fun bs => some (.bl (bs.all id))
  | .any => (asL x).bind fun xs => (boolsOf xs).bind fun bs => some (.bl (bs.any id))
  | .abs => (asI x).bind fun i => some (.int (if i < 0 then -i else i))
  | .int => (intD x).bind fun i => some (.int i)
  | .str => (asI x).bind fun i => if decide (i.natAbs.log2 < 1920) = true then some (.str (toString i)) else none
  | .repr => if showOk x = true then some (.str x.py.shown) else none
  | .tupleL => (asL x).bind fun xs => some (.tup xs)
  | .tupleT => (asT x).bind fun xs => some (.tup xs)
  | .listL => (asL x).bind fun xs => some (.lst xs)
  | .listT => (asT x).bind fun xs => some (.lst xs)
  | .sortedI => (asL x).bind fun xs => (intsOf xs).bind fun ns => some (.lst ((sortI ns).map .int))
  | .minL => (asL x).bind fun xs => (intsOf xs).bind fun ns => (leastOf ns).bind fun m => some (.int m)
  | .maxL => (asL x).bind fun xs => (intsOf xs).bind fun ns => (mostOf ns).bind fun m => some (.int m)
  | _ => none

/-! ### the tongue -/
inductive Ty where
  | int | bool | str | tuple | list | dict
  deriving DecidableEq
def isa : Ty → D → Bool
  | .int, .int _ => true
  | .int, .bl _ => true
  | .bool, .bl _ => true
  | .str, .str _ => true
  | .tuple, .tup _ => true
  | .list, .lst _ => true
  | .list, .scr _ => true
  | .dict, .dct _ => true
  | _, _ => false
/-- what is walked -/
inductive IK where
  | lst | tup | rng1 | rng2 | enumL | zipLL | enumT | zipTT
  deriving DecidableEq
inductive Tg where
  | nm (i : Nat)
  | tp (ts : List Tg)
inductive Tm where
  | var (i : Nat)
  | cst (x : D)
  | glob (x : Str) (v : D)
  | o2 (o : O2) (a b : Tm)
  | chain (o p : O2) (a b c : Tm)
  | and (a b : Tm)
  | or (a b : Tm)
  | not (a : Tm)
  | ite (c a b : Tm)
  | o1 (o : O1) (a : Tm)
  | max2 (a b : Tm)
  | min2 (a b : Tm)
  | isa (t : Ty) (a : Tm)
  | isN (a : Tm)
  | notN (a : Tm)
  | isB (b : Bool) (a : Tm)
  | notB (b : Bool) (a : Tm)
  | call (f : Nat) (as : List Tm)
  | callK (f : Nat) (as : List Tm)
  | tup (as : List Tm)
  | lst (as : List Tm)
  | idxL (a b : Tm)
  | idxT (a b : Tm)
  | slL (a : Tm) (lo hi : Option Tm)
  | slT (a : Tm) (lo hi : Option Tm)
  | lc (elt : Tm) (tg : Tg) (k : IK) (its : List Tm) (ifs : List Tm) (own : List Nat)
  | app (a b : Tm)
  | ext (a b : Tm)
  | popAt (a b : Tm)
  | new (a : Tm)
  | lstRg1 (a : Tm)
  | lstRg2 (a b : Tm)
  | tupZip (a b : Tm)
  | sortSetT (a : Tm)
  | dictL (a : Tm)
  | idxD (a b : Tm)
  /-- never come to -/
  | dead
inductive Stm where
  | asg (t : Tg) (e : Tm)
  | par (i j : Nat) (a b : Tm)
  | par3 (i j l : Nat) (a b c : Tm)
  | setI (o i e : Tm)
  /-- x = [[..] .. for ..], x[0][0] = v: two statements of the text -/
  | grid (i : Nat) (a : Tm) (v : D)
  | expr (e : Tm)
  | ife (c : Tm) (a b : List Stm)
  | for_ (t : Tg) (k : IK) (its : List Tm) (body : List Stm)
  | while_ (c : Tm) (body : List Stm)
  | ret (e : Tm)
  | pass
  | raise
  /-- no statement of the text: the open list that a name holds is closed -/
  | frz (i : Nat)

/-! ### what it computes -/
def deref (S : Store) : E → Option D
  | .d x => some x
  | .r n => match S[n]? with
    | some (some xs) => some (.lst xs)
    | _ => none
def asD : E → Option D
  | .d x => some x
  | .r _ => none
def asDs : List E → Option (List D)
  | [] => some []
  | .d x :: r => (asDs r).map (x :: ·)
  | _ => none
/-- a place of so many, as Python counts -/
def place (n : Nat) (i : Int) : Option Nat := if 0 ≤ i then (if i < n then some i.toNat else none) else if -(n : Int) ≤ i then some (i + n).toNat else none
def atD (xs : List D) (i : Int) : Option D := (place xs.length i).bind fun j => xs[j]?
def cutD (xs : List D) (lo hi : Option Int) : List D := (xs.drop (HT.sIx xs.length 0 lo)).take (HT.sIx xs.length xs.length hi - HT.sIx xs.length 0 lo)
def wipe (ρ : Env) : List Nat → Env
  | [] => ρ
  | v :: vs => (wipe ρ vs).set v none
def small62 (i : Int) : Bool := decide (-(2 ^ 62) ≤ i) && decide (i < 2 ^ 62)
def enumD (i : Nat) : List D → List D
  | [] => []
  | x :: r => .tup [.int i, x] :: enumD (i + 1) r
def zipD : List D → List D → List D
  | x :: r, y :: s => .tup [x, y] :: zipD r s
  | _, _ => []
/-- the ints of a range -/
def rangeD (a b : Int) : List D := (List.range (b - a).toNat).map fun (i : Nat) => .int (a + (i : Int))
def rgOk (a b : Int) : Bool := small62 a && small62 b && fits (b - a).toNat
/-- a number put among numbers that rise -/
def insS (n : Int) : List Int → List Int
  | [] => [n]
  | m :: r => if n < m then n :: m :: r else if n = m then m :: r else m :: insS n r
def sortSet : List Int → List Int
  | [] => []
  | n :: r => insS n (sortSet r)
def keyOf : D → Option L2.Key
  | .int i => some (.inl i)
  | .str x => some (.inr x)
  | _ => none
def pairOf : D → Option (L2.Key × D)
  | .tup [k, v] => (keyOf k).map fun k => (k, v)
  | _ => none
def pairsOf : List D → Option (List (L2.Key × D))
  | [] => some []
  | x :: r => (pairOf x).bind fun p => (pairsOf r).map (p :: ·)
def putD (kvs : List (L2.Key × D)) (k : L2.Key) (v : D) : List (L2.Key × D) :=
  if (kvs.any fun kv => decide (kv.1 = k)) = true then kvs.map (fun kv => if kv.1 = k then (kv.1, v) else kv) else kvs ++ [(k, v)]
def mergeD (kvs more : List (L2.Key × D)) : List (L2.Key × D) := more.foldl (fun acc kv => putD acc kv.1 kv.2) kvs
def valD (kvs : List (L2.Key × D)) (k : L2.Key) : Option D := (kvs.find? fun kv => decide (kv.1 = k)).map (·.2)
/-- what is walked, turn by turn -/
def walked (S : Store) : IK → List E → Option (List D)
  | .lst, [.d (.lst xs)] => some xs
  | .tup, [.d (.tup xs)] => some xs
  | .rng1, [.d (.int n)] => if small62 n = true then some ((List.range n.toNat).map fun (i : Nat) => .int (0 + (i : Int))) else none
  | .rng2, [.d (.int a), .d (.int b)] => if (small62 a && small62 b) = true then some ((List.range (b - a).toNat).map fun (i : Nat) => .int (a + (i : Int))) else none
  | .enumL, [.d (.lst xs)] => some (enumD 0 xs)
  | .zipLL, [.d (.lst xs), .d (.lst ys)] => some (zipD xs ys)
  | .enumT, [.d (.tup xs)] => some (enumD 0 xs)
  | .zipTT, [.d (.tup xs), .d (.tup ys)] => some (zipD xs ys)
  | _, _ => none
mutual
def bindT : Tg → D → Env → Option Env
  | .nm i, x, ρ => if i < ρ.length then some (ρ.set i (some (.d x))) else none
  | .tp ts, .tup xs, ρ => bindTs ts xs ρ
  | _, _, _ => none
def bindTs : List Tg → List D → Env → Option Env
  | [], [], ρ => some ρ
  | t :: ts, x :: xs, ρ => (bindT t x ρ).bind fun ρ1 => bindTs ts xs ρ1
  | _, _, _ => none
end

abbrev Ev := Tm → Env → Store → Rs E
abbrev Call := Nat → List E → Store → Rs E
def evs (g : Ev) : List Tm → Env → Store → Rs (List E)
  | [], _, S => some ([], S)
  | t :: ts, ρ, S => (g t ρ S).bind fun p => (evs g ts ρ p.2).bind fun q => some (p.1 :: q.1, q.2)
def evO (g : Ev) : Option Tm → Env → Store → Rs (Option Int)
  | none, _, S => some (none, S)
  | some t, ρ, S => (g t ρ S).bind fun p => (asD p.1).bind fun x => (asI x).bind fun i => some (some i, p.2)
/-- the tests of a comprehension -/
def evT (g : Ev) : List Tm → Env → Store → Rs Bool
  | [], _, S => some (true, S)
  | t :: ts, ρ, S => (g t ρ S).bind fun p => match p.1 with
    | .d (.bl b) => if b = true then evT g ts ρ p.2 else some (false, p.2)
    | _ => none
/-- a comprehension's turns; the names outside are as they were -/
def turns (g : Ev) (elt : Tm) (tg : Tg) (ifs : List Tm) (own : List Nat) (ρ : Env) : List D → List D → Store → Rs (List D)
  | [], acc, S => some (acc, S)
  | x :: xs, acc, S => (bindT tg x (wipe ρ own)).bind fun ρ1 => (evT g ifs ρ1 S).bind fun b =>
      if b.1 = true then (g elt ρ1 b.2).bind fun p => (asD p.1).bind fun y => if acc.length < 10000000 then turns g elt tg ifs own ρ xs (acc ++ [y]) p.2 else none
      else turns g elt tg ifs own ρ xs acc b.2
def isNonE : E → Bool
  | .d .non => true
  | _ => false
def isTrueD : E → Option Bool
  | .d (.bl b) => some b
  | _ => none
def ev (C : Call) : Nat → Ev
  | 0, _, _, _ => none
  | n + 1, t, ρ, S => match t with
    | .var i => match ρ[i]? with
      | some (some x) => some (x, S)
      | _ => none
    | .cst x => some (.d x, S)
    | .glob _ v => some (.d v, S)
    | .o2 o a b => (ev C n a ρ S).bind fun p => (ev C n b ρ p.2).bind fun q => (deref q.2 p.1).bind fun x => (deref q.2 q.1).bind fun y => (DL.o2 o x y).bind fun z => some (.d z, q.2)
    | .chain o o' a b c => (ev C n a ρ S).bind fun p => (ev C n b ρ p.2).bind fun q => (deref q.2 p.1).bind fun x => (deref q.2 q.1).bind fun y => (DL.o2 o x y).bind fun z => match z with
      | .bl true => (ev C n c ρ q.2).bind fun r => (deref r.2 q.1).bind fun y' => (deref r.2 r.1).bind fun w => (DL.o2 o' y' w).bind fun u => some (.d u, r.2)
      | .bl false => some (.d (.bl false), q.2)
      | _ => none
    | .and a b => (ev C n a ρ S).bind fun p => (isTrueD p.1).bind fun c => if c = true then ev C n b ρ p.2 else some (.d (.bl false), p.2)
    | .or a b => (ev C n a ρ S).bind fun p => (isTrueD p.1).bind fun c => if c = true then some (.d (.bl true), p.2) else ev C n b ρ p.2
    | .not a => (ev C n a ρ S).bind fun p => (isTrueD p.1).bind fun c => some (.d (.bl (!c)), p.2)
    | .ite c a b => (ev C n c ρ S).bind fun p => (isTrueD p.1).bind fun k => if k = true then ev C n a ρ p.2 else ev C n b ρ p.2
    | .o1 o a => (ev C n a ρ S).bind fun p => (deref p.2 p.1).bind fun x => (DL.o1 o x).bind fun z => some (.d z, p.2)
    | .max2 a b => (ev C n a ρ S).bind fun p => (ev C n b ρ p.2).bind fun q => (asD p.1).bind fun x => (asD q.1).bind fun y => (asI x).bind fun i => (asI y).bind fun j => some (.d (.int (if j > i then j else i)), q.2)
    | .min2 a b => (ev C n a ρ S).bind fun p => (ev C n b ρ p.2).bind fun q => (asD p.1).bind fun x => (asD q.1).bind fun y => (asI x).bind fun i => (asI y).bind fun j => some (.d (.int (if j < i then j else i)), q.2)
    | .isa k a => (ev C n a ρ S).bind fun p => (asD p.1).bind fun x => some (.d (.bl (DL.isa k x)), p.2)
    | .isN a => (ev C n a ρ S).bind fun p => some (.d (.bl (isNonE p.1)), p.2)
    | .notN a => (ev C n a ρ S).bind fun p => some (.d (.bl (!isNonE p.1)), p.2)
    | .isB b a => (ev C n a ρ S).bind fun p => (isTrueD p.1).bind fun c => some (.d (.bl (decide (c = b))), p.2)
    | .notB b a => (ev C n a ρ S).bind fun p => (isTrueD p.1).bind fun c => some (.d (.bl (!decide (c = b))), p.2)
    | .call f as => (evs (ev C n) as ρ S).bind fun p => C f p.1 p.2
    | .callK f as => (evs (ev C n) as ρ S).bind fun p => C f p.1 p.2
    | .tup as => (evs (ev C n) as ρ S).bind fun p => (asDs p.1).bind fun xs => if fits xs.length = true then some (.d (.tup xs), p.2) else none
    | .lst as => (evs (ev C n) as ρ S).bind fun p => (asDs p.1).bind fun xs => if fits xs.length = true then some (.d (.lst xs), p.2) else none
    | .idxL a b => (ev C n a ρ S).bind fun p => (ev C n b ρ p.2).bind fun q => (deref q.2 p.1).bind fun x => (asD q.1).bind fun y => (asI y).bind fun i => match x with
      | .lst xs => (atD xs i).bind fun z => some (.d z, q.2)
      | .scr xs => (atD xs i).bind fun z => some (.d z, q.2)
      | _ => none
    | .idxT a b => (ev C n a ρ S).bind fun p => (ev C n b ρ p.2).bind fun q => (asD p.1).bind fun x => (asD q.1).bind fun y => (asI y).bind fun i => match x with
      | .tup xs => (atD xs i).bind fun z => some (.d z, q.2)
      | _ => none
    | .slL a lo hi => (ev C n a ρ S).bind fun p => (evO (ev C n) lo ρ p.2).bind fun l => (evO (ev C n) hi ρ l.2).bind fun h => (deref h.2 p.1).bind fun x => match x with
      | .lst xs => some (.d (.lst (cutD xs l.1 h.1)), h.2)
      | .scr xs => some (.d (.lst (cutD xs l.1 h.1)), h.2)
      | _ => none
    | .slT a lo hi => (ev C n a ρ S).bind fun p => (evO (ev C n) lo ρ p.2).bind fun l => (evO (ev C n) hi ρ l.2).bind fun h => (asD p.1).bind fun x => match x with
      | .tup xs => some (.d (.tup (cutD xs l.1 h.1)), h.2)
      | _ => none
    | .lc elt tg k its ifs own => (evs (ev C n) its ρ S).bind fun p => (walked p.2 k p.1).bind fun xs => (turns (ev C n) elt tg ifs own ρ xs [] p.2).bind fun q => some (.d (.lst q.1), q.2)
    | .app a b => (ev C n a ρ S).bind fun p => (deref p.2 p.1).bind fun _ => (ev C n b ρ p.2).bind fun q => (asD q.1).bind fun y => match p.1 with
      | .r m => match q.2[m]? with
        | some (some xs) => if xs.length < 10000000 then some (.d .non, q.2.set m (some (xs ++ [y]))) else none
        | _ => none
      | _ => none
    | .ext a b => (ev C n a ρ S).bind fun p => (deref p.2 p.1).bind fun _ => (ev C n b ρ p.2).bind fun q => (asD q.1).bind fun y => match p.1, y with
      | .r m, .lst ys => match q.2[m]? with
        | some (some xs) => if fits (xs.length + ys.length) = true then some (.d .non, q.2.set m (some (xs ++ ys))) else none
        | _ => none
      | _, _ => none
    | .popAt a b => (ev C n a ρ S).bind fun p => (deref p.2 p.1).bind fun _ => (ev C n b ρ p.2).bind fun q => (asD q.1).bind fun y => (asI y).bind fun i => match p.1 with
      | .r m => match q.2[m]? with
        | some (some xs) => if 0 ≤ i ∧ i < (xs.length : Int) ∧ i < 10000000 then (xs[i.toNat]?).bind fun z => some (.d z, q.2.set m (some (xs.eraseIdx i.toNat))) else none
        | _ => none
      | _ => none
    | .new a => (ev C n a ρ S).bind fun p => match p.1 with
      | .d (.lst xs) => some (.r p.2.length, p.2 ++ [some xs])
      | _ => none

    | .lstRg1 a => (ev C n a ρ S).bind fun p => (asD p.1).bind fun x => (asI x).bind fun j => if rgOk 0 j = true then some (.d (.lst (rangeD 0 j)), p.2) else none
    | .lstRg2 a b => (ev C n a ρ S).bind fun p => (ev C n b ρ p.2).bind fun q => (asD p.1).bind fun x => (asD q.1).bind fun y => (asI x).bind fun i => (asI y).bind fun j => if rgOk i j = true then some (.d (.lst (rangeD i j)), q.2) else none
    | .tupZip a b => (ev C n a ρ S).bind fun p => (ev C n b ρ p.2).bind fun q => (asD p.1).bind fun x => (asD q.1).bind fun y => (asT x).bind fun xs => (asT y).bind fun ys => if decide (xs.length ≤ ys.length) = true then some (.d (.tup (zipD xs ys)), q.2) else none
    | .sortSetT a => (ev C n a ρ S).bind fun p => (asD p.1).bind fun x => (asT x).bind fun xs => (intsOf xs).bind fun ns => if decide (ns.length < 63) = true then some (.d (.lst ((sortSet ns).map .int)), p.2) else none
    | .dictL a => (ev C n a ρ S).bind fun p => (asD p.1).bind fun x => (asL x).bind fun xs => (pairsOf xs).bind fun kvs => some (.d (.dct (mergeD [] kvs)), p.2)
    | .idxD a b => (ev C n a ρ S).bind fun p => (ev C n b ρ p.2).bind fun q => (asD p.1).bind fun x => (asD q.1).bind fun y => (keyOf y).bind fun k => match x with
      | .dct kvs => (valD kvs k).bind fun z => some (.d z, q.2)
      | _ => none
    | .dead => none

/-- how a statement ends -/
inductive Out where
  | nx (ρ : Env) | ret (x : E)
abbrev Ex := Stm → Env → Store → Rs Out
def exs (g : Ex) : List Stm → Env → Store → Rs Out
  | [], ρ, S => some (.nx ρ, S)
  | s :: r, ρ, S => (g s ρ S).bind fun p => match p.1 with
    | .nx ρ1 => exs g r ρ1 p.2
    | .ret x => some (.ret x, p.2)
def forL (g : Ex) (tg : Tg) (body : List Stm) : List D → Env → Store → Rs Out
  | [], ρ, S => some (.nx ρ, S)
  | x :: xs, ρ, S => (bindT tg x ρ).bind fun ρ1 => (exs g body ρ1 S).bind fun p => match p.1 with
    | .nx ρ2 => forL g tg body xs ρ2 p.2
    | .ret y => some (.ret y, p.2)
def whileL (e : Ev) (g : Ex) (c : Tm) (body : List Stm) : Nat → Env → Store → Rs Out
  | 0, _, _ => none
  | m + 1, ρ, S => (e c ρ S).bind fun q => (isTrueD q.1).bind fun k => if k = true then (exs g body ρ q.2).bind fun p => match p.1 with
    | .nx ρ2 => whileL e g c body m ρ2 p.2
    | .ret y => some (.ret y, p.2) else some (.nx ρ, q.2)
def fuelE : Nat := 40
def fuelW : Nat := 10 ^ 60
def ex (C : Call) : Nat → Ex
  | 0, _, _, _ => none
  | n + 1, s, ρ, S => match s with
    | .asg t e => (ev C fuelE e ρ S).bind fun p => match t with
      | .nm i => if i < ρ.length then some (.nx (ρ.set i (some p.1)), p.2) else none
      | t => (asD p.1).bind fun x => (bindT t x ρ).bind fun ρ1 => some (.nx ρ1, p.2)
    | .par i j a b => (ev C fuelE a ρ S).bind fun p => (ev C fuelE b ρ p.2).bind fun q => if i < ρ.length ∧ j < ρ.length then some (.nx ((ρ.set i (some p.1)).set j (some q.1)), q.2) else none
    | .par3 i j l a b c => (ev C fuelE a ρ S).bind fun p => (ev C fuelE b ρ p.2).bind fun q => (ev C fuelE c ρ q.2).bind fun r => if i < ρ.length ∧ j < ρ.length ∧ l < ρ.length then some (.nx (((ρ.set i (some p.1)).set j (some q.1)).set l (some r.1)), r.2) else none
    | .setI o i e => (ev C fuelE e ρ S).bind fun p => (ev C fuelE o ρ p.2).bind fun q => (ev C fuelE i ρ q.2).bind fun r => (asD p.1).bind fun x => (asD r.1).bind fun y => (asI y).bind fun k => match q.1 with
      | .r m => match r.2[m]? with
        | some (some xs) => (place xs.length k).bind fun j => some (.nx ρ, r.2.set m (some (xs.set j x)))
        | _ => none
      | _ => none
    | .grid i a v => (ev C fuelE a ρ S).bind fun p => match p.1 with
      | .d (.lst (.lst (_ :: ys) :: r)) => if i < ρ.length then some (.nx (ρ.set i (some (.d (.lst (.lst (v :: ys) :: r))))), p.2) else none
      | _ => none
    | .expr e => (ev C fuelE e ρ S).bind fun p => some (.nx ρ, p.2)
    | .ife c a b => (ev C fuelE c ρ S).bind fun p => (isTrueD p.1).bind fun k => if k = true then exs (ex C n) a ρ p.2 else exs (ex C n) b ρ p.2
    | .for_ t k its body => (evs (ev C fuelE) its ρ S).bind fun p => (walked p.2 k p.1).bind fun xs => forL (ex C n) t body xs ρ p.2
    | .while_ c body => whileL (ev C fuelE) (ex C n) c body fuelW ρ S
    | .ret e => (ev C fuelE e ρ S).bind fun p => some (.ret p.1, p.2)
    | .pass => some (.nx ρ, S)
    | .raise => none
    | .frz i => match ρ[i]? with
      | some (some (.r m)) => match S[m]? with
        | some (some xs) => some (.nx (ρ.set i (some (.d (.lst xs)))), S.set m none)
        | _ => none
      | _ => none
structure Fn where
  name : Str
  ps : List Str
  N : List Str
  body : List Stm
def fuelS : Nat := 20
def finish (n : Nat) (S : Store) : E → Rs E
  | .d x => some (.d x, S.take n)
  | .r m => if m < n then some (.r m, S.take n) else match S[m]? with
    | some (some xs) => some (.r n, S.take n ++ [some xs])
    | _ => none
def callD (T : List Fn) : Nat → Call
  | 0, _, _, _ => none
  | k + 1, f, xs, S => match T[f]? with
    | some fn => if xs.length = fn.ps.length then (exs (ex (callD T k) fuelS) fn.body (xs.map some ++ List.replicate (fn.N.length - xs.length) none) S).bind fun p => match p.1 with
      | .ret x => finish S.length p.2 x
      | .nx _ => some (.d .non, p.2.take S.length) else none
    | none => none
end DL
end

section
set_option autoImplicit false
set_option linter.all false
/-! How plain data lies in the tracked heap. F: what is shut (never changes), G: what others hold, μ: where the open lists of the store lie. -/
namespace DL
open PySem PySem.Spec PyProof.Rows L2

mutual
inductive RepP (K : PySem.W.Frag) (H : Hp) : D → V → Prop
  | non : RepP K H .non .non
  | bl (b : Bool) : RepP K H (.bl b) (.bl b)
  | int (i : Int) : RepP K H (.int i) (.int i)
  | str (x : Str) : RepP K H (.str x) (.str x)
  | tup {a : Addr} {xs : List D} {vs : List V} : SqT K H a vs → RepL K H xs vs → RepP K H (.tup xs) (.ref a)
  | lst {a : Addr} {xs : List D} {vs : List V} : H a = some (.lst vs) → RepL K H xs vs → RepP K H (.lst xs) (.ref a)
  | scr {a : Addr} {xs : List D} {vs : List V} : SqL K H a vs → RepL K H xs vs → RepP K H (.scr xs) (.ref a)
  | dct {a : Addr} {ks : List (Key × D)} {vs : List (Key × V)} : H a = some (.dK vs) → RepK K H ks vs → RepP K H (.dct ks) (.ref a)
inductive RepL (K : PySem.W.Frag) (H : Hp) : List D → List V → Prop
  | nil : RepL K H [] []
  | cons {x : D} {xs : List D} {v : V} {vs : List V} : RepP K H x v → RepL K H xs vs → RepL K H (x :: xs) (v :: vs)
inductive RepK (K : PySem.W.Frag) (H : Hp) : List (Key × D) → List (Key × V) → Prop
  | nil : RepK K H [] []
  | cons {k : Key} {x : D} {xs : List (Key × D)} {v : V} {vs : List (Key × V)} : RepP K H x v → RepK K H xs vs → RepK K H ((k, x) :: xs) ((k, v) :: vs)
end
def Sub (F F' : Hp) : Prop := ∀ (a : Addr) (o : HO), F a = some o → F' a = some o
theorem Sub.refl (F : Hp) : Sub F F := fun _ _ h => h
theorem Sub.trans {F F1 F2 : Hp} (a : Sub F F1) (b : Sub F1 F2) : Sub F F2 := fun c o h => b c o (a c o h)
theorem Sub.sqL {K : PySem.W.Frag} {F F' : Hp} {a : Addr} {xs : List V} (e : Sub F F') (h : SqL K F a xs) : SqL K F' a xs := by
  rcases h with (h | ⟨o, h⟩) | h
  · exact .inl (.inl (e _ _ h))
  · exact .inl (.inr ⟨o, e _ _ h⟩)
  · exact .inr h
theorem Sub.sqT {K : PySem.W.Frag} {F F' : Hp} {a : Addr} {xs : List V} (e : Sub F F') (h : SqT K F a xs) : SqT K F' a xs := by
  rcases h with (h | ⟨o, h⟩) | h
  · exact .inl (.inl (e _ _ h))
  · exact .inl (.inr ⟨o, e _ _ h⟩)
  · exact .inr h
mutual
theorem RepP.mono {K : PySem.W.Frag} {F F' : Hp} (e : Sub F F') : ∀ {x : D} {v : V}, RepP K F x v → RepP K F' x v
  | _, _, .non => .non
  | _, _, .bl b => .bl b
  | _, _, .int b => .int b
  | _, _, .str b => .str b
  | _, _, .tup h r => .tup (e.sqT h) (RepL.mono e r)
  | _, _, .lst h r => .lst (e _ _ h) (RepL.mono e r)
  | _, _, .scr h r => .scr (e.sqL h) (RepL.mono e r)
  | _, _, .dct h r => .dct (e _ _ h) (RepK.mono e r)
theorem RepL.mono {K : PySem.W.Frag} {F F' : Hp} (e : Sub F F') : ∀ {xs : List D} {vs : List V}, RepL K F xs vs → RepL K F' xs vs
  | _, _, .nil => .nil
  | _, _, .cons h r => .cons (RepP.mono e h) (RepL.mono e r)
theorem RepK.mono {K : PySem.W.Frag} {F F' : Hp} (e : Sub F F') : ∀ {xs : List (Key × D)} {vs : List (Key × V)}, RepK K F xs vs → RepK K F' xs vs
  | _, _, .nil => .nil
  | _, _, .cons h r => .cons (RepP.mono e h) (RepK.mono e r)
end
section
variable {K : PySem.W.Frag} {H F : Hp}
theorem RepL.length : ∀ {xs : List D} {vs : List V}, RepL K H xs vs → xs.length = vs.length
  | _, _, .nil => rfl
  | _, _, .cons _ r => congrArg (· + 1) (RepL.length r)
theorem RepL.get : ∀ {xs : List D} {vs : List V} {i : Nat} {x : D}, RepL K H xs vs → xs[i]? = some x → ∃ v, vs[i]? = some v ∧ RepP K H x v
  | _, _, _, _, .nil, h => by simp at h
  | _, _, 0, _, .cons h r, e => by
    simp at e
    subst e
    exact ⟨_, rfl, h⟩
  | _, _, i + 1, _, .cons h r, e => by
    obtain ⟨v, h1, h2⟩ := RepL.get (i := i) r (by simpa using e)
    exact ⟨v, by simpa using h1, h2⟩
theorem RepL.got : ∀ {xs : List D} {vs : List V} {i : Nat} {v : V}, RepL K H xs vs → vs[i]? = some v → ∃ x, xs[i]? = some x ∧ RepP K H x v
  | _, _, _, _, .nil, h => by simp at h
  | _, _, 0, _, .cons h r, e => by
    simp at e
    subst e
    exact ⟨_, rfl, h⟩
  | _, _, i + 1, _, .cons h r, e => by
    obtain ⟨v, h1, h2⟩ := RepL.got (i := i) r (by simpa using e)
    exact ⟨v, by simpa using h1, h2⟩
theorem RepL.append : ∀ {xs ys : List D} {vs ws : List V}, RepL K H xs vs → RepL K H ys ws → RepL K H (xs ++ ys) (vs ++ ws)
  | _, _, _, _, .nil, s => s
  | _, _, _, _, .cons h r, s => .cons h (RepL.append r s)
theorem RepL.take : ∀ {xs : List D} {vs : List V} (n : Nat), RepL K H xs vs → RepL K H (xs.take n) (vs.take n)
  | _, _, 0, _ => by
    rw [List.take_zero, List.take_zero]
    exact .nil
  | _, _, n + 1, .nil => .nil
  | _, _, n + 1, .cons h r => .cons h (RepL.take n r)
theorem RepL.drop : ∀ {xs : List D} {vs : List V} (n : Nat), RepL K H xs vs → RepL K H (xs.drop n) (vs.drop n)
  | _, _, 0, h => h
  | _, _, n + 1, .nil => .nil
  | _, _, n + 1, .cons h r => RepL.drop n r
theorem RepL.set {x : D} {v : V} (q : RepP K H x v) : ∀ {xs : List D} {vs : List V} (n : Nat), RepL K H xs vs → RepL K H (xs.set n x) (vs.set n v)
  | _, _, _, .nil => .nil
  | _, _, 0, .cons h r => .cons q r
  | _, _, n + 1, .cons h r => .cons h (RepL.set q n r)
theorem RepL.erase : ∀ {xs : List D} {vs : List V} (n : Nat), RepL K H xs vs → RepL K H (xs.eraseIdx n) (vs.eraseIdx n)
  | _, _, _, .nil => .nil
  | _, _, 0, .cons h r => r
  | _, _, n + 1, .cons h r => .cons h (RepL.erase n r)
theorem RepL.rep : ∀ {xs : List D} {vs : List V} (k : Nat), RepL K H xs vs → RepL K H (List.replicate k xs).flatten (List.replicate k vs).flatten
  | _, _, 0, _ => .nil
  | _, _, k + 1, h => by
    rw [List.replicate_succ, List.replicate_succ, List.flatten_cons, List.flatten_cons]
    exact h.append (RepL.rep k h)
theorem RepL.ofInts : ∀ ns : List Int, RepL K H (ns.map .int) (ns.map .int)
  | [] => .nil
  | n :: r => .cons (.int n) (RepL.ofInts r)
theorem RepL.isInts : ∀ {xs : List D} {vs : List V} {ns : List Int}, RepL K H xs vs → intsOf xs = some ns → vs = ns.map V.int ∧ xs = ns.map D.int
  | _, _, ns, .nil, h => by
    cases h
    exact ⟨rfl, rfl⟩
  | x :: xs, v :: vs, ns, .cons h r, e => by
    cases h with
    | int i =>
      unfold intsOf at e
      cases q : intsOf xs with
      | none =>
        rw [q] at e
        cases e
      | some ms =>
        rw [q] at e
        cases e
        obtain ⟨h1, h2⟩ := RepL.isInts r q
        exact ⟨by rw [h1]; rfl, by rw [h2]; rfl⟩
    | non => cases e
    | bl _ => cases e
    | str _ => cases e
    | tup _ _ => cases e
    | lst _ _ => cases e
    | dct _ _ => cases e
    | scr _ _ => cases e
theorem RepL.isBools : ∀ {xs : List D} {vs : List V} {ns : List Bool}, RepL K H xs vs → boolsOf xs = some ns → vs = ns.map V.bl
  | _, _, ns, .nil, h => by
    cases h
    rfl
  | x :: xs, v :: vs, ns, .cons h r, e => by
    cases h with
    | bl i =>
      unfold boolsOf at e
      cases q : boolsOf xs with
      | none =>
        rw [q] at e
        cases e
      | some ms =>
        rw [q] at e
        cases e
        rw [RepL.isBools r q]
        rfl
    | non => cases e
    | int _ => cases e
    | str _ => cases e
    | tup _ _ => cases e
    | lst _ _ => cases e
    | dct _ _ => cases e
    | scr _ _ => cases e
theorem RepL.isStrs : ∀ {xs : List D} {vs : List V} {ns : List Str}, RepL K H xs vs → strsOf xs = some ns → vs = ns.map V.str
  | _, _, ns, .nil, h => by
    cases h
    rfl
  | x :: xs, v :: vs, ns, .cons h r, e => by
    cases h with
    | str i =>
      unfold strsOf at e
      cases q : strsOf xs with
      | none =>
        rw [q] at e
        cases e
      | some ms =>
        rw [q] at e
        cases e
        rw [RepL.isStrs r q]
        rfl
    | non => cases e
    | int _ => cases e
    | bl _ => cases e
    | tup _ _ => cases e
    | lst _ _ => cases e
    | dct _ _ => cases e
    | scr _ _ => cases e
end
/-! ### plain data as the layer's -/
mutual
theorem RepP.dp {K : PySem.W.Frag} {H : Hp} : ∀ {x : D} {v : V}, RepP K H x v → x.flat = true → Dp K H v x.py
  | _, _, .non, _ => .non
  | _, _, .bl b, _ => .bl b
  | _, _, .int b, _ => .int b
  | _, _, .str b, _ => .str b
  | _, _, .tup h r, f => .tup h (RepL.dp r (by simpa [D.flat] using f))
  | _, _, .lst h r, f => .lst (.inl (.inl h)) (RepL.dp r (by simpa [D.flat] using f))
  | _, _, .scr h r, f => by simp [D.flat] at f
  | _, _, .dct h r, f => by simp [D.flat] at f
theorem RepL.dp {K : PySem.W.Frag} {H : Hp} : ∀ {xs : List D} {vs : List V}, RepL K H xs vs → D.flats xs = true → DpAll K H vs (D.pys xs)
  | _, _, .nil, _ => .nil
  | _, _, .cons h r, f => by
    rw [D.flats, Bool.and_eq_true] at f
    exact .cons (RepP.dp h f.1) (RepL.dp r f.2)
end
/-! ### the state -/
structure Rel (K : PySem.W.Frag) (F G : Hp) (μ : Nat → Addr) (S : Store) (H : Hp) : Prop where
  fr : Sub F H
  gr : Sub G H
  gf : ∀ (a : Addr) (o : HO), G a = some o → F a = none
  st : ∀ (n : Nat) (xs : List D), S[n]? = some (some xs) → ∃ vs, H (μ n) = some (.lst vs) ∧ RepL K F xs vs
  nf : ∀ (n : Nat) (xs : List D), S[n]? = some (some xs) → F (μ n) = none
  ng : ∀ (n : Nat) (xs : List D), S[n]? = some (some xs) → G (μ n) = none
  inj : ∀ (n m : Nat) (xs ys : List D), S[n]? = some (some xs) → S[m]? = some (some ys) → μ n = μ m → n = m
structure Ext (F : Hp) (μ : Nat → Addr) (S : Store) (F' : Hp) (μ' : Nat → Addr) (S' : Store) : Prop where
  f : Sub F F'
  m : ∀ n, n < S.length → μ' n = μ n
  l : S.length ≤ S'.length
theorem Ext.refl (F : Hp) (μ : Nat → Addr) (S : Store) : Ext F μ S F μ S := ⟨Sub.refl F, fun _ _ => rfl, Nat.le_refl _⟩
theorem Ext.trans {F F1 F2 : Hp} {μ μ1 μ2 : Nat → Addr} {S S1 S2 : Store} (a : Ext F μ S F1 μ1 S1) (b : Ext F1 μ1 S1 F2 μ2 S2) : Ext F μ S F2 μ2 S2 :=
  ⟨a.f.trans b.f, fun n h => (b.m n (Nat.lt_of_lt_of_le h a.l)).trans (a.m n h), Nat.le_trans a.l b.l⟩
def RepE (K : PySem.W.Frag) (F : Hp) (μ : Nat → Addr) (S : Store) : E → V → Prop
  | .d x, v => RepP K F x v
  | .r n, v => n < S.length ∧ v = .ref (μ n)
theorem RepE.mono {K : PySem.W.Frag} {F F' : Hp} {μ μ' : Nat → Addr} {S S' : Store} (e : Ext F μ S F' μ' S') {x : E} {v : V} (h : RepE K F μ S x v) : RepE K F' μ' S' x v := by
  cases x with
  | d x => exact RepP.mono e.f h
  | r n => exact ⟨Nat.lt_of_lt_of_le h.1 e.l, by rw [h.2, e.m n h.1]⟩
structure RelEnv (K : PySem.W.Frag) (F : Hp) (μ : Nat → Addr) (S : Store) (ρ : Env) (σ : L2.St) : Prop where
  len : ρ.length = σ.length
  at_ : ∀ (i : Nat) (x : E), ρ[i]? = some (some x) → ∃ v, σ[i]? = some (some v) ∧ RepE K F μ S x v
section
variable {K : PySem.W.Frag} {F F' G H H' : Hp} {μ μ' : Nat → Addr} {S S' : Store} {ρ : Env} {σ : L2.St}
theorem RelEnv.mono (r : RelEnv K F μ S ρ σ) (e : Ext F μ S F' μ' S') : RelEnv K F' μ' S' ρ σ :=
  ⟨r.len, fun i x h => by
    obtain ⟨v, h1, h2⟩ := r.at_ i x h
    exact ⟨v, h1, h2.mono e⟩⟩
theorem RelEnv.set (r : RelEnv K F μ S ρ σ) {x : E} {v : V} (h : RepE K F μ S x v) (i : Nat) : RelEnv K F μ S (ρ.set i (some x)) (σ.set i (some v)) := by
  refine ⟨by rw [List.length_set, List.length_set, r.len], fun j y hj => ?_⟩
  by_cases e : i = j
  · subst e
    by_cases hi : i < ρ.length
    · rw [List.getElem?_set_self hi] at hj
      have hy : x = y := Option.some.inj (Option.some.inj hj)
      subst hy
      exact ⟨v, List.getElem?_set_self (by rw [← r.len]; exact hi), h⟩
    · rw [List.getElem?_eq_none (by rw [List.length_set]; omega)] at hj
      cases hj
  · rw [List.getElem?_set_ne e] at hj
    obtain ⟨w, h1, h2⟩ := r.at_ j y hj
    exact ⟨w, by rw [List.getElem?_set_ne e]; exact h1, h2⟩
theorem RelEnv.unset (r : RelEnv K F μ S ρ σ) (i : Nat) : RelEnv K F μ S (ρ.set i none) (σ.set i none) := by
  refine ⟨by rw [List.length_set, List.length_set, r.len], fun j y hj => ?_⟩
  by_cases e : i = j
  · subst e
    by_cases hi : i < ρ.length
    · rw [List.getElem?_set_self hi] at hj
      cases hj
    · rw [List.getElem?_eq_none (by rw [List.length_set]; omega)] at hj
      cases hj
  · rw [List.getElem?_set_ne e] at hj
    obtain ⟨w, h1, h2⟩ := r.at_ j y hj
    exact ⟨w, by rw [List.getElem?_set_ne e]; exact h1, h2⟩
theorem RelEnv.wipe (r : RelEnv K F μ S ρ σ) : ∀ vs : List Nat, RelEnv K F μ S (DL.wipe ρ vs) (L2.wipe σ vs)
  | [] => r
  | v :: vs => (RelEnv.wipe r vs).unset v
/-- a new shut object -/
theorem Rel.shut {p : Addr} {o : HO} (r : Rel K F G μ S H) (hp : H p = none) : Rel K (upd F p o) G μ S (upd H p o) := by
  have fp : ∀ a u, F a = some u → a ≠ p := fun a u e => ne_of_none (r.fr _ _ e) hp
  have gp : ∀ a u, G a = some u → a ≠ p := fun a u e => ne_of_none (r.gr _ _ e) hp
  have sf : Sub F (upd F p o) := fun a u e => by
    rw [upd_ne (fp a u e)]
    exact e
  have sp : ∀ n xs, S[n]? = some (some xs) → μ n ≠ p := fun n xs e => by
    obtain ⟨vs, h1, _⟩ := r.st n xs e
    exact ne_of_none h1 hp
  refine ⟨fun a u e => ?_, fun a u e => ?_, fun a u e => ?_, fun n xs e => ?_, fun n xs e => ?_, r.ng, r.inj⟩
  · by_cases h : a = p
    · subst h
      rw [upd_same] at e ⊢
      exact e
    · rw [upd_ne h] at e ⊢
      exact r.fr _ _ e
  · rw [upd_ne (gp a u e)]
    exact r.gr _ _ e
  · rw [upd_ne (gp a u e)]
    exact r.gf _ _ e
  · obtain ⟨vs, h1, h2⟩ := r.st n xs e
    exact ⟨vs, by rw [upd_ne (sp n xs e)]; exact h1, h2.mono sf⟩
  · rw [upd_ne (sp n xs e)]
    exact r.nf n xs e
theorem Ext.shut {p : Addr} {o : HO} (hp : F p = none) (S : Store) (μ : Nat → Addr) : Ext F μ S (upd F p o) μ S :=
  ⟨fun a u e => by
    rw [upd_ne (ne_of_none e hp)]
    exact e, fun _ _ => rfl, Nat.le_refl _⟩
theorem Rel.free {p : Addr} (r : Rel K F G μ S H) (hp : H p = none) : F p = none := by
  cases q : F p with
  | none => rfl
  | some o =>
    rw [r.fr _ _ q] at hp
    cases hp
theorem Rel.freeG {p : Addr} (r : Rel K F G μ S H) (hp : H p = none) : G p = none := by
  cases q : G p with
  | none => rfl
  | some o =>
    rw [r.gr _ _ q] at hp
    cases hp
/-- a new object that nobody speaks of -/
theorem Rel.idle {p : Addr} {o : HO} (r : Rel K F G μ S H) (hp : H p = none) : Rel K F G μ S (upd H p o) := by
  refine ⟨fun a u e => ?_, fun a u e => ?_, r.gf, fun n xs e => ?_, r.nf, r.ng, r.inj⟩
  · rw [upd_ne (ne_of_none (r.fr _ _ e) hp)]
    exact r.fr _ _ e
  · rw [upd_ne (ne_of_none (r.gr _ _ e) hp)]
    exact r.gr _ _ e
  · obtain ⟨vs, h1, h2⟩ := r.st n xs e
    exact ⟨vs, by rw [upd_ne (ne_of_none h1 hp)]; exact h1, h2⟩
def put (μ : Nat → Addr) (n : Nat) (p : Addr) : Nat → Addr := fun m => if m = n then p else μ m
theorem put_same (μ : Nat → Addr) (n : Nat) (p : Addr) : put μ n p n = p := if_pos rfl
theorem put_ne {μ : Nat → Addr} {n m : Nat} {p : Addr} (h : m ≠ n) : put μ n p m = μ m := if_neg h
theorem getElem?_snoc_lt {α : Type} {S : List α} {x : α} {n : Nat} (h : n < S.length) : (S ++ [x])[n]? = S[n]? := List.getElem?_append_left h
theorem getElem?_snoc_eq {α : Type} {S : List α} {x : α} : (S ++ [x])[S.length]? = some x := by simp
theorem snoc_cases {α : Type} {S : List α} {x y : α} {n : Nat} (h : (S ++ [x])[n]? = some y) : (n < S.length ∧ S[n]? = some y) ∨ (n = S.length ∧ y = x) := by
  by_cases hn : n < S.length
  · rw [getElem?_snoc_lt hn] at h
    exact .inl ⟨hn, h⟩
  · by_cases he : n = S.length
    · subst he
      rw [getElem?_snoc_eq] at h
      exact .inr ⟨rfl, (Option.some.inj h).symm⟩
    · rw [List.getElem?_eq_none (by rw [List.length_append, List.length_singleton]; omega)] at h
      cases h
/-- a new open list -/
theorem Rel.open_ {p : Addr} {xs : List D} {vs : List V} (r : Rel K F G μ S H) (hp : H p = none) (h : RepL K F xs vs) : Rel K F G (put μ S.length p) (S ++ [some xs]) (upd H p (.lst vs)) := by
  have np : ∀ n ys, S[n]? = some (some ys) → n ≠ S.length := fun n ys e z => by
    rw [z, List.getElem?_eq_none (Nat.le_refl _)] at e
    cases e
  have mp : ∀ n ys, S[n]? = some (some ys) → μ n ≠ p := fun n ys e => by
    obtain ⟨ws, h1, _⟩ := r.st n ys e
    exact ne_of_none h1 hp
  refine ⟨fun a u e => ?_, fun a u e => ?_, r.gf, fun n ys e => ?_, fun n ys e => ?_, fun n ys e => ?_, fun n m ys zs e1 e2 em => ?_⟩
  · rw [upd_ne (ne_of_none (r.fr _ _ e) hp)]
    exact r.fr _ _ e
  · rw [upd_ne (ne_of_none (r.gr _ _ e) hp)]
    exact r.gr _ _ e
  · rcases snoc_cases e with ⟨hn, e⟩ | ⟨e1, e2⟩
    · obtain ⟨ws, h1, h2⟩ := r.st n ys e
      rw [put_ne (np n ys e)]
      exact ⟨ws, by rw [upd_ne (mp n ys e)]; exact h1, h2⟩
    · have ey : ys = xs := Option.some.inj e2
      rw [e1, put_same, ey]
      exact ⟨vs, upd_same, h⟩
  · rcases snoc_cases e with ⟨hn, e⟩ | ⟨rfl, e⟩
    · rw [put_ne (np n ys e)]
      exact r.nf n ys e
    · rw [put_same]
      exact r.free hp
  · rcases snoc_cases e with ⟨hn, e⟩ | ⟨rfl, e⟩
    · rw [put_ne (np n ys e)]
      exact r.ng n ys e
    · rw [put_same]
      exact r.freeG hp
  · rcases snoc_cases e1 with ⟨hn, e1⟩ | ⟨rfl, e1⟩
    · rcases snoc_cases e2 with ⟨hm, e2⟩ | ⟨rfl, e2⟩
      · rw [put_ne (np n ys e1), put_ne (np m zs e2)] at em
        exact r.inj n m ys zs e1 e2 em
      · rw [put_ne (np n ys e1), put_same] at em
        exact absurd em (mp n ys e1)
    · rcases snoc_cases e2 with ⟨hm, e2⟩ | ⟨rfl, e2⟩
      · rw [put_ne (np m zs e2), put_same] at em
        exact absurd em.symm (mp m zs e2)
      · rfl
theorem Ext.open_ (F : Hp) (μ : Nat → Addr) (S : Store) (p : Addr) (xs : List D) : Ext F μ S F (put μ S.length p) (S ++ [some xs]) :=
  ⟨Sub.refl F, fun n h => put_ne (Nat.ne_of_lt h), by rw [List.length_append]; omega⟩
theorem set_cases {α : Type} {S : List α} {x y : α} {n m : Nat} (h : (S.set n x)[m]? = some y) : (m = n ∧ y = x ∧ n < S.length) ∨ (m ≠ n ∧ S[m]? = some y) := by
  by_cases e : n = m
  · subst e
    by_cases hn : n < S.length
    · rw [List.getElem?_set_self hn] at h
      exact .inl ⟨rfl, (Option.some.inj h).symm, hn⟩
    · rw [List.getElem?_eq_none (by rw [List.length_set]; omega)] at h
      cases h
  · rw [List.getElem?_set_ne e] at h
    exact .inr ⟨fun z => e z.symm, h⟩
/-- an open list is written -/
theorem Rel.write {n : Nat} {xs ys : List D} {ws : List V} (r : Rel K F G μ S H) (hn : S[n]? = some (some xs)) (h : RepL K F ys ws) : Rel K F G μ (S.set n (some ys)) (upd H (μ n) (.lst ws)) := by
  obtain ⟨vs, h1, _⟩ := r.st n xs hn
  have live : ∀ m zs, (S.set n (some ys))[m]? = some (some zs) → ∃ us, S[m]? = some (some us) := fun m zs e => by
    rcases set_cases e with ⟨rfl, _, _⟩ | ⟨_, e⟩
    · exact ⟨xs, hn⟩
    · exact ⟨zs, e⟩
  refine ⟨fun a u e => ?_, fun a u e => ?_, r.gf, fun m zs e => ?_, fun m zs e => ?_, fun m zs e => ?_, fun m k zs us e1 e2 em => ?_⟩
  · rw [upd_ne (fun z => by rw [z, r.nf n xs hn] at e; cases e)]
    exact r.fr _ _ e
  · rw [upd_ne (fun z => by rw [z, r.ng n xs hn] at e; cases e)]
    exact r.gr _ _ e
  · rcases set_cases e with ⟨rfl, e, _⟩ | ⟨hm, e⟩
    · cases e
      exact ⟨ws, upd_same, h⟩
    · obtain ⟨us, h2, h3⟩ := r.st m zs e
      exact ⟨us, by rw [upd_ne (fun z => hm (r.inj m n zs xs e hn z))]; exact h2, h3⟩
  · obtain ⟨us, e'⟩ := live m zs e
    exact r.nf m us e'
  · obtain ⟨us, e'⟩ := live m zs e
    exact r.ng m us e'
  · obtain ⟨a, e1'⟩ := live m zs e1
    obtain ⟨b, e2'⟩ := live k us e2
    exact r.inj m k a b e1' e2' em
theorem Ext.set (F : Hp) (μ : Nat → Addr) (S : Store) (n : Nat) (o : Option (List D)) : Ext F μ S F μ (S.set n o) := ⟨Sub.refl F, fun _ _ => rfl, by rw [List.length_set]; exact Nat.le_refl _⟩
/-- an open list is shut -/
theorem Rel.frz {n : Nat} {xs : List D} (r : Rel K F G μ S H) (hn : S[n]? = some (some xs)) : ∃ F', Ext F μ S F' μ (S.set n none) ∧ Rel K F' G μ (S.set n none) H ∧ RepP K F' (.lst xs) (.ref (μ n)) := by
  obtain ⟨vs, h1, h2⟩ := r.st n xs hn
  have sf : Sub F (upd F (μ n) (.lst vs)) := fun a u e => by
    rw [upd_ne (ne_of_none e (r.nf n xs hn))]
    exact e
  have live : ∀ m zs, (S.set n none)[m]? = some (some zs) → m ≠ n ∧ S[m]? = some (some zs) := fun m zs e => by
    rcases set_cases e with ⟨_, e, _⟩ | h
    · cases e
    · exact h
  refine ⟨upd F (μ n) (.lst vs), ⟨sf, fun _ _ => rfl, by rw [List.length_set]; exact Nat.le_refl _⟩, ⟨fun a u e => ?_, r.gr, fun a u e => ?_, fun m zs e => ?_, fun m zs e => ?_, fun m zs e => ?_, fun m k zs us e1 e2 em => ?_⟩, ?_⟩
  · by_cases h : a = μ n
    · subst h
      rw [upd_same] at e
      cases e
      exact h1
    · rw [upd_ne h] at e
      exact r.fr _ _ e
  · rw [upd_ne (fun z => by rw [z, r.ng n xs hn] at e; cases e)]
    exact r.gf _ _ e
  · obtain ⟨hm, e'⟩ := live m zs e
    obtain ⟨us, h3, h4⟩ := r.st m zs e'
    exact ⟨us, h3, h4.mono sf⟩
  · obtain ⟨hm, e'⟩ := live m zs e
    rw [upd_ne (fun z => hm (r.inj m n zs xs e' hn z))]
    exact r.nf m zs e'
  · exact r.ng m zs (live m zs e).2
  · exact r.inj m k zs us (live m zs e1).2 (live k us e2).2 em
  · exact .lst upd_same (h2.mono sf)
/-- behind a call the callee's own lists are forgotten -/
theorem Rel.take (r : Rel K F G μ S H) (n : Nat) : Rel K F G μ (S.take n) H := by
  have live : ∀ m zs, (S.take n)[m]? = some (some zs) → S[m]? = some (some zs) := fun m zs e => by
    by_cases h : m < n
    · rw [List.getElem?_take_of_lt h] at e
      exact e
    · rw [List.getElem?_eq_none (by rw [List.length_take]; omega)] at e
      cases e
  exact ⟨r.fr, r.gr, r.gf, fun m zs e => r.st m zs (live m zs e), fun m zs e => r.nf m zs (live m zs e), fun m zs e => r.ng m zs (live m zs e), fun m k zs us e1 e2 em => r.inj m k zs us (live m zs e1) (live k us e2) em⟩
/-- a value at its moment: an open list is read as it stands -/
inductive RepT (K : PySem.W.Frag) (F H : Hp) : D → V → Prop
  | p {x : D} {v : V} : RepP K F x v → RepT K F H x v
  | l {a : Addr} {xs : List D} {vs : List V} : H a = some (.lst vs) → RepL K F xs vs → RepT K F H (.lst xs) (.ref a)
theorem RepT.now {x : D} {v : V} (r : Rel K F G μ S H) (h : RepT K F H x v) : RepP K H x v := by
  cases h with
  | p h => exact h.mono r.fr
  | l h1 h2 => exact .lst h1 (h2.mono r.fr)
theorem RepT.lst {xs : List D} {v : V} (r : Sub F H) (h : RepT K F H (.lst xs) v) : ∃ a vs, v = .ref a ∧ H a = some (.lst vs) ∧ RepL K F xs vs := by
  cases h with
  | p h =>
    cases h with
    | lst h1 h2 => exact ⟨_, _, rfl, r _ _ h1, h2⟩
  | l h1 h2 => exact ⟨_, _, rfl, h1, h2⟩
theorem RepT.scr {xs : List D} {v : V} (r : Sub F H) (h : RepT K F H (.scr xs) v) : ∃ a vs, v = .ref a ∧ SqL K H a vs ∧ RepL K F xs vs := by
  cases h with
  | p h =>
    cases h with
    | scr h1 h2 => exact ⟨_, _, rfl, r.sqL h1, h2⟩
theorem RepT.sqT {xs : List D} {v : V} (r : Sub F H) (h : RepT K F H (.tup xs) v) : ∃ a vs, v = .ref a ∧ SqT K H a vs ∧ RepL K F xs vs := by
  cases h with
  | p h =>
    cases h with
    | tup h1 h2 => exact ⟨_, _, rfl, r.sqT h1, h2⟩
theorem deref_rep {x : E} {v : V} {d : D} (r : Rel K F G μ S H) (h : RepE K F μ S x v) (e : deref S x = some d) : RepT K F H d v := by
  cases x with
  | d x =>
    cases e
    exact .p h
  | r n =>
    unfold deref at e
    simp only at e
    split at e
    · rename_i xs hn
      cases e
      obtain ⟨vs, h1, h2⟩ := r.st n xs hn
      rw [h.2]
      exact .l h1 h2
    · cases e
end
end DL
end

section
set_option autoImplicit false
set_option linter.all false
/-! The tongue against the text: chk. -/
namespace DL
open PySem PySem.Spec PyProof.Rows L2

structure Prm where
  T : List Fn
  cs : List (Str × D)
  bi : List Str
def okHead : Expr → Bool
  | .Starred _ _ => false
  | .Slice _ _ _ _ => false
  | .Set _ _ _ => false
  | .SetComp _ _ _ _ => false
  | .DictComp _ _ _ _ _ => false
  | .GeneratorExp _ _ _ _ => false
  | .NamedExpr _ _ _ => false
  | .Lambda _ _ _ _ => false
  | .Await _ _ => false
  | .Yield _ _ => false
  | .YieldFrom _ _ => false
  | .Call (.Name x _) [] [] _ => !(x == ("super" : Str))
  | _ => true
def visC (sc : Scope) (x : Str) : Bool := match sc.names.lookup x with
  | some .local => true
  | some .cell => true
  | some .free => true
  | _ => false
def glC (sc : Scope) (x : Str) : Bool := match sc.names.lookup x with
  | some .globalImplicit => true
  | _ => false
def isLoc (sc : Scope) (x : Str) : Bool := match sc.names.lookup x with
  | some .local => true
  | _ => false
def isCell (sc : Scope) (x : Str) : Bool := match sc.names.lookup x with
  | some .cell => true
  | _ => false
/-- may be stored here: a local name, or a cell of the block's own -/
def stoC (sc s0 : Scope) (x : Str) : Bool := isLoc sc x || (isCell sc x && isCell s0 x)
def okName (x : Str) : Bool := !(x == ("__debug__" : Str)) && !(x == ("__classdict__" : Str)) && decide (x ≠ "__name__")
def cstIs : D → Const → Bool
  | .non, .none => true
  | .bl a, .bool b => a == b
  | .int a, .int b => decide (a = b)
  | .str a, .str b => decide (a = b)
  | _, _ => false
def leafIs : D → D → Bool
  | .non, .non => true
  | .bl a, .bl b => a == b
  | .int a, .int b => decide (a = b)
  | .str a, .str b => decide (a = b)
  | _, _ => false
theorem leafIs_eq : ∀ {x y : D}, leafIs x y = true → x = y ∧ isLeaf y = true
  | .non, .non, _ => ⟨rfl, rfl⟩
  | .bl a, .bl b, h => by
    simp [leafIs] at h
    exact ⟨by rw [h], rfl⟩
  | .int a, .int b, h => ⟨by rw [of_decide_eq_true h], rfl⟩
  | .str a, .str b, h => ⟨by rw [of_decide_eq_true h], rfl⟩
  | .non, .bl _, h | .non, .int _, h | .non, .str _, h | .non, .tup _, h | .non, .lst _, h | .non, .dct _, h | .non, .scr _, h => by cases h
  | .bl _, .non, h | .bl _, .int _, h | .bl _, .str _, h | .bl _, .tup _, h | .bl _, .lst _, h | .bl _, .dct _, h | .bl _, .scr _, h => by cases h
  | .int _, .non, h | .int _, .bl _, h | .int _, .str _, h | .int _, .tup _, h | .int _, .lst _, h | .int _, .dct _, h | .int _, .scr _, h => by cases h
  | .str _, .non, h | .str _, .bl _, h | .str _, .int _, h | .str _, .tup _, h | .str _, .lst _, h | .str _, .dct _, h | .str _, .scr _, h => by cases h
  | .tup _, _, h | .lst _, _, h | .dct _, _, h | .scr _, _, h => by cases h
def binIs : O2 → Operator → Bool
  | .add, .Add => true
  | .sub, .Sub => true
  | .mul, .Mult => true
  | .fdiv, .FloorDiv => true
  | .mod, .Mod => true
  | .pow, .Pow => true
  | .shl, .LShift => true
  | .shr, .RShift => true
  | .band, .BitAnd => true
  | .catT, .Add => true
  | .catL, .Add => true
  | .catS, .Add => true
  | .repL, .Mult => true
  | _, _ => false
def cmpIs : O2 → CmpOp → Bool
  | .eq, .Eq => true
  | .ne, .NotEq => true
  | .lt, .Lt => true
  | .le, .LtE => true
  | .gt, .Gt => true
  | .ge, .GtE => true
  | .isIn, .In => true
  | .notIn, .NotIn => true
  | _, _ => false
/-- built-in functions (true) and types (false) of one argument -/
def o1Nm : O1 → Option (String × Bool)
  | .len => some ("len", true)
  | .sum => some ("sum", true)
  | .sumT => some ("sum", true)
  | .all => some ("all", true)
  | .any => some ("any", true)
  | .abs => some ("abs", true)
  | .int => some ("int", false)
  | .str => some ("str", false)
  | .repr => some ("repr", true)
  | .tupleL => some ("tuple", false)
  | .tupleT => some ("tuple", false)
  | .listL => some ("list", false)
  | .listT => some ("list", false)
  | .sortedI => some ("sorted", true)
  | .minL => some ("min", true)
  | .maxL => some ("max", true)
  | _ => none
def tyNm : Ty → String
  | .int => "int"
  | .bool => "bool"
  | .str => "str"
  | .tuple => "tuple"
  | .list => "list"
  | .dict => "dict"
def bopE : BoolOp → List Expr → Pos → Expr
  | _, [e], _ => e
  | op, es, pos => .BoolOp op es pos
/-- a built-in's name here -/
def biC (P : Prm) (sc : Scope) (x : Str) (nm : String) : Bool := decide (x = (nm : Str)) && P.bi.contains x && glC sc x && okName x
def isFresh : Tm → Bool
  | .lst _ => true
  | .lc _ _ _ _ _ _ => true
  | .o2 .catL _ _ => true
  | .o2 .repL _ _ => true
  | .slL _ _ _ => true
  | .o1 .listL _ => true
  | .o1 .listT _ => true
  | .o1 .sortedI _ => true
  | .lstRg1 _ => true
  | .lstRg2 _ _ => true
  | .sortSetT _ => true
  | _ => false
def tupTarget : Expr → Bool
  | .Tuple _ _ _ => true
  | _ => false
mutual
def chkG (N : List Str) (sc s0 : Scope) : Tg → Expr → Bool
  | .nm i, .Name x _ => decide (N[i]? = some x) && stoC sc s0 x
  | .tp ts, .Tuple es _ _ => chkGs N sc s0 ts es
  | _, _ => false
def chkGs (N : List Str) (sc s0 : Scope) : List Tg → List Expr → Bool
  | [], [] => true
  | t :: ts, .Starred _ _ :: es => false
  | t :: ts, e :: es => chkG N sc s0 t e && chkGs N sc s0 ts es
  | _, _ => false
end
/-- all the target's places are the block's own -/
def tgIn : Nat → Tg → List Nat → Bool
  | _, .nm i, own => own.contains i
  | 0, .tp _, _ => false
  | n + 1, .tp ts, own => ts.all fun t => tgIn n t own
abbrev Ck := Scope → Scope → Tm → Expr → Bool
def chkAll (g : Tm → Expr → Bool) : List Tm → List Expr → Bool
  | [], [] => true
  | t :: ts, e :: es => g t e && chkAll g ts es
  | _, _ => false
def chkO (g : Tm → Expr → Bool) : Option Tm → Option Expr → Bool
  | none, none => true
  | some t, some e => g t e
  | _, _ => false
def chkI (P : Prm) (g : Tm → Expr → Bool) (sc : Scope) (tgE : Expr) : IK → List Tm → Expr → Bool
  | .lst, [a], e => okHead e && g a e
  | .tup, [a], e => okHead e && g a e
  | .rng1, [a], .Call (.Name x _) [ea] [] _ => biC P sc x "range" && g a ea
  | .rng2, [a, b], .Call (.Name x _) [ea, eb] [] _ => biC P sc x "range" && g a ea && g b eb
  | .enumL, [a], .Call (.Name x _) [ea] [] _ => biC P sc x "enumerate" && g a ea && tupTarget tgE
  | .zipLL, [a, b], .Call (.Name x _) [ea, eb] [] _ => biC P sc x "zip" && g a ea && g b eb && tupTarget tgE
  | .enumT, [a], .Call (.Name x _) [ea] [] _ => biC P sc x "enumerate" && g a ea && tupTarget tgE
  | .zipTT, [a, b], .Call (.Name x _) [ea, eb] [] _ => biC P sc x "zip" && g a ea && g b eb && tupTarget tgE
  | _, _, _ => false
def notIfE : Expr → Bool
  | .IfExp _ _ _ _ => false
  | _ => true
/-- as a test -/
def chkT (g : Tm → Expr → Bool) : Nat → Tm → Expr → Bool
  | 0, _, _ => false
  | n + 1, .and a b, .BoolOp .And (ea :: eb :: es) pos => chkT g n a ea && chkT g n b (bopE .And (eb :: es) pos)
  | n + 1, .or a b, .BoolOp .Or (ea :: eb :: es) pos => chkT g n a ea && chkT g n b (bopE .Or (eb :: es) pos)
  | n + 1, .not a, .UnaryOp .Not ea _ => chkT g n a ea
  | _ + 1, _, .BoolOp _ _ _ => false
  | _ + 1, _, .IfExp _ _ _ _ => false
  | _ + 1, _, .UnaryOp .Not _ _ => false
  | _ + 1, t, e => g t e
abbrev Ck1 := Tm → Expr → Bool
def ckVar (N : List Str) (sc : Scope) (i : Nat) : Expr → Bool
  | .Name x _ => decide (N[i]? = some x) && visC sc x && okName x
  | _ => false
def ckCst (x : D) : Expr → Bool
  | .Constant c _ _ => cstIs x c
  | _ => false
def ckGlob (P : Prm) (sc : Scope) (y : Str) (v : D) : Expr → Bool
  | .Name x _ => decide (y = x) && glC sc x && okName x && P.cs.any fun p => decide (p.1 = x) && leafIs v p.2
  | _ => false
def ckO2 (g : Ck1) (o : O2) (a b : Tm) : Expr → Bool
  | .BinOp ea op eb _ => binIs o op && g a ea && g b eb
  | .Compare ea [op] [eb] _ => cmpIs o op && g a ea && g b eb && !behindInMarks op eb
  | _ => false
def ckChain (g : Ck1) (o o' : O2) (a b c : Tm) : Expr → Bool
  | .Compare ea [op, op'] [eb, ec] _ => cmpIs o op && cmpIs o' op' && g a ea && g b eb && g c ec && !behindInMarks op' ec
  | _ => false
def ckIsN (g : Ck1) (a : Tm) : Expr → Bool
  | .Compare ea [.Is] [.Constant .none _ _] _ => g a ea
  | _ => false
def ckNotN (g : Ck1) (a : Tm) : Expr → Bool
  | .Compare ea [.IsNot] [.Constant .none _ _] _ => g a ea
  | _ => false
def ckIsB (g : Ck1) (b : Bool) (a : Tm) : Expr → Bool
  | .Compare ea [.Is] [.Constant (.bool c) _ _] _ => (b == c) && g a ea
  | _ => false
def ckNotB (g : Ck1) (b : Bool) (a : Tm) : Expr → Bool
  | .Compare ea [.IsNot] [.Constant (.bool c) _ _] _ => (b == c) && g a ea
  | _ => false
def ckAnd (g : Ck1) (a b : Tm) : Expr → Bool
  | .BoolOp .And (ea :: eb :: es) pos => g a ea && g b (bopE .And (eb :: es) pos)
  | _ => false
def ckOr (g : Ck1) (a b : Tm) : Expr → Bool
  | .BoolOp .Or (ea :: eb :: es) pos => g a ea && g b (bopE .Or (eb :: es) pos)
  | _ => false
def ckNot (g : Ck1) (a : Tm) : Expr → Bool
  | .UnaryOp .Not ea _ => g a ea
  | _ => false
def ckIte (g : Ck1) (c a b : Tm) : Expr → Bool
  | .IfExp ec ea eb _ => chkT g 20 c ec && g a ea && g b eb
  | _ => false
def ckO1 (P : Prm) (g : Ck1) (sc : Scope) (o : O1) (a : Tm) : Expr → Bool
  | .UnaryOp .USub ea _ => (match o with | .neg => true | _ => false) && g a ea
  | .Call (.Name x _) [ea] [] _ => (match o1Nm o with | some (nm, _) => biC P sc x nm | none => false) && g a ea
  | _ => false
def ckM2 (P : Prm) (g : Ck1) (sc : Scope) (nm : String) (a b : Tm) : Expr → Bool
  | .Call (.Name x _) [ea, eb] [] _ => biC P sc x nm && g a ea && g b eb
  | _ => false
def ckIsa (P : Prm) (g : Ck1) (sc : Scope) (k : Ty) (a : Tm) : Expr → Bool
  | .Call (.Name x _) [ea, .Name y _] [] _ => biC P sc x "isinstance" && biC P sc y (tyNm k) && g a ea
  | _ => false
def fnIs (P : Prm) (f : Nat) (x : Str) : Bool := match P.T[f]? with
  | some fn => decide (fn.name = x)
  | none => false
def fnKs (P : Prm) (f : Nat) (ks : List (Option Str)) : Bool := match P.T[f]? with
  | some fn => decide (ks = fn.ps.map some)
  | none => false
def ckCall (P : Prm) (g : Ck1) (sc : Scope) (f : Nat) (as : List Tm) : Expr → Bool
  | .Call (.Name x _) es [] _ => fnIs P f x && glC sc x && okName x && chkAll g as es
  | _ => false
def ckCallK (P : Prm) (g : Ck1) (sc : Scope) (f : Nat) (as : List Tm) : Expr → Bool
  | .Call (.Name x _) [] kws _ => fnIs P f x && fnKs P f (kws.map (·.arg)) && glC sc x && okName x && chkAll g as (kws.map (·.value))
  | _ => false
def ckTup (g : Ck1) (as : List Tm) : Expr → Bool
  | .Tuple es _ _ => chkAll g as es
  | _ => false
def ckLst (g : Ck1) (as : List Tm) : Expr → Bool
  | .List es _ => chkAll g as es
  | _ => false
def ckIdx (g : Ck1) (a b : Tm) : Expr → Bool
  | .Subscript ea eb _ => g a ea && g b eb
  | _ => false
def ckSl (g : Ck1) (a : Tm) (lo hi : Option Tm) : Expr → Bool
  | .Subscript ea (.Slice el eh none _) _ => g a ea && chkO g lo el && chkO g hi eh
  | _ => false
def chkIfs (g : Ck1) : List Tm → List Expr → Bool
  | [], [] => true
  | [c], [ce] => chkT g 20 c ce
  | _, _ => false
def ckLc (P : Prm) (N : List Str) (g : Scope → Scope → Ck1) (sc s0 : Scope) (elt : Tm) (tg : Tg) (k : IK) (its ifs : List Tm) (own : List Nat) : Expr → Bool
  | .ListComp eE [⟨tgE, itE, ifE, 0⟩] scope _ => chkI P (g sc s0) sc tgE k its itE && blkC N sc scope (own.map fun i => (N.getD i default, i)) && chkG N (relS scope sc) scope tg tgE && tgIn 5 tg own
      && chkIfs (g (relS scope sc) scope) ifs ifE && g (relS scope sc) scope elt eE
  | _ => false
def ckMt (g : Ck1) (nm : String) (a b : Tm) : Expr → Bool
  | .Call (.Attribute ea m apos) [eb] [] cpos => decide (m = (nm : Str)) && (apos.endLine == cpos.line) && g a ea && g b eb
  | _ => false
def ckRg1 (P : Prm) (g : Ck1) (sc : Scope) (a : Tm) : Expr → Bool
  | .Call (.Name x _) [.Call (.Name y _) [ea] [] _] [] _ => biC P sc x "list" && biC P sc y "range" && g a ea
  | _ => false
def ckRg2 (P : Prm) (g : Ck1) (sc : Scope) (a b : Tm) : Expr → Bool
  | .Call (.Name x _) [.Call (.Name y _) [ea, eb] [] _] [] _ => biC P sc x "list" && biC P sc y "range" && g a ea && g b eb
  | _ => false
def ckTupZ (P : Prm) (g : Ck1) (sc : Scope) (a b : Tm) : Expr → Bool
  | .Call (.Name x _) [.Call (.Name y _) [ea, eb] [] _] [] _ => biC P sc x "tuple" && biC P sc y "zip" && g a ea && g b eb
  | _ => false
def ckSoS (P : Prm) (g : Ck1) (sc : Scope) (a : Tm) : Expr → Bool
  | .Call (.Name x _) [.Call (.Name y _) [ea] [] _] [] _ => biC P sc x "sorted" && biC P sc y "set" && g a ea
  | _ => false
def ckDiL (P : Prm) (g : Ck1) (sc : Scope) (a : Tm) : Expr → Bool
  | .Call (.Name x _) [ea] [] _ => biC P sc x "dict" && g a ea
  | _ => false
def chkE (P : Prm) (N : List Str) : Nat → Ck
  | 0, _, _, _, _ => false
  | n + 1, sc, s0, t, e => okHead e && match t with
    | .var i => ckVar N sc i e
    | .cst x => ckCst x e
    | .glob y v => ckGlob P sc y v e
    | .o2 o a b => ckO2 (chkE P N n sc s0) o a b e
    | .chain o o' a b c => ckChain (chkE P N n sc s0) o o' a b c e
    | .isN a => ckIsN (chkE P N n sc s0) a e
    | .notN a => ckNotN (chkE P N n sc s0) a e
    | .isB b a => ckIsB (chkE P N n sc s0) b a e
    | .notB b a => ckNotB (chkE P N n sc s0) b a e
    | .and a b => ckAnd (chkE P N n sc s0) a b e
    | .or a b => ckOr (chkE P N n sc s0) a b e
    | .not a => ckNot (chkE P N n sc s0) a e
    | .ite c a b => ckIte (chkE P N n sc s0) c a b e
    | .o1 o a => ckO1 P (chkE P N n sc s0) sc o a e
    | .max2 a b => ckM2 P (chkE P N n sc s0) sc "max" a b e
    | .min2 a b => ckM2 P (chkE P N n sc s0) sc "min" a b e
    | .isa k a => ckIsa P (chkE P N n sc s0) sc k a e
    | .call f as => ckCall P (chkE P N n sc s0) sc f as e
    | .callK f as => ckCallK P (chkE P N n sc s0) sc f as e
    | .tup as => ckTup (chkE P N n sc s0) as e
    | .lst as => ckLst (chkE P N n sc s0) as e
    | .idxL a b => ckIdx (chkE P N n sc s0) a b e
    | .idxT a b => ckIdx (chkE P N n sc s0) a b e
    | .slL a lo hi => ckSl (chkE P N n sc s0) a lo hi e
    | .slT a lo hi => ckSl (chkE P N n sc s0) a lo hi e
    | .lc elt tg k its ifs own => ckLc P N (chkE P N n) sc s0 elt tg k its ifs own e
    | .app a b => ckMt (chkE P N n sc s0) "append" a b e
    | .ext a b => ckMt (chkE P N n sc s0) "extend" a b e
    | .popAt a b => ckMt (chkE P N n sc s0) "pop" a b e
    | .new a => isFresh a && chkE P N n sc s0 a e
    | .lstRg1 a => ckRg1 P (chkE P N n sc s0) sc a e
    | .lstRg2 a b => ckRg2 P (chkE P N n sc s0) sc a b e
    | .tupZip a b => ckTupZ P (chkE P N n sc s0) sc a b e
    | .sortSetT a => ckSoS P (chkE P N n sc s0) sc a e
    | .dictL a => ckDiL P (chkE P N n sc s0) sc a e
    | .idxD a b => ckIdx (chkE P N n sc s0) a b e
    | .dead => true
def notComp : Expr → Bool
  | .ListComp _ _ _ _ => false
  | .SetComp _ _ _ _ => false
  | .DictComp _ _ _ _ _ => false
  | _ => true
/-- x = [..] exchanged with the comprehension's own: the name a local, on one line -/
def swapC (sc : Scope) (x : Str) (px : Pos) (e : Expr) (line : Nat) : Bool := match e with
  | .ListComp _ _ scope pos => isLoc sc x && (px.line == pos.line) && !(scope.names.any fun (n, k) => n == x && (k == .local || k == .cell))
  | _ => false
def parC (sc : Scope) (x y : Str) (px py : Pos) (a b : Expr) : Bool := isLoc sc x && isLoc sc y && (px.line == py.line) && !(x == y) && !([a, b].all (foldedForSure 8)) && !([a, b].all (constantsAlone 8))
def par3C (sc : Scope) (x y z : Str) (px py pz : Pos) (a b c : Expr) : Bool := isLoc sc x && isLoc sc y && isLoc sc z && (px.line == py.line) && (px.line == pz.line) && !(x == y) && !(x == z) && !(y == z) && !([a, b, c].all (foldedForSure 8)) && !([a, b, c].all (constantsAlone 8))
/-- a target that is no local name -/
def nonLoc (sc : Scope) : Expr → Bool
  | .Name x _ => !isLoc sc x
  | _ => true
def noSwap (sc : Scope) (ts : List Expr) : Expr → Bool
  | .Tuple _ _ _ => ts.any (nonLoc sc)
  | _ => true
abbrev CkS := Stm → Stmt → Bool
/-- the statements in turn; a frz stands for none, a grid for two -/
def chkL (g : CkS) (g2 : Stm → Stmt → Stmt → Bool) : List Stm → List Stmt → Bool
  | [], [] => true
  | .frz _ :: ss, es => chkL g g2 ss es
  | .grid i a v :: ss, e1 :: e2 :: es => g2 (.grid i a v) e1 e2 && chkL g g2 ss es
  | .grid _ _ _ :: _, _ => false
  | s :: ss, e :: es => g s e && chkL g g2 ss es
  | _, _ => false
def isGridLc : Tm → Bool
  | .lc elt _ _ _ [] _ => isFresh elt
  | _ => false
def chkG2 (P : Prm) (N : List Str) (sc : Scope) (ck : Ck1) : Stm → Stmt → Stmt → Bool
  | .grid i a v, .Assign [.Name x px] ve _, .Assign [.Subscript (.Subscript (.Name y _) (.Constant (.int z1) _ _) _) (.Constant (.int z2) _ _) _] (.Constant c _ _) _ =>
    decide (N[i]? = some x) && decide (y = x) && stoC sc sc x && visC sc x && okName x && decide (z1 = 0) && decide (z2 = 0) && cstIs v c && isGridLc a && ck a ve
  | _, _, _ => false
def fuelK : Nat := 60
def chkS (P : Prm) (N : List Str) (sc : Scope) : Nat → CkS
  | 0, _, _ => false
  | n + 1, s, e => match s, e with
    | .asg (.nm i) t, .Assign [.Name x px] ve pos => decide (N[i]? = some x) && stoC sc sc x && chkE P N fuelK sc sc t ve
    | .asg (.tp ts) t, .Assign [.Tuple es k p] ve pos => chkG N sc sc (.tp ts) (.Tuple es k p) && chkE P N fuelK sc sc t ve && notComp ve && noSwap sc es ve
    | .par i j a b, .Assign [.Tuple [.Name x px, .Name y py] _ _] (.Tuple [ea, eb] _ _) _ => decide (N[i]? = some x) && decide (N[j]? = some y) && !(i == j) && parC sc x y px py ea eb && chkE P N fuelK sc sc a ea && chkE P N fuelK sc sc b eb
    | .par3 i j l a b c, .Assign [.Tuple [.Name x px, .Name y py, .Name z pz] _ _] (.Tuple [ea, eb, ec] _ _) _ => decide (N[i]? = some x) && decide (N[j]? = some y) && decide (N[l]? = some z) && !(i == j) && !(i == l) && !(j == l) && par3C sc x y z px py pz ea eb ec && chkE P N fuelK sc sc a ea && chkE P N fuelK sc sc b eb && chkE P N fuelK sc sc c ec
    | .setI o i t, .Assign [.Subscript eo ei _] ve _ => chkE P N fuelK sc sc o eo && chkE P N fuelK sc sc i ei && chkE P N fuelK sc sc t ve
    | .expr t, .Expr ve _ => chkE P N fuelK sc sc t ve && notComp ve
    | .ife c a b, .If ec ea eb _ => chkT (chkE P N fuelK sc sc) 20 c ec && chkL (chkS P N sc n) (chkG2 P N sc (chkE P N fuelK sc sc)) a ea && chkL (chkS P N sc n) (chkG2 P N sc (chkE P N fuelK sc sc)) b eb
    | .for_ t k its body, .For tgE itE bE [] _ => chkI P (chkE P N fuelK sc sc) sc tgE k its itE && chkG N sc sc t tgE && chkL (chkS P N sc n) (chkG2 P N sc (chkE P N fuelK sc sc)) body bE
    | .while_ c body, .While ec bE [] _ => chkT (chkE P N fuelK sc sc) 20 c ec && chkL (chkS P N sc n) (chkG2 P N sc (chkE P N fuelK sc sc)) body bE
    | .ret t, .Return (some ve) _ => chkE P N fuelK sc sc t ve
    | .pass, .Pass _ => true
    | .raise, _ => true
    | _, _ => false
/-- a def of the text -/
def chkF (P : Prm) (fn : Fn) (st : Stmt) : Bool := chkL (chkS P fn.N (defScope st) fuelK) (chkG2 P fn.N (defScope st) (chkE P fn.N fuelK (defScope st) (defScope st))) fn.body (defBody st)
end DL
end

section
set_option autoImplicit false
set_option linter.all false
/-! The readings' canonical forms; the context; what syntax alone decides. -/
namespace DL
open PySem PySem.Spec PyProof.Rows L2

/-! ### canonical readings -/
def sem (X : Cx) (e : Expr) : TE := fun σ H Q => ∀ (pins : List (Addr × Obj)) (s : Shared), Inv X pins σ H s → wpAny (model X.prog X.w) X.A (eval e X.env) (EP X pins σ Q) X.xe s
def semT (X : Cx) (e : Expr) : TT := fun σ H Q => ∀ (pins : List (Addr × Obj)) (s : Shared), Inv X pins σ H s → wpAny (model X.prog X.w) X.A (isTrue e X.env (eval e X.env)) (TP X pins σ Q) X.xe s
def semA (X : Cx) (es : List Expr) : TA := fun σ H Q => ∀ (pos : Pos) (pins : List (Addr × Obj)) (s : Shared), Inv X pins σ H s → wpAny (model X.prog X.w) X.A (spliced (backTo pos (starEach es X.env))) (AP X pins σ Q) X.xe s
def semI (X : Cx) (tg iter : Expr) : TI := fun σ H R => ∀ (pins : List (Addr × Obj)) (s : Shared), Inv X pins σ H s →
  wpAny (model X.prog X.w) X.A (eval iter X.env) (fun v s1 => wpAny (model X.prog X.w) X.A (pyIter v) (PIE X pins σ tg R) X.xe s1) X.xe s
def semS (X : Cx) (st : Stmt) : TS := fun D σ H => ∀ (pins : List (Addr × Obj)) (s : Shared), Inv X pins σ H s → wpAny (model X.prog X.w) X.A (exec st X.env) (SP X pins D) X.xe s
def semSs (X : Cx) (st : List Stmt) : TS := fun D σ H => ∀ (pins : List (Addr × Obj)) (s : Shared), Inv X pins σ H s → wpAny (model X.prog X.w) X.A (execs st X.env) (SP X pins D) X.xe s
section
variable {X : Cx} {e : Expr} {es : List Expr} {σ : L2.St} {H : Hp}
theorem pe_sem : PE X e (sem X e) := ⟨fun pins s σ H Q I h => h pins s I⟩
theorem pt_sem : PT X e (semT X e) := ⟨fun pins s σ H Q I h => h pins s I⟩
theorem pa_sem : PA X es (semA X es) := ⟨fun pos pins s σ H Q I h => h pos pins s I⟩
theorem pi_sem {tg : Expr} : PI X tg e (semI X tg e) := ⟨fun pins s σ H Q I h => h pins s I⟩
theorem ps_sem {st : Stmt} : PS X st (semS X st) := ⟨fun pins s σ H D I h => h pins s I⟩
theorem pss_sem {st : List Stmt} : PSs X st (semSs X st) := ⟨fun pins s σ H D I h => h pins s I⟩
theorem to_sem {t : TE} (h : PE X e t) {Q : VK} (q : t σ H Q) : sem X e σ H Q := fun pins s I => h.run pins s σ H Q I q
theorem to_semT {t : TT} (h : PT X e t) {Q : Bool → Hp → Prop} (q : t σ H Q) : semT X e σ H Q := fun pins s I => h.run pins s σ H Q I q
theorem to_semA {t : TA} (h : PA X es t) {Q : List V → Hp → Prop} (q : t σ H Q) : semA X es σ H Q := fun pos pins s I => h.run pos pins s σ H Q I q
theorem to_semI {tg : Expr} {t : TI} (h : PI X tg e t) {Q : It → Hp → Prop} (q : t σ H Q) : semI X tg e σ H Q := fun pins s I => h.run pins s σ H Q I q
theorem to_semS {st : Stmt} {t : TS} (h : PS X st t) {D : Ends} (q : t D σ H) : semS X st D σ H := fun pins s I => h.run pins s σ H D I q
theorem to_semSs {st : List Stmt} {t : TS} (h : PSs X st t) {D : Ends} (q : t D σ H) : semSs X st D σ H := fun pins s I => h.run pins s σ H D I q
theorem sem_mono {Q Q' : VK} (h : sem X e σ H Q) (m : ∀ v H', Q v H' → Q' v H') : sem X e σ H Q' := fun pins s I => thn (h pins s I) fun u s' ⟨v, H', I', r, q⟩ => ⟨v, H', I', r, m v H' q⟩
theorem semT_mono {Q Q' : Bool → Hp → Prop} (h : semT X e σ H Q) (m : ∀ v H', Q v H' → Q' v H') : semT X e σ H Q' := fun pins s I => thn (h pins s I) fun u s' ⟨H', I', q⟩ => ⟨H', I', m u H' q⟩
theorem semA_mono {Q Q' : List V → Hp → Prop} (h : semA X es σ H Q) (m : ∀ v H', Q v H' → Q' v H') : semA X es σ H Q' := fun pos pins s I => thn (h pos pins s I) fun u s' ⟨v, H', I', r, q⟩ => ⟨v, H', I', r, m v H' q⟩
theorem semI_mono {tg : Expr} {Q Q' : It → Hp → Prop} (h : semI X tg e σ H Q) (m : ∀ J H', Q J H' → Q' J H') : semI X tg e σ H Q' := fun pins s I =>
  thn (h pins s I) fun u s1 h1 => thn h1 fun itv s2 ⟨it, fp, tn, J, H', e1, I', T, t0, f, q⟩ => ⟨it, fp, tn, J, H', e1, I', T, t0, f, m J H' q⟩
theorem semT_val (h : sem X e σ H fun v H' => ∃ c, v = .bl c ∧ True) (he : ∀ whole, isTrue e X.env whole = (do let v ← whole; standAt e.pos; holding [v] (truthy v))) : True := trivial
end

/-! ### what syntax decides -/
theorem star_of {e : Expr} {es : List Expr} {env : PySem.Env} (h : okHead e = true) : starEach (e :: es) env = (false, eval e env) :: starEach es env := by
  cases e <;> first | rfl | cases h
theorem stars_none {pos : Pos} {env : PySem.Env} : ∀ {es : List Expr}, (∀ e ∈ es, okHead e = true) → (backTo pos (starEach es env)).any (·.1) = false
  | [], _ => rfl
  | e :: es, h => by
    rw [star_of (h e List.mem_cons_self)]
    exact stars_none fun x hx => h x (List.mem_cons_of_mem _ hx)
theorem plainIx_of {e : Expr} (h : okHead e = true) : PlainIx e := by
  cases e <;> first | (intro _ _; rfl) | cases h
theorem base_of {e : Expr} {m : Str} {env : PySem.Env} {w : Sem Value} (h : okHead e = true) : attributeBase e m env w = w := by
  cases e with
  | Call f as ks p =>
    cases f with
    | Name x q =>
      cases as with
      | nil =>
        cases ks with
        | nil =>
          have hx : (x == ("super" : Str)) = false := by
            have h' : (!(x == ("super" : Str))) = true := h
            simpa using h'
          unfold attributeBase
          have h2 : (x != ("super" : Str)) = true := by
            show (!(x == ("super" : Str))) = true
            rw [hx]
            rfl
          simp only [h2, Bool.true_or, if_true]
        | cons _ _ => rfl
      | cons _ _ => rfl
    | _ => rfl
  | _ => rfl
theorem swaps_of {e : Expr} {t : Option Expr} {l : Nat} {env : PySem.Env} (h : notComp e = true) : swapsWith e t l env = pure false := by
  cases e <;> first | rfl | cases h
theorem plainTest {e : Expr} {env : PySem.Env} (h1 : okHead e = true) (h : (match e with | .UnaryOp .Not _ _ => false | .BoolOp _ _ _ => false | .IfExp _ _ _ _ => false | .Compare _ _ _ _ => false | _ => true) = true) :
    ∀ whole, isTrue e env whole = (do let v ← whole; standAt e.pos; holding [v] (truthy v)) := by
  intro whole
  cases e with
  | UnaryOp o a p => cases o <;> first | rfl | cases h
  | BoolOp _ _ _ => cases h
  | IfExp _ _ _ _ => cases h
  | Compare _ _ _ _ => cases h
  | _ => rfl
theorem folded_of {e : Expr} {env : PySem.Env} (h : okHead e = true) : ∀ x, foldedSetIterable e env x = pure x := by
  intro x
  cases e <;> first | rfl | cases h

/-! ### calls -/
/-- a def's promise where the calls around it are known to show nothing -/
structure GOk (P : Program) (w : World) (K : PySem.W.Frag) (mg : Str → Option Value) (base : Heap) (k : Nat) (f : Addr) (fd : FuncData) (ps : List Str) (sp : Sp) : Prop where
  len : ∀ vs H Q E, sp vs H Q E → vs.length = ps.length
  run : ∀ (A : Around) (outer : List PySem.Env) (s : Shared) (H : Hp) (args : Args) (us : List Value) (vs : List V) (Q : VK), A.guards = some [] → Room k A → Env0 P w K mg base A outer s H → BindsTo s fd args (ps.zip us) → Vals vs us → sp vs H Q E0 →
    codeAny (model P w) A (.call (.ref f) args) (CR CX0 outer P w H s Q E0) s
/-- what the top's def of a name is -/
structure FnF (K : PySem.W.Frag) (mg : Str → Option Value) (fn : Fn) (fa : Addr) (fd : FuncData) : Prop where
  mg : mg fn.name = some (.ref fa)
  kp : PySem.W.keepIn K (.ref fa) = true
  bp : ∀ us : List Value, us.length = fn.ps.length → bindArgs fd ⟨us, []⟩ = pure (fn.ps.zip us)
  bk : ∀ us : List Value, us.length = fn.ps.length → bindArgs fd ⟨[], fn.ps.zip us⟩ = pure (fn.ps.zip us)

def Lift (K : PySem.W.Frag) (F G : Hp) (μ : Nat → Addr) (S : Store) (x : E) (S' : Store) : VK := fun v H' => ∃ F' μ', Ext F μ S F' μ' S' ∧ Rel K F' G μ' S' H' ∧ RepE K F' μ' S' x v
inductive RepEs (K : PySem.W.Frag) (F : Hp) (μ : Nat → Addr) (S : Store) : List E → List V → Prop
  | nil : RepEs K F μ S [] []
  | cons {x : E} {xs : List E} {v : V} {vs : List V} : RepE K F μ S x v → RepEs K F μ S xs vs → RepEs K F μ S (x :: xs) (v :: vs)
theorem RepEs.mono {K : PySem.W.Frag} {F F' : Hp} {μ μ' : Nat → Addr} {S S' : Store} (e : Ext F μ S F' μ' S') : ∀ {xs : List E} {vs : List V}, RepEs K F μ S xs vs → RepEs K F' μ' S' xs vs
  | _, _, .nil => .nil
  | _, _, .cons h r => .cons (h.mono e) (RepEs.mono e r)
theorem RepEs.length {K : PySem.W.Frag} {F : Hp} {μ : Nat → Addr} {S : Store} : ∀ {xs : List E} {vs : List V}, RepEs K F μ S xs vs → xs.length = vs.length
  | _, _, .nil => rfl
  | _, _, .cons _ r => congrArg (· + 1) (RepEs.length r)
theorem RepEs.get {K : PySem.W.Frag} {F : Hp} {μ : Nat → Addr} {S : Store} : ∀ {xs : List E} {vs : List V} {i : Nat} {x : E}, RepEs K F μ S xs vs → xs[i]? = some x → ∃ v, vs[i]? = some v ∧ RepE K F μ S x v
  | _, _, _, _, .nil, h => by simp at h
  | _, _, 0, _, .cons h r, e => by
    simp at e
    subst e
    exact ⟨_, rfl, h⟩
  | _, _, i + 1, _, .cons h r, e => by
    obtain ⟨v, h1, h2⟩ := RepEs.get (i := i) r (by simpa using e)
    exact ⟨v, by simpa using h1, h2⟩
/-- the promise of the def with number f: what the tongue computes of it -/
def spD (K : PySem.W.Frag) (T : List Fn) (n k f : Nat) : Sp := fun vs H Q _ => ∃ (F G : Hp) (μ : Nat → Addr) (S : Store) (xs : List E) (x : E) (S' : Store),
  Rel K F G μ S H ∧ RepEs K F μ S xs vs ∧ xs.length = n ∧ callD T k f xs S = some (x, S') ∧ ∀ v H', Lift K F G μ S x S' v H' → Q v H'
def FnsOk (P : Program) (w : World) (K : PySem.W.Frag) (mg : Str → Option Value) (base : Heap) (T : List Fn) (k : Nat) : Prop :=
  ∀ (f : Nat) (fn : Fn), T[f]? = some fn → ∃ fa fd, FnF K mg fn fa fd ∧ GOk P w K mg base k fa fd fn.ps (spD K T fn.ps.length k f)
/-- the context that the proofs below stand in -/
structure Good (P : Prm) (k : Nat) (N : List Str) (sc s0 : Scope) (X : Cx) : Prop where
  hN : X.N = N
  nd : N.Nodup
  hsc : X.env.scope = sc
  own : ∀ x, s0.names.lookup x = some .cell → X.fn x = true
  calm : X.calm = true
  room : Room k X.A
  gd : X.A.guards = some []
  pass : PassesOwn (model X.prog X.w) X.A X.env X.xe
  bi : ∀ x, P.bi.contains x = true → X.mg x = none
  fns : FnsOk X.prog X.w X.K X.mg X.base P.T k
  cst : ∀ p, p ∈ P.cs → isLeaf p.2 = true → ∃ u v, X.mg p.1 = some u ∧ RelV v u ∧ ∀ F, RepP X.K F p.2 v
section
variable {X : Cx} {pins : List (Addr × Obj)} {σ : L2.St} {H : Hp} {s : Shared} {k : Nat} {f : Addr} {fd : FuncData} {ps : List Str} {sp : Sp}
theorem run_g {us : List Value} {kw : List (Str × Value)} {ws : List Value} {vs : List V} {Q : VK} (F : GOk X.prog X.w X.K X.mg X.base k f fd ps sp) (hg : X.A.guards = some []) (hr : Room k X.A) (hb : BindsTo s fd ⟨us, kw⟩ (ps.zip ws)) (I : Inv X pins σ H s) (r : Vals vs ws) (h : sp vs H Q E0) :
    wpAny (model X.prog X.w) X.A (call (.ref f) us kw) (EP X pins σ Q) X.xe s := by
  refine wpAny_call (codeAny_mono (F.run X.A X.stack s H ⟨us, kw⟩ ws vs Q hg hr I.env0 hb r h) fun res s' hq => ?_)
  cases res with
  | error e => exact False.elim hq
  | ok fl =>
    cases fl with
    | ret u => exact I.after hq
    | next => exact False.elim hq
    | brk => exact False.elim hq
    | cont => exact False.elim hq
end
end DL
end

section
set_option autoImplicit false
set_option linter.all false
/-! Operators and built-ins: the layer's rules against the tongue's tables. -/
namespace DL
open PySem PySem.Spec PyProof.Rows L2

/-- what an operation leaves: a value that was there, a new tuple, a new list -/
inductive Res (K : PySem.W.Frag) (F H : Hp) : D → V → Hp → Prop
  | same {z : D} {u : V} : RepP K F z u → Res K F H z u H
  | tup {p : Addr} {xs : List D} {vs : List V} : H p = none → RepL K F xs vs → Res K F H (.tup xs) (.ref p) (upd H p (.tup vs))
  | lst {p : Addr} {xs : List D} {vs : List V} : H p = none → RepL K F xs vs → Res K F H (.lst xs) (.ref p) (upd H p (.lst vs))
def ResN (K : PySem.W.Frag) (F H : Hp) (xs : List D) (u : V) (H' : Hp) : Prop := ∃ (p : Addr) (vs : List V), H p = none ∧ RepL K F xs vs ∧ u = .ref p ∧ H' = upd H p (.lst vs)
/-- a new list has come -/
def LiftN (K : PySem.W.Frag) (F G : Hp) (μ : Nat → Addr) (S : Store) (xs : List D) (S' : Store) : VK := fun v H' => ∃ (F' : Hp) (μ' : Nat → Addr) (H0 : Hp), Ext F μ S F' μ' S' ∧ Rel K F' G μ' S' H0 ∧ ResN K F' H0 xs v H'
theorem LiftN.lift {K : PySem.W.Frag} {F G : Hp} {μ : Nat → Addr} {S S' : Store} {xs : List D} {v : V} {H' : Hp} (h : LiftN K F G μ S xs S' v H') : Lift K F G μ S (.d (.lst xs)) S' v H' := by
  obtain ⟨F', μ', H0, e, r, p, vs, hp, rl, rfl, rfl⟩ := h
  have x := Ext.shut (o := .lst vs) (r.free hp) S' μ'
  exact ⟨_, μ', e.trans x, r.shut hp, .lst upd_same (rl.mono x.f)⟩
theorem LiftN.open_ {K : PySem.W.Frag} {F G : Hp} {μ : Nat → Addr} {S S' : Store} {xs : List D} {v : V} {H' : Hp} (h : LiftN K F G μ S xs S' v H') : Lift K F G μ S (.r S'.length) (S' ++ [some xs]) v H' := by
  obtain ⟨F', μ', H0, e, r, p, vs, hp, rl, rfl, rfl⟩ := h
  exact ⟨F', _, e.trans (Ext.open_ F' μ' S' p xs), r.open_ hp rl, by rw [List.length_append, List.length_singleton]; omega, by rw [put_same]⟩
theorem Res.lift {K : PySem.W.Frag} {F F0 G : Hp} {μ μ0 : Nat → Addr} {S S0 : Store} {z : D} {u : V} {H H' : Hp} (h : Res K F H z u H') (e : Ext F0 μ0 S0 F μ S) (r : Rel K F G μ S H) : Lift K F0 G μ0 S0 (.d z) S u H' := by
  cases h with
  | same h => exact ⟨F, μ, e, r, h⟩
  | @tup p xs vs hp rl =>
    have x := Ext.shut (o := .tup vs) (r.free hp) S μ
    exact ⟨_, μ, e.trans x, r.shut hp, .tup (.inl (.inl upd_same)) (rl.mono x.f)⟩
  | @lst p xs vs hp rl =>
    have x := Ext.shut (o := .lst vs) (r.free hp) S μ
    exact ⟨_, μ, e.trans x, r.shut hp, .lst upd_same (rl.mono x.f)⟩
theorem fits_le {n : Nat} (h : fits n = true) : n ≤ sizeLine := by
  have h1 : n ≤ 10000000 := of_decide_eq_true h
  rw [sizeLine_eq]
  omega

/-! ### operators of two -/
def O2Sem (X : Cx) (f : Value → Value → Sem Value) (o : O2) : Prop := ∃ r : R2, OpR X f r ∧ ∀ (x y z : D), o2 o x y = some z → ∀ (F G : Hp) (μ : Nat → Addr) (S : Store) (H : Hp) (v w : V), Rel X.K F G μ S H → RepT X.K F H x v → RepT X.K F H y w → ∀ Q : VK, (∀ u H', Res X.K F H z u H' → Q u H') → r v w H Q
section
variable {X : Cx} {K : PySem.W.Frag} {F H : Hp}
theorem RepT.int {i : Int} {v : V} (h : RepT K F H (.int i) v) : v = .int i := by
  cases h with
  | p h =>
    cases h
    rfl
theorem RepT.bl {i : Bool} {v : V} (h : RepT K F H (.bl i) v) : v = .bl i := by
  cases h with
  | p h =>
    cases h
    rfl
theorem RepT.str {i : Str} {v : V} (h : RepT K F H (.str i) v) : v = .str i := by
  cases h with
  | p h =>
    cases h
    rfl
/-- two ints without a side condition -/
theorem semI0 {f : Value → Value → Sem Value} {o : O2} {g : Int → Int → V} {gd : Int → Int → D} (hr : OpR X f (rI0 g)) (ho : ∀ x y z, o2 o x y = some z → ∃ i j, x = .int i ∧ y = .int j ∧ z = gd i j) (hg : ∀ i j, ∀ F, RepP X.K F (gd i j) (g i j)) : O2Sem X f o := by
  refine ⟨_, hr, fun x y z e F G μ S H v w R rx ry Q q => ?_⟩
  obtain ⟨i, j, rfl, rfl, rfl⟩ := ho x y z e
  exact ⟨i, j, rx.int, ry.int, q _ _ (.same (hg i j F))⟩
theorem semIC {f : Value → Value → Sem Value} {o : O2} {C : Int → Int → Prop} {g : Int → Int → V} {gd : Int → Int → D} (hr : OpR X f (rI C g)) (ho : ∀ x y z, o2 o x y = some z → ∃ i j, x = .int i ∧ y = .int j ∧ C i j ∧ z = gd i j) (hg : ∀ i j, ∀ F, RepP X.K F (gd i j) (g i j)) : O2Sem X f o := by
  refine ⟨_, hr, fun x y z e F G μ S H v w R rx ry Q q => ?_⟩
  obtain ⟨i, j, rfl, rfl, hc, rfl⟩ := ho x y z e
  exact ⟨i, j, rx.int, ry.int, hc, q _ _ (.same (hg i j F))⟩
theorem op_powG : OpR X (binaryOp .Pow) (rI (fun i j => 0 ≤ j ∧ (Builtin.Int.intBits i : Int) * j ≤ 2 ^ 27) fun i j => .int (i ^ j.toNat)) := opI fun _ _ _ _ _ _ _ hc q => pow_int hc.1 hc.2 q
theorem ite_some {α : Type} {c : Bool} {x z : α} (h : (if c = true then some x else none) = some z) : c = true ∧ z = x := by
  cases c with
  | true => exact ⟨rfl, by simpa using h.symm⟩
  | false => simp at h
/-- a new list of both -/
theorem op_catG : OpR X (binaryOp .Add) rCat := op_cat
theorem i2_out {f : Int → Int → Option D} {x y z : D} (e : i2 f x y = some z) : ∃ i j, x = .int i ∧ y = .int j ∧ f i j = some z := by
  unfold i2 at e
  split at e
  · exact ⟨_, _, rfl, rfl, e⟩
  · cases e
theorem sem_add : O2Sem X (binaryOp .Add) .add := semI0 (gd := fun i j => .int (i + j)) op_add (fun x y z e => by
  obtain ⟨i, j, rfl, rfl, e⟩ := i2_out e
  exact ⟨i, j, rfl, rfl, (Option.some.inj e).symm⟩) fun _ _ _ => .int _
theorem sem_sub : O2Sem X (binaryOp .Sub) .sub := semI0 (gd := fun i j => .int (i - j)) op_sub (fun x y z e => by
  obtain ⟨i, j, rfl, rfl, e⟩ := i2_out e
  exact ⟨i, j, rfl, rfl, (Option.some.inj e).symm⟩) fun _ _ _ => .int _
theorem sem_band : O2Sem X (binaryOp .BitAnd) .band := semI0 (gd := fun i j => .int (Builtin.bitAnd i j)) op_and (fun x y z e => by
  obtain ⟨i, j, rfl, rfl, e⟩ := i2_out e
  exact ⟨i, j, rfl, rfl, (Option.some.inj e).symm⟩) fun _ _ _ => .int _
theorem sem_mul : O2Sem X (binaryOp .Mult) .mul := semIC (gd := fun i j => .int (i * j)) op_mulX (fun x y z e => by
  obtain ⟨i, j, rfl, rfl, e⟩ := i2_out e
  obtain ⟨h1, h2⟩ := ite_some e
  have h3 : (Builtin.Int.intBits i : Int) + (Builtin.Int.intBits j : Int) ≤ 134217728 := of_decide_eq_true h1
  exact ⟨i, j, rfl, rfl, h3, h2⟩) fun _ _ _ => .int _
theorem sem_fdiv : O2Sem X (binaryOp .FloorDiv) .fdiv := semIC (gd := fun i j => .int (i / j)) op_fdivW (fun x y z e => by
  obtain ⟨i, j, rfl, rfl, e⟩ := i2_out e
  obtain ⟨h1, h2⟩ := ite_some e
  rw [divOk, Bool.and_eq_true] at h1
  exact ⟨i, j, rfl, rfl, ⟨of_decide_eq_true h1.1, of_decide_eq_true h1.2⟩, h2⟩) fun _ _ _ => .int _
theorem sem_mod : O2Sem X (binaryOp .Mod) .mod := semIC (gd := fun i j => .int (i % j)) op_mod (fun x y z e => by
  obtain ⟨i, j, rfl, rfl, e⟩ := i2_out e
  obtain ⟨h1, h2⟩ := ite_some e
  exact ⟨i, j, rfl, rfl, of_decide_eq_true h1, h2⟩) fun _ _ _ => .int _
theorem sem_pow : O2Sem X (binaryOp .Pow) .pow := semIC (gd := fun i j => .int (i ^ j.toNat)) op_powG (fun x y z e => by
  obtain ⟨i, j, rfl, rfl, e⟩ := i2_out e
  obtain ⟨h1, h2⟩ := ite_some e
  rw [powOk, Bool.and_eq_true] at h1
  exact ⟨i, j, rfl, rfl, ⟨of_decide_eq_true h1.1, of_decide_eq_true h1.2⟩, h2⟩) fun _ _ _ => .int _
theorem sem_shl : O2Sem X (binaryOp .LShift) .shl := semIC (gd := fun i j => .int (i * 2 ^ j.toNat)) op_shl (fun x y z e => by
  obtain ⟨i, j, rfl, rfl, e⟩ := i2_out e
  obtain ⟨h1, h2⟩ := ite_some e
  rw [shlOk, Bool.and_eq_true, Bool.and_eq_true] at h1
  exact ⟨i, j, rfl, rfl, ⟨of_decide_eq_true h1.1.1, of_decide_eq_true h1.1.2, of_decide_eq_true h1.2⟩, h2⟩) fun _ _ _ => .int _
theorem sem_shr : O2Sem X (binaryOp .RShift) .shr := semIC (gd := fun i j => .int (i / 2 ^ j.toNat)) op_shr (fun x y z e => by
  obtain ⟨i, j, rfl, rfl, e⟩ := i2_out e
  obtain ⟨h1, h2⟩ := ite_some e
  exact ⟨i, j, rfl, rfl, of_decide_eq_true h1, h2⟩) fun _ _ _ => .int _
theorem sem_catS : O2Sem X (binaryOp .Add) .catS := by
  refine ⟨_, op_add_str, fun x y z e F G μ S H v w R rx ry Q q => ?_⟩
  have e2 : s2 x y = some z := e
  clear e
  unfold s2 at e2
  split at e2
  · obtain ⟨h1, rfl⟩ := ite_some e2
    exact ⟨_, _, rx.str, ry.str, fits_le h1, q _ _ (.same (.str _))⟩
  · cases e2
theorem sem_catT : O2Sem X (binaryOp .Add) .catT := by
  refine ⟨_, op_catA, fun x y z e F G μ S H v w R rx ry Q q => ?_⟩
  have e2 : t2 x y = some z := e
  clear e
  unfold t2 at e2
  split at e2
  · rename_i xs ys
    obtain ⟨h1, rfl⟩ := ite_some e2
    cases rx with
    | p hx =>
      cases ry with
      | p hy =>
        cases hx with
        | @tup a _ vs sx lx =>
          cases hy with
          | @tup b _ ws sy ly =>
            have k1 := lx.length
            have k2 := ly.length
            refine ⟨a, b, vs, ws, rfl, rfl, R.fr.sqT sx, R.fr.sqT sy, fits_le (by rw [← k1, ← k2]; exact h1), fun e0 => ?_, fun e0 e1 => ?_, fun e0 e1 p hp => ?_⟩
            · have z : xs = [] := List.eq_nil_of_length_eq_zero (by rw [k1, e0]; rfl)
              subst z
              exact q _ _ (.same (.tup sy ly))
            · have z : ys = [] := List.eq_nil_of_length_eq_zero (by rw [k2, e1]; rfl)
              subst z
              exact q _ _ (.same (by rw [List.append_nil]; exact .tup sx lx))
            · exact q _ _ (.tup hp (lx.append ly))
  · cases e2
theorem catL_sem {xs ys zs : List D} (e : l2 (.lst xs) (.lst ys) = some (.lst zs)) {F G : Hp} {μ : Nat → Addr} {S : Store} {H : Hp} {v w : V} (R : Rel X.K F G μ S H) (rx : RepT X.K F H (.lst xs) v) (ry : RepT X.K F H (.lst ys) w) {Q : VK} (q : ∀ u H', ResN X.K F H zs u H' → Q u H') : rCat v w H Q := by
  obtain ⟨h1, h2⟩ := ite_some e
  cases h2
  obtain ⟨a, vs, rfl, sx, lx⟩ := rx.lst R.fr
  obtain ⟨b, ws, rfl, sy, ly⟩ := ry.lst R.fr
  exact ⟨a, b, vs, ws, rfl, rfl, sx, sy, fits_le (by rw [← lx.length, ← ly.length]; exact h1), fun p hp => q _ _ ⟨p, _, hp, lx.append ly, rfl, rfl⟩⟩
theorem repL_sem {xs zs : List D} {k : Int} (e : r2 (.lst xs) (.int k) = some (.lst zs)) {F G : Hp} {μ : Nat → Addr} {S : Store} {H : Hp} {v w : V} (R : Rel X.K F G μ S H) (rx : RepT X.K F H (.lst xs) v) (ry : RepT X.K F H (.int k) w) {Q : VK} (q : ∀ u H', ResN X.K F H zs u H' → Q u H') : rRep v w H Q := by
  obtain ⟨h1, h2⟩ := ite_some e
  cases h2
  obtain ⟨a, vs, rfl, sx, lx⟩ := rx.lst R.fr
  rw [Bool.and_eq_true] at h1
  have hk : k.natAbs < 2 ^ 62 := of_decide_eq_true h1.2
  have h62 : (2 : Nat) ^ 62 = 4611686018427387904 := by decide
  have h63 : (2 : Int) ^ 63 = 9223372036854775808 := by decide
  refine ⟨a, k, vs, rfl, ry.int, sx, ?_, ?_, fits_le (by rw [← lx.length]; exact h1.1), fun p hp => q _ _ ⟨p, _, hp, lx.rep _, rfl, rfl⟩⟩
  · omega
  · omega
theorem catL_out {x y z : D} (e : l2 x y = some z) : ∃ xs ys zs, x = .lst xs ∧ y = .lst ys ∧ z = .lst zs := by
  unfold l2 at e
  split at e
  · obtain ⟨_, rfl⟩ := ite_some e
    exact ⟨_, _, _, rfl, rfl, rfl⟩
  · cases e
theorem repL_out {x y z : D} (e : r2 x y = some z) : ∃ xs k zs, x = .lst xs ∧ y = .int k ∧ z = .lst zs := by
  unfold r2 at e
  split at e
  · obtain ⟨_, rfl⟩ := ite_some e
    exact ⟨_, _, _, rfl, rfl, rfl⟩
  · cases e
theorem sem_catL : O2Sem X (binaryOp .Add) .catL := by
  refine ⟨_, op_cat, fun x y z e F G μ S H v w R rx ry Q q => ?_⟩
  obtain ⟨xs, ys, zs, rfl, rfl, rfl⟩ := catL_out e
  exact catL_sem e R rx ry fun u H' ⟨p, vs, hp, rl, e1, e2⟩ => by
    subst e1 e2
    exact q _ _ (.lst hp rl)
theorem sem_repL : O2Sem X (binaryOp .Mult) .repL := by
  refine ⟨_, op_rep, fun x y z e F G μ S H v w R rx ry Q q => ?_⟩
  obtain ⟨xs, k, zs, rfl, rfl, rfl⟩ := repL_out e
  exact repL_sem e R rx ry fun u H' ⟨p, vs, hp, rl, e1, e2⟩ => by
    subst e1 e2
    exact q _ _ (.lst hp rl)
theorem bin_sem {o : O2} {op : Operator} (h : binIs o op = true) : O2Sem X (binaryOp op) o := by
  cases o with
  | add => cases op with
    | Add => exact sem_add
    | _ => cases h
  | sub => cases op with
    | Sub => exact sem_sub
    | _ => cases h
  | mul => cases op with
    | Mult => exact sem_mul
    | _ => cases h
  | fdiv => cases op with
    | FloorDiv => exact sem_fdiv
    | _ => cases h
  | mod => cases op with
    | Mod => exact sem_mod
    | _ => cases h
  | pow => cases op with
    | Pow => exact sem_pow
    | _ => cases h
  | shl => cases op with
    | LShift => exact sem_shl
    | _ => cases h
  | shr => cases op with
    | RShift => exact sem_shr
    | _ => cases h
  | band => cases op with
    | BitAnd => exact sem_band
    | _ => cases h
  | catT => cases op with
    | Add => exact sem_catT
    | _ => cases h
  | catL => cases op with
    | Add => exact sem_catL
    | _ => cases h
  | catS => cases op with
    | Add => exact sem_catS
    | _ => cases h
  | repL => cases op with
    | Mult => exact sem_repL
    | _ => cases h
  | eq => cases op <;> cases h
  | ne => cases op <;> cases h
  | lt => cases op <;> cases h
  | le => cases op <;> cases h
  | gt => cases op <;> cases h
  | ge => cases op <;> cases h
  | isIn => cases op <;> cases h
  | notIn => cases op <;> cases h
/-! comparisons -/
theorem sem_lt : O2Sem X (compareOp .Lt) .lt := semI0 (gd := fun i j => .bl (decide (i < j))) op_lt (fun x y z e => by
  obtain ⟨i, j, rfl, rfl, e⟩ := i2_out e
  exact ⟨i, j, rfl, rfl, (Option.some.inj e).symm⟩) fun _ _ _ => .bl _
theorem sem_le : O2Sem X (compareOp .LtE) .le := semI0 (gd := fun i j => .bl (decide (i ≤ j))) op_le (fun x y z e => by
  obtain ⟨i, j, rfl, rfl, e⟩ := i2_out e
  exact ⟨i, j, rfl, rfl, (Option.some.inj e).symm⟩) fun _ _ _ => .bl _
theorem sem_gt : O2Sem X (compareOp .Gt) .gt := semI0 (gd := fun i j => .bl (decide (j < i))) op_gt (fun x y z e => by
  obtain ⟨i, j, rfl, rfl, e⟩ := i2_out e
  exact ⟨i, j, rfl, rfl, (Option.some.inj e).symm⟩) fun _ _ _ => .bl _
theorem sem_ge : O2Sem X (compareOp .GtE) .ge := semI0 (gd := fun i j => .bl (decide (j ≤ i))) op_ge (fun x y z e => by
  obtain ⟨i, j, rfl, rfl, e⟩ := i2_out e
  exact ⟨i, j, rfl, rfl, (Option.some.inj e).symm⟩) fun _ _ _ => .bl _
theorem sem_eq (hu : X.A.units + 64 < cLine) : O2Sem X (compareOp .Eq) .eq := by
  refine ⟨_, op_eqD hu, fun x y z e F G μ S H v w R rx ry Q q => ?_⟩
  obtain ⟨h1, rfl⟩ := ite_some e
  rw [Bool.and_eq_true, eqOk, eqOk, Bool.and_eq_true, Bool.and_eq_true] at h1
  exact ⟨x.py, y.py, (rx.now R).dp h1.1.1, (ry.now R).dp h1.2.1, h1.1.2, h1.2.2, q _ _ (.same (.bl _))⟩
theorem sem_ne (hu : X.A.units + 64 < cLine) : O2Sem X (compareOp .NotEq) .ne := by
  refine ⟨_, op_neD hu, fun x y z e F G μ S H v w R rx ry Q q => ?_⟩
  obtain ⟨h1, rfl⟩ := ite_some e
  rw [Bool.and_eq_true, eqOk, eqOk, Bool.and_eq_true, Bool.and_eq_true] at h1
  exact ⟨x.py, y.py, (rx.now R).dp h1.1.1, (ry.now R).dp h1.2.1, h1.1.2, h1.2.2, q _ _ (.same (.bl _))⟩
theorem leaf_flat {x : D} {v : V} (h : RepP K F x v) (l : isLeaf x = true) : flatV v = true := by
  cases h <;> first | rfl | cases l
theorem beq_swap (p q : Int) : (p == q) = decide (q = p) := by
  by_cases h : q = p
  · subst h
    simp
  · rw [decide_eq_false h]
    exact beq_eq_false_iff_ne.mpr fun z => h z.symm
theorem beq_dec {α : Type} [BEq α] [LawfulBEq α] [DecidableEq α] (p q : α) : (p == q) = decide (p = q) := by
  by_cases h : p = q
  · subst h
    simp
  · rw [decide_eq_false h]
    exact beq_eq_false_iff_ne.mpr h
theorem leaf_eq {x y : D} {v w : V} (h : RepP K F x v) (k : RepP K F y w) (l : isLeaf x = true) (m : isLeaf y = true) : eqV v w = eqLeaf x y := by
  cases h with
  | non => cases k <;> first | rfl | cases m
  | bl a => cases k with
    | int b => exact beq_swap _ _
    | _ => first | rfl | cases m
  | int a => cases k with
    | int b => exact beq_dec a b
    | bl b => exact beq_dec a _
    | _ => first | rfl | cases m
  | str a => cases k with
    | str b => exact beq_dec a b
    | _ => first | rfl | cases m
  | tup _ _ => cases l
  | lst _ _ => cases l
  | scr _ _ => cases l
  | dct _ _ => cases l
theorem leaves_flat : ∀ {xs : List D} {vs : List V}, RepL K F xs vs → xs.all isLeaf = true → vs.all flatV = true
  | _, _, .nil, _ => rfl
  | _, _, .cons h r, l => by
    rw [List.all_cons, Bool.and_eq_true] at l
    rw [List.all_cons, leaf_flat h l.1, leaves_flat r l.2]
    rfl
theorem leaves_in {x : D} {v : V} (h : RepP K F x v) (l : isLeaf x = true) : ∀ {xs : List D} {vs : List V}, RepL K F xs vs → xs.all isLeaf = true → inV v vs = memD x xs
  | _, _, .nil, _ => rfl
  | _, _, .cons k r, m => by
    rw [List.all_cons, Bool.and_eq_true] at m
    show (eqV _ v || inV v _) = (eqLeaf _ x || memD x _)
    rw [leaf_eq k h m.1 l, leaves_in h l r m.2]
theorem sem_in : O2Sem X (compareOp .In) .isIn := by
  refine ⟨_, op_in_seq, fun x y z e F G μ S H v w R rx ry Q q => ?_⟩
  have go : ∀ ys : List D, (y = .lst ys ∨ y = .tup ys) → (if memOk x ys = true then some (D.bl (memD x ys)) else none) = some z → rIn X.K false v w H Q := fun ys hy e => by
    obtain ⟨h1, rfl⟩ := ite_some e
    rw [memOk, Bool.and_eq_true] at h1
    have hx : RepP X.K F x v := by
      cases rx with
      | p h => exact h
      | l _ _ => cases h1.1
    rcases hy with rfl | rfl
    · obtain ⟨a, vs, rfl, sy, ly⟩ := ry.lst R.fr
      refine ⟨a, vs, rfl, .inl (.inl (.inl sy)), leaf_flat hx h1.1, leaves_flat ly h1.2, ?_⟩
      rw [leaves_in hx h1.1 ly h1.2]
      exact q _ _ (.same (.bl _))
    · obtain ⟨a, vs, rfl, sy, ly⟩ := ry.sqT R.fr
      refine ⟨a, vs, rfl, .inr sy, leaf_flat hx h1.1, leaves_flat ly h1.2, ?_⟩
      rw [leaves_in hx h1.1 ly h1.2]
      exact q _ _ (.same (.bl _))
  cases y with
  | lst ys => exact go ys (.inl rfl) e
  | tup ys => exact go ys (.inr rfl) e
  | _ => cases e
theorem sem_notIn : O2Sem X (compareOp .NotIn) .notIn := by
  refine ⟨_, op_notIn_seq, fun x y z e F G μ S H v w R rx ry Q q => ?_⟩
  have go : ∀ ys : List D, (y = .lst ys ∨ y = .tup ys) → (if memOk x ys = true then some (D.bl (!memD x ys)) else none) = some z → rIn X.K true v w H Q := fun ys hy e => by
    obtain ⟨h1, rfl⟩ := ite_some e
    rw [memOk, Bool.and_eq_true] at h1
    have hx : RepP X.K F x v := by
      cases rx with
      | p h => exact h
      | l _ _ => cases h1.1
    rcases hy with rfl | rfl
    · obtain ⟨a, vs, rfl, sy, ly⟩ := ry.lst R.fr
      refine ⟨a, vs, rfl, .inl (.inl (.inl sy)), leaf_flat hx h1.1, leaves_flat ly h1.2, ?_⟩
      rw [leaves_in hx h1.1 ly h1.2]
      exact q _ _ (.same (.bl _))
    · obtain ⟨a, vs, rfl, sy, ly⟩ := ry.sqT R.fr
      refine ⟨a, vs, rfl, .inr sy, leaf_flat hx h1.1, leaves_flat ly h1.2, ?_⟩
      rw [leaves_in hx h1.1 ly h1.2]
      exact q _ _ (.same (.bl _))
  cases y with
  | lst ys => exact go ys (.inl rfl) e
  | tup ys => exact go ys (.inr rfl) e
  | _ => cases e
theorem cmp_sem (hu : X.A.units + 64 < cLine) {o : O2} {op : CmpOp} (h : cmpIs o op = true) : O2Sem X (compareOp op) o := by
  cases o with
  | eq => cases op with
    | Eq => exact sem_eq hu
    | _ => cases h
  | ne => cases op with
    | NotEq => exact sem_ne hu
    | _ => cases h
  | lt => cases op with
    | Lt => exact sem_lt
    | _ => cases h
  | le => cases op with
    | LtE => exact sem_le
    | _ => cases h
  | gt => cases op with
    | Gt => exact sem_gt
    | _ => cases h
  | ge => cases op with
    | GtE => exact sem_ge
    | _ => cases h
  | isIn => cases op with
    | In => exact sem_in
    | _ => cases h
  | notIn => cases op with
    | NotIn => exact sem_notIn
    | _ => cases h
  | add => cases op <;> cases h
  | sub => cases op <;> cases h
  | mul => cases op <;> cases h
  | fdiv => cases op <;> cases h
  | mod => cases op <;> cases h
  | pow => cases op <;> cases h
  | shl => cases op <;> cases h
  | shr => cases op <;> cases h
  | band => cases op <;> cases h
  | catT => cases op <;> cases h
  | catL => cases op <;> cases h
  | catS => cases op <;> cases h
  | repL => cases op <;> cases h
end
end DL
end

section
set_option Elab.async false
set_option autoImplicit false
set_option linter.all false
set_option maxRecDepth 100000
set_option maxHeartbeats 4000000
/-! Rules that the hand layer lacks: sum of a tuple, enumerate of a tuple. -/
namespace DL
open PySem PySem.Spec PyProof.Rows L2

theorem meets_enum1 {v : Value} {o : Obj} {I : Heap → Prop} (B : Begins v o I) :
    Meets (Builtin.«enumerate.__new__» ⟨[.type "enumerate", v], []⟩) (fun _ R s => I s.heap ∧
      R (.ok (.ret (.ref (s.heap.push o).objs.size))) { s with heap := (s.heap.push o).push { cls := .type "enumerate", data := .fields #[.none, .bool false, .ref s.heap.objs.size, rawInt 0, .none, .none] } }) :=
  .of_wp fun prog w A R s hh => by
    obtain ⟨hp, gs, dr, tk, os⟩ := s
    obtain ⟨hI, hR⟩ := hh
    have sbt := sub_enumerate
    have begin_ : ∀ {A' : Around} {E : Value → Shared → Prop} {Q : Value → Shared → Prop}, Q (.ref hp.objs.size) ⟨hp.push o, gs, dr, tk, os⟩ → wpAny (model prog w) A' (pyIter v) Q E ⟨hp, gs, dr, tk, os⟩ :=
      fun q => B.iter prog w _ _ ⟨hp, gs, dr, tk, os⟩ _ hI q
    wp_walk using begin_
    refine wpAny_stack_any fun st => wpAny_pure ?_
    split
    · rename_i cc _ _ _ _ _
      cases (cc == Value.type "enumerate")
      · wp_walk using begin_
        exact ⟨_, rfl, hR⟩
      · wp_walk using begin_
        exact ⟨_, rfl, hR⟩
    · wp_walk using begin_
      exact ⟨_, rfl, hR⟩
section
variable {prog : Program} {w : World} {A : Around} {E : Value → Shared → Prop} {s : Shared}
theorem enum1 {v : Value} {o : Obj} {I : Heap → Prop} {Q : Value → Shared → Prop} (B : Begins v o I) (hI : I s.heap)
    (q : ∀ h', IsEnum h' (s.heap.objs.size + 1) s.heap.objs.size 0 .none → h'.get? s.heap.objs.size = some o →
      (∀ b u, s.heap.get? b = some u → h'.get? b = some u) → Q (.ref (s.heap.objs.size + 1)) { s with heap := h' }) : wpAny (model prog w) A (call (.type "enumerate") [v]) Q E s := by
  refine callType_new F.called_enumerate (by decide) (F.typeCall_enumerate_1 _) (F.newCall_enumerate_1 _) (fun obj => F.args_object_init_2 obj _) F.entry_enumerate_new (meets_enum1 B) ⟨hI, ?_⟩
  have sz : (s.heap.push o).objs.size = s.heap.objs.size + 1 := Heap.size_push ..
  show _ ∧ _
  rw [sz]
  have he : IsEnum ((s.heap.push o).push { cls := .type "enumerate", data := .fields #[.none, .bool false, .ref s.heap.objs.size, rawInt 0, .none, .none] }) (s.heap.objs.size + 1) s.heap.objs.size 0 .none := by
    have z := Heap.get?_push_size (s.heap.push o) (o := { cls := .type "enumerate", data := .fields #[.none, .bool false, .ref s.heap.objs.size, rawInt 0, .none, .none] }) rfl
    rw [sz] at z
    exact z
  exact ⟨⟨_, he, rfl⟩, q _ he (Heap.get?_push_of_some _ (Heap.get?_push_size _ B.free)) fun b u x => Heap.get?_push_of_some _ (Heap.get?_push_of_some _ x)⟩
end
/-- enumerate of the tuple at a -/
def IteT (K : PySem.W.Frag) (a : Addr) : It where
  go i H := ∃ (xs : List V) (x : V), SqT K H a xs ∧ xs[i]? = some x
  yld i H v H' := ∃ T x, v = .ref T ∧ H T = none ∧ H' = upd H T (.tup [.int (i : Nat), x]) ∧ ∀ xs, SqT K H a xs → xs[i]? = some x
  stop i H := ∃ xs : List V, SqT K H a xs ∧ xs.length = i
theorem turn_enumT {P : Program} {w : World} {K : PySem.W.Frag} {elts : List Expr} {kk : Nat} {tpos : Pos} (a e it : Addr) :
    Turn P w K (.Tuple elts kk tpos) (IteT K a) [e, it] e (fun i h => (∃ old, IsEnum h e it ((i : Nat) : Int) old) ∧ h.IsTupleIter it a i ∧ e ≠ it ∧ a ≠ it ∧ e ≠ a) where
  mem := by simp
  obj := fun i h st b hb => by
    obtain ⟨⟨old, he⟩, ⟨o, ho, hc, hd⟩, _⟩ := st
    have hb2 : b = e ∨ b = it := by simpa using hb
    rcases hb2 with rfl | rfl
    · exact ⟨_, he, fun v z => nomatch z⟩
    · exact ⟨o, ho, fun v z => by
        rw [hd] at z
        cases z⟩
  keep := fun i h h' st k => by
    obtain ⟨⟨old, he⟩, hi, hne⟩ := st
    exact ⟨⟨old, k e (by simp) _ he⟩, hi.at fun o z => k it (by simp) o z, hne⟩
  item := by
    intro X hP hw hK hc i pins s σ H E Iv hf st hg
    subst hP hw hK
    obtain ⟨⟨old, he⟩, hit, hne, hai, hea⟩ := st
    obtain ⟨xs, x, hq, hx⟩ := hg
    obtain ⟨items, rv, pt, hz⟩ := Iv.tuple hq
    obtain ⟨u, hu, ru⟩ := rv.get hx
    have hlt : i < items.toArray.size := by
      have := (List.getElem?_eq_some_iff.mp hu).1
      simpa using this
    have eLt : e < s.heap.objs.size := Heap.lt_size he
    have iLt : it < s.heap.objs.size := by
      obtain ⟨_, z, _⟩ := hit
      exact Heap.lt_size z
    have pt' : s.heap.IsTuple a items.toArray := pt
    refine wpAny_pyNext_enum_itemD (Draws.tuple (A := X.A.in1) (Iv.ok.hd hc) it a hai items.toArray) he ⟨hit, pt'⟩ hlt hne (by simp [hne, hea]) fun y h' tk hy ho st' hT hsz hk => ?_
    have ey : y = u := by
      rw [← Array.getElem?_toList] at hy
      have hy2 : items[i]? = some y := hy
      rw [hu] at hy2
      exact (Option.some.inj hy2).symm
    subst ey
    refine ⟨_, rfl, wpAny_letOwnedTupleGo_enum (s := { s with heap := h', toks := tk + 1 }) ho fun h2 he2 sb => ?_⟩
    have hT2 : h2.get? s.heap.objs.size = some { cls := .type "tuple", data := .seq #[.int i tk, y] } := (sb.2 _ (Nat.ne_of_gt eLt)).trans hT
    have new : ObjOk X.prog X.w (upd H s.heap.objs.size (.tup [.int (i : Nat), x])) h2 s.heap.objs.size (.tup [.int (i : Nat), x]) :=
      ⟨by show 2 ≤ sizeLine; decide, [.int i tk, y], .cons ⟨_, rfl⟩ (.cons ru .nil), ⟨_, hT2, rfl, _, rfl⟩⟩
    have J : Inv X pins σ (upd H s.heap.objs.size (.tup [.int (i : Nat), x])) { s with heap := h2, toks := tk + 1 } :=
      Iv.turnedNew (ch := [e, it]) (fun b ob hb z => (sb.2 b (fun w => hb (by simp [w]))).trans (hk b ob (fun w => hb (by simp [w])) (fun w => hb (by simp [w])) z)) hf (Nat.le_refl _) new
    refine ⟨.ref s.heap.objs.size, _, J, rfl, ⟨_, x, rfl, Iv.hok.fresh (Nat.le_refl _), rfl, fun ys hy => by rw [Iv.tuple_inj hy hq]; exact hx⟩, ⟨⟨y, ?_⟩, st'.1.at fun o z => (sb.2 it (Ne.symm hne)).trans z, hne, hai, hea⟩, fun b hb => ?_⟩
    · have e1 : ((i + 1 : Nat) : Int) = (i : Int) + 1 := by omega
      rw [e1]
      exact he2
    · have bLt : b < s.heap.objs.size := by
        have hb2 : b = e ∨ b = it := by simpa using hb
        rcases hb2 with rfl | rfl
        · exact eLt
        · exact iLt
      rw [upd_ne (Nat.ne_of_lt bLt)]
      exact (hf b hb).1
  done := by
    intro X hP hw hK hc i pins s σ H E Iv hf st hg
    subst hP hw hK
    obtain ⟨⟨old, he⟩, hit, hne, hai, hea⟩ := st
    obtain ⟨xs, hq, hx⟩ := hg
    obtain ⟨items, rv, pt, hz⟩ := Iv.tuple hq
    obtain ⟨f0, f1, f2, f3, f4, f5⟩ := hf it (by simp)
    have ll := rv.length
    have pt' : s.heap.IsTuple a items.toArray := pt
    have ei : items.toArray.size = i := by
      rw [List.size_toArray, ← ll]
      exact hx
    subst ei
    have dr := Draws.tuple (prog := X.prog) (w := X.w) (A := X.A.in1) (Iv.ok.hd hc) it a hai items.toArray
    exact wpAny_pyNext_enum_endD dr he ⟨hit, pt'⟩ fun h' eb => ⟨rfl, Iv.turned (t' := s.toks) (fun b o hb z => eb b o hb z) f0 f1 f3 f4 f5⟩
  self := fun A i s Q E st h => let ⟨⟨_, he⟩, _⟩ := st; wpAny_pyIter_enum he h
def iEnumT (K : PySem.W.Frag) (ta : TA) : TI := fun σ H R => ta σ H fun vs H1 => ∃ a xs, vs = [.ref a] ∧ SqT K H1 a xs ∧ R (IteT K a) H1
theorem pi_enumT {X : Cx} {e : Expr} {ta : TA} {p pos tpos : Pos} {elts : List Expr} {kk : Nat} (hg : Gl X "enumerate") (hm : X.mg "enumerate" = none) (ha : PA X [e] ta) (hs : starEach [e] X.env = [(false, eval e X.env)]) :
    PI X (.Tuple elts kk tpos) (.Call (.Name "enumerate" p) [e] [] pos) (iEnumT X.K ta) := by
  refine ⟨fun pins s σ H R Iv h => ?_⟩
  refine Call_ (ld_blt Iv hg hm boot_enumerate (PyProof.Rows.callWith_type1 (thn (ha.run pos pins s σ H _ Iv h) fun us s1 ⟨vs, H1, I1, r1, q1⟩ => ?_) hs rfl))
  obtain ⟨a, xs, ex, hq, q⟩ := q1
  subst ex
  cases r1 with
  | cons r rr =>
    cases rr
    cases r
    obtain ⟨items, rv, pt, hz⟩ := I1.tuple hq
    have pt' : s1.heap.IsTuple a items.toArray := pt
    have aLt : a < s1.heap.objs.size := by
      obtain ⟨_, z, _⟩ := pt'
      exact Heap.lt_size z
    refine enum1 (begins_tuple a items.toArray) pt' fun h' he hit hk => wpAny_pyIter_enum he ?_
    have J : Inv X pins σ H1 { s1 with heap := h' } := I1.kept (t' := s1.toks) hk
    refine ⟨s1.heap.objs.size + 1, [s1.heap.objs.size + 1, s1.heap.objs.size], _, _, H1, rfl, J, turn_enumT a (s1.heap.objs.size + 1) s1.heap.objs.size, ⟨⟨.none, he⟩, ⟨_, hit, rfl, rfl⟩, Nat.succ_ne_self _, Nat.ne_of_lt aLt, Nat.ne_of_gt (Nat.lt_succ_of_lt aLt)⟩, fun b hb => ?_, q⟩
    have ge : s1.heap.objs.size ≤ b := by
      have hb2 : b = s1.heap.objs.size + 1 ∨ b = s1.heap.objs.size := by simpa using hb
      rcases hb2 with rfl | rfl
      · exact Nat.le_add_right _ _
      · exact Nat.le_refl _
    exact I1.fpOk ge (I1.hok.fresh ge)
/-- sum of a tuple of ints -/
def rSumT (K : PySem.W.Frag) : List V → Hp → VK → Prop := fun vs H Q => ∃ (a : Addr) (ns : List Int), vs = [V.ref a] ∧ SqT K H a (ns.map V.int) ∧ Q (.int ns.sum) H
theorem cr_sumT {X : Cx} (hc : X.calm = true) : CallR X (.builtin "sum") (rSumT X.K) := by
  intro pins s σ H vs us Q Iv r h
  obtain ⟨a, ns, rfl, hs, q⟩ := h
  obtain ⟨items, rv, pt, hz⟩ := Iv.tuple hs
  rw [Vals.ref1 r]
  have pt' : s.heap.IsTuple a items.toArray := pt
  have aLt : a < s.heap.objs.size := by
    obtain ⟨_, z, _⟩ := pt'
    exact Heap.lt_size z
  have hi := rv.ints
  obtain ⟨xs, e⟩ := hi.allInts.items
  have hn : numsOf (intItems xs).toList = ns := by
    rw [← e]
    exact hi.numsOf
  rw [nums_intItems] at hn
  rw [e] at pt'
  refine PySem.call_sum_walkG (wpAny_pyIter_tuple pt' ?_)
  refine ⟨_, _, _, _, _, _, numAt xs, rfl, Walks.tuple (A := X.A.in1) (Iv.ok.hd hc) s.heap.objs.size a (Nat.ne_of_lt aLt) (intItems xs), ⟨⟨_, Heap.get?_push_size _ rfl, rfl, rfl⟩, pt'.at fun o z => Heap.get?_push_of_some _ z⟩, fun b hb => ?_, (fun _ _ => intItems_at), fun h' tk t' hk => ?_⟩
  · have hb2 : b = s.heap.objs.size ∨ b = a := by simpa using hb
    rw [Heap.size_push]
    rcases hb2 with rfl | rfl
    · exact Nat.lt_succ_self _
    · exact Nat.lt_succ_of_lt aLt
  · have e2 : (intItems xs).size = xs.size := by simp [intItems]
    rw [e2, preSum_eq, List.take_of_length_le (by simp), hn]
    exact ⟨.int _, H, Iv.kept (h' := h') (t' := tk) fun b o z => hk b o (by
      have lt := Heap.lt_size z
      rw [List.mem_singleton]
      exact Nat.ne_of_lt lt) (Heap.get?_push_of_some _ z), ⟨_, rfl⟩, q⟩
end DL
end

section
set_option Elab.async false
set_option autoImplicit false
set_option linter.all false
set_option maxRecDepth 100000
set_option maxHeartbeats 4000000
/-! tuple(zip(t, u)) of two tuples. -/
namespace DL
open PySem PySem.Spec PyProof.Rows L2

section
variable {prog : Program} {w : World} {A : Around} {E : Value → Shared → Prop} {s : Shared} {z TI TO T i1 i2 : Addr} {fp1 fp2 : List Addr} {n1 n2 i : Nat} {P1 P2 : Nat → Value → Prop} {St1 St2 : Nat → Heap → Prop} {f : Bool} {oT : Obj}
/-- a further pair while the last one is held -/
theorem heldD_item {Q : Value → Shared → Prop} (S : ZipSep2 z TI TO i1 i2 fp1 fp2) (D1 : Draws prog w A i1 fp1 n1 P1 St1) (D2 : Draws prog w A i2 fp2 n2 P2 St2)
    (hz : IsZipHeld s.heap z TI TO T f) (hT : s.heap.get? T = some oT) (hTI : IsPair s.heap TI (.ref i1) (.ref i2)) (st1 : St1 i s.heap) (st2 : St2 i s.heap) (lt1 : i < n1) (lt2 : i < n2)
    (q : ∀ x y h' tk, P1 i x → P2 i y → IsZipHeld h' z TI TO T true → St1 (i + 1) h' → St2 (i + 1) h' → IsPair h' s.heap.objs.size x y → h'.objs.size = s.heap.objs.size + 1 →
      (∀ c o, c ≠ z → c ≠ i1 → c ≠ i2 → s.heap.get? c = some o → h'.get? c = some o) → Q (.ref s.heap.objs.size) { s with heap := h', toks := tk }) :
    wpAny (model prog w) A (Builtin.«zip.__next__» ⟨[.ref z], []⟩) (fun fin s' => ∃ v, fin = .done (.ret v) ∧ Q v s') E s := by
  obtain ⟨hp, gs, dr, tk0, os⟩ := s
  show wpAny _ _ (field (.ref z) 2 >>= _) _ _ _
  refine wpAny_bind (wpAny_field hz rfl (x := .bool false) rfl ?_)
  show wpAny _ _ (field (.ref z) 3 >>= _) _ _ _
  refine wpAny_bind (wpAny_field hz rfl (x := .ref TI) rfl ?_)
  refine wpAny_bind (wpAny_seqItems hTI rfl ?_)
  show wpAny _ _ (Builtin.SmallTypes.ownedTupleIsFree (.ref z) >>= _) _ _ _
  refine wpAny_bind (wpAny_tupleHeld_zip hz hT fun g0 hz0 hs0 => ?_)
  replace hs0 : Heap.SameBut z hp g0 := hs0
  simp only [Bool.false_eq_true, if_false]
  refine wpAny_bind ?_
  rw [← Array.forIn_toList]
  simp only [List.forIn_cons, List.forIn_nil]
  refine wpAny_bind (wpAny_bind (wpAny_holding ?_))
  show wpAny _ _ (Builtin.SmallTypes.nextOf (.ref i1) >>= _) _ _ ⟨g0, gs, dr, tk0, os⟩
  refine wpAny_bind (D1.item i _ _ _ lt1 (D1.over st1 hs0 S.zf1) fun x p1 tk1 hx sn1 hp1 => wpAny_pure ?_)
  replace hp1 : Heap.SameBut i1 g0 p1 := hp1
  refine wpAny_pure ?_
  refine wpAny_bind (wpAny_bind (wpAny_holding ?_))
  show wpAny _ _ (Builtin.SmallTypes.nextOf (.ref i2) >>= _) _ _ ⟨p1, gs, dr, tk1, os⟩
  refine wpAny_bind (D2.item i _ _ _ lt2 (D2.over (D2.over st2 hs0 S.zf2) hp1 S.sep1_2) fun y p2 tk2 hy sn2 hp2 => wpAny_pure ?_)
  replace hp2 : Heap.SameBut i2 p1 p2 := hp2
  refine wpAny_pure (wpAny_pure ?_)
  show wpAny _ _ (newTuple [x, y] >>= _) _ _ ⟨p2, gs, dr, tk2, os⟩
  refine wpAny_bind (wpAny_newTuple ?_)
  have sz : p2.objs.size = hp.objs.size := by rw [hp2.1, hp1.1, hs0.1]
  have hzz : IsZipHeld p2 z TI TO T true := hp2.extBut _ _ S.zi2 (hp1.extBut _ _ S.zi1 hz0)
  have kk : ∀ c o, c ≠ z → c ≠ i1 → c ≠ i2 → hp.get? c = some o → p2.get? c = some o := fun c o c1 c2 c3 e => hp2.extBut _ _ c3 (hp1.extBut _ _ c2 (hs0.extBut _ _ c1 e))
  have m1 : St1 (i + 1) p2 := D1.over sn1 hp2 S.sep2_1
  refine wpAny_pure ⟨_, rfl, ?_⟩
  show Q (.ref p2.objs.size) _
  have pr : IsPair (p2.push { cls := .type "tuple", data := .seq #[x, y] }) p2.objs.size x y := Heap.get?_push_size _ rfl
  have sz2 : (p2.push { cls := .type "tuple", data := .seq #[x, y] }).objs.size = p2.objs.size + 1 := Heap.size_push ..
  rw [sz] at pr sz2 ⊢
  exact q x y _ tk2 hx hy (Heap.get?_push_of_some _ hzz) (D1.frame _ _ _ m1 fun b _ o e => Heap.get?_push_of_some _ e) (D2.frame _ _ _ sn2 fun b _ o e => Heap.get?_push_of_some _ e) pr sz2 fun c o c1 c2 c3 e => Heap.get?_push_of_some _ (kk c o c1 c2 c3 e)
theorem heldD_end {Q : Fin → Shared → Prop} (S : ZipSep2 z TI TO i1 i2 fp1 fp2) (D1 : Draws prog w A i1 fp1 n1 P1 St1) (D2 : Draws prog w A i2 fp2 n2 P2 St2)
    (hz : IsZipHeld s.heap z TI TO T f) (hT : s.heap.get? T = some oT) (hTI : IsPair s.heap TI (.ref i1) (.ref i2)) (st1 : St1 i s.heap) (st2 : St2 i s.heap) (le2 : i ≤ n2) (en : i = n1)
    (hE : ∀ h' tk e, (∀ c o, c ≠ z → c ≠ i1 → c ≠ i2 → s.heap.get? c = some o → h'.get? c = some o) → (∃ o, h'.get? e = some o ∧ o.cls = .type "StopIteration") → E (.ref e) { s with heap := h', toks := tk }) :
    wpAny (model prog w) A (Builtin.«zip.__next__» ⟨[.ref z], []⟩) Q E s := by
  obtain ⟨hp, gs, dr, tk0, os⟩ := s
  show wpAny _ _ (field (.ref z) 2 >>= _) _ _ _
  refine wpAny_bind (wpAny_field hz rfl (x := .bool false) rfl ?_)
  show wpAny _ _ (field (.ref z) 3 >>= _) _ _ _
  refine wpAny_bind (wpAny_field hz rfl (x := .ref TI) rfl ?_)
  refine wpAny_bind (wpAny_seqItems hTI rfl ?_)
  show wpAny _ _ (Builtin.SmallTypes.ownedTupleIsFree (.ref z) >>= _) _ _ _
  refine wpAny_bind (wpAny_tupleHeld_zip hz hT fun g0 hz0 hs0 => ?_)
  replace hs0 : Heap.SameBut z hp g0 := hs0
  simp only [Bool.false_eq_true, if_false]
  refine wpAny_bind ?_
  rw [← Array.forIn_toList]
  simp only [List.forIn_cons, List.forIn_nil]
  refine wpAny_bind (wpAny_bind (wpAny_holding ?_))
  show wpAny _ _ (Builtin.SmallTypes.nextOf (.ref i1) >>= _) _ _ ⟨g0, gs, dr, tk0, os⟩
  subst en
  refine wpAny_bind (D1.done ⟨g0, gs, dr, tk0, os⟩ _ _ (D1.over st1 hs0 S.zf1) fun g1 e hq he => ?_)
  exact hE g1 tk0 e (fun c o c1 c2 _ x => hq _ _ c2 (hs0.extBut _ _ c1 x)) he
/-- the zip of the tuples t1, t2, both of n items, behind i turns; the list's buffer stands at L -/
structure ZSt (h : Heap) (z TI TO i1 i2 t1 t2 L : Addr) (xs ys : Array Value) (i : Nat) : Prop where
  ti : IsPair h TI (.ref i1) (.ref i2)
  j1 : h.IsTupleIter i1 t1 i
  u1 : h.IsTuple t1 xs
  j2 : h.IsTupleIter i2 t2 i
  u2 : h.IsTuple t2 ys
  out : (IsZip h z TI TO .none ∧ ∃ a b, IsPair h TO a b) ∨ ∃ T f oT, IsZipHeld h z TI TO T f ∧ h.get? T = some oT ∧ T ≠ L
theorem ZSt.at {h h' : Heap} {t1 t2 L : Addr} {xs ys : Array Value} (x : ZSt h z TI TO i1 i2 t1 t2 L xs ys i) (k : ∀ b o, b ≠ L → h.get? b = some o → h'.get? b = some o) (n : L ≠ z ∧ L ≠ TI ∧ L ≠ TO ∧ L ≠ i1 ∧ L ≠ i2 ∧ L ≠ t1 ∧ L ≠ t2) : ZSt h' z TI TO i1 i2 t1 t2 L xs ys i := by
  obtain ⟨n1, n2, n3, n4, n5, n6, n7⟩ := n
  refine ⟨k _ _ n2.symm x.ti, x.j1.at fun o e => k _ _ n4.symm e, x.u1.at fun o e => k _ _ n6.symm e, x.j2.at fun o e => k _ _ n5.symm e, x.u2.at fun o e => k _ _ n7.symm e, ?_⟩
  rcases x.out with ⟨a, b, c, d⟩ | ⟨T, f, oT, a, b, c⟩
  · exact .inl ⟨k _ _ n1.symm a, b, c, k _ _ n3.symm d⟩
  · exact .inr ⟨T, f, oT, k _ _ n1.symm a, k _ _ c b, c⟩
theorem z_item {t1 t2 L : Addr} {xs ys : Array Value} {Q : Option Value → Shared → Prop} (hh : A.handled = none) (S : ZipSep2 z TI TO i1 i2 [i1, t1] [i2, t2]) (e1 : t1 ≠ i1) (e2 : t2 ≠ i2) (st : ZSt s.heap z TI TO i1 i2 t1 t2 L xs ys i) (lt1 : i < xs.size) (lt2 : i < ys.size) (hL : L < s.heap.objs.size)
    (q : ∀ h' tk, ZSt h' z TI TO i1 i2 t1 t2 L xs ys (i + 1) → IsPair h' s.heap.objs.size xs[i] ys[i] → h'.objs.size = s.heap.objs.size + 1 → (∀ c o, c ≠ z → c ≠ TO → c ≠ i1 → c ≠ i2 → s.heap.get? c = some o → h'.get? c = some o) → Q (some (.ref s.heap.objs.size)) { s with heap := h', toks := tk }) :
    wpAny (model prog w) A (pyNext (.ref z)) Q E s := by
  have D1 := Draws.tuple (prog := prog) (w := w) (A := A.in1) hh i1 t1 e1 xs
  have D2 := Draws.tuple (prog := prog) (w := w) (A := A.in1) hh i2 t2 e2 ys
  have got : ∀ {x y : Value}, xs[i]? = some x → ys[i]? = some y → x = xs[i] ∧ y = ys[i] := fun {x y} h1 h2 => by
    rw [Array.getElem?_eq_getElem lt1] at h1
    rw [Array.getElem?_eq_getElem lt2] at h2
    exact ⟨(Option.some.inj h1).symm, (Option.some.inj h2).symm⟩
  rcases st.out with ⟨hz, a, b, hTO⟩ | ⟨T, f, oT, hz, hT, hn⟩
  · refine wpAny_pyNext_zipD2_item S D1 D2 hz st.ti hTO ⟨st.j1, st.u1⟩ ⟨st.j2, st.u2⟩ lt1 lt2 fun x y h' tk hx hy hz' hTO' s1 s2 pr sz kk => ?_
    obtain ⟨rfl, rfl⟩ := got hx hy
    exact q h' tk ⟨kk _ _ S.TIz S.TITO S.TIi1 S.TIi2 st.ti, s1.1, s1.2, s2.1, s2.2, .inr ⟨_, false, _, hz', pr, Nat.ne_of_gt hL⟩⟩ pr sz kk
  · have hTy : s.TypeIs (.ref z) "zip" := ⟨_, hz, rfl⟩
    unfold pyNext
    refine wpAny_bind (wpAny_attempt (wpAny_callSpecial?_slot (name := Str.ofString "__next__") hTy F.slot_zip_next (wpAny_call_entry F.slot_zip_next hTy F.entry_zip_next
      (heldD_item S D1 D2 hz hT st.ti ⟨st.j1, st.u1⟩ ⟨st.j2, st.u2⟩ lt1 lt2 fun x y h' tk hx hy hz' s1 s2 pr sz kk => wpAny_pure ?_) (F.args_zip_next_1 _))))
    obtain ⟨rfl, rfl⟩ := got hx hy
    have nT : T ≠ z ∧ T ≠ i1 ∧ T ≠ i2 ∨ True := .inr trivial
    refine q h' tk ⟨kk _ _ S.TIz S.TIi1 S.TIi2 st.ti, s1.1, s1.2, s2.1, s2.2, ?_⟩ pr sz fun c o c1 _ c2 c3 e => kk c o c1 c2 c3 e
    by_cases h1 : T = z
    · exact .inr ⟨T, true, _, hz', by rw [h1]; exact hz', hn⟩
    · by_cases h2 : T = i1
      · obtain ⟨o, ho, _⟩ := s1.1
        exact .inr ⟨T, true, o, hz', by rw [h2]; exact ho, hn⟩
      · by_cases h3 : T = i2
        · obtain ⟨o, ho, _⟩ := s2.1
          exact .inr ⟨T, true, o, hz', by rw [h3]; exact ho, hn⟩
        · exact .inr ⟨T, true, oT, hz', kk T oT h1 h2 h3 hT, hn⟩
theorem z_end {t1 t2 L : Addr} {xs ys : Array Value} {Q : Option Value → Shared → Prop} (hh : A.handled = none) (S : ZipSep2 z TI TO i1 i2 [i1, t1] [i2, t2]) (e1 : t1 ≠ i1) (e2 : t2 ≠ i2) (st : ZSt s.heap z TI TO i1 i2 t1 t2 L xs ys i) (en : i = xs.size) (le2 : i ≤ ys.size)
    (q : ∀ h' tk, (∀ c o, c ≠ z → c ≠ TO → c ≠ i1 → c ≠ i2 → s.heap.get? c = some o → h'.get? c = some o) → Q none { s with heap := h', toks := tk }) : wpAny (model prog w) A (pyNext (.ref z)) Q E s := by
  have D1 := Draws.tuple (prog := prog) (w := w) (A := A.in1) hh i1 t1 e1 xs
  have D2 := Draws.tuple (prog := prog) (w := w) (A := A.in1) hh i2 t2 e2 ys
  rcases st.out with ⟨hz, a, b, hTO⟩ | ⟨T, f, oT, hz, hT, hn⟩
  · exact wpAny_pyNext_zipD2_end S D1 D2 hz st.ti hTO ⟨st.j1, st.u1⟩ ⟨st.j2, st.u2⟩ (Nat.le_of_eq en) le2 (.inl en) q
  · have hTy : s.TypeIs (.ref z) "zip" := ⟨_, hz, rfl⟩
    unfold pyNext
    refine wpAny_bind (wpAny_attempt (wpAny_callSpecial?_slot (name := Str.ofString "__next__") hTy F.slot_zip_next (wpAny_call_entry F.slot_zip_next hTy F.entry_zip_next
      (heldD_end S D1 D2 hz hT st.ti ⟨st.j1, st.u1⟩ ⟨st.j2, st.u2⟩ le2 en fun h' tk e kk he => ?_) (F.args_zip_next_1 _))))
    obtain ⟨o, ho, hc⟩ := he
    refine wpAny_bind (wpAny_isInstance (T := "StopIteration") (b := true) ⟨o, ho, hc⟩ isSubtype_stop ?_)
    exact wpAny_pure (q h' tk fun c o c1 _ c2 c3 e => kk c o c1 c2 c3 e)
end
end DL
end

section
set_option Elab.async false
set_option autoImplicit false
set_option linter.all false
set_option maxRecDepth 100000
set_option maxHeartbeats 4000000
/-! tuple(zip(t, u)), the list's buffer and the call. -/
namespace DL
open PySem PySem.Spec PyProof.Rows L2

theorem zip_nolen : typeLookup (.type "zip") "__len__" = pure none := by rw [typeLookup_type, builtinLookup_eq_fast]; kernel_rfl
theorem zip_nohint : typeLookup (.type "zip") "__length_hint__" = pure none := by rw [typeLookup_type, builtinLookup_eq_fast]; kernel_rfl
def refs (Ts : List Addr) : List Value := Ts.map Value.ref
/-- the first pairs of xs, ys stand at Ts, behind what stood at the size m -/
def Prs (h : Heap) (m : Nat) (xs ys : Array Value) (Ts : List Addr) : Prop := ∀ (j : Nat) (T : Addr), Ts[j]? = some T → m ≤ T ∧ ∃ x y, xs[j]? = some x ∧ ys[j]? = some y ∧ IsPair h T x y
section
variable {prog : Program} {w : World} {A : Around} {E : Value → Shared → Prop} {z TI TO i1 i2 t1 t2 L : Addr} {xs ys : Array Value}
theorem snoc2 {α : Type} {S : List α} {x y : α} {n : Nat} (h : (S ++ [x])[n]? = some y) : (n < S.length ∧ S[n]? = some y) ∨ (n = S.length ∧ y = x) := by
  by_cases hn : n < S.length
  · rw [List.getElem?_append_left hn] at h
    exact .inl ⟨hn, h⟩
  · by_cases he : n = S.length
    · subst he
      simp at h
      exact .inr ⟨rfl, h.symm⟩
    · rw [List.getElem?_eq_none (by rw [List.length_append, List.length_singleton]; omega)] at h
      cases h
theorem z_loop {R : Result → Shared → Prop} {res : Value} {m : Nat} (hh : A.handled = none) (S : ZipSep2 z TI TO i1 i2 [i1, t1] [i2, t2]) (e1 : t1 ≠ i1) (e2 : t2 ≠ i2) (nL : L ≠ z ∧ L ≠ TI ∧ L ≠ TO ∧ L ≠ i1 ∧ L ≠ i2 ∧ L ≠ t1 ∧ L ≠ t2) (hle : xs.size ≤ ys.size) (hsz : xs.size ≤ sizeLine)
    (old : z < m ∧ TO < m ∧ i1 < m ∧ i2 < m ∧ L < m) :
    ∀ (k i : Nat) (s : Shared) (Ts : List Addr) (c : Nat), xs.size - i = k → i ≤ xs.size → ZSt s.heap z TI TO i1 i2 t1 t2 L xs ys i → s.heap.get? L = some { cls := .type "list", dict := none, data := .seq (refs Ts).toArray c, slots := #[] } → Ts.length = i → Ts.Nodup → Prs s.heap m xs ys Ts → m ≤ s.heap.objs.size → (∀ T ∈ Ts, T < s.heap.objs.size) →
      (∀ h' tk Ts' c', Ts'.length = xs.size → Ts'.Nodup → Prs h' m xs ys Ts' → h'.get? L = some { cls := .type "list", dict := none, data := .seq (refs Ts').toArray c', slots := #[] } → (∀ b o, b ≠ L → b ≠ z → b ≠ TO → b ≠ i1 → b ≠ i2 → s.heap.get? b = some o → h'.get? b = some o) → R (.ok (.ret res)) { s with heap := h', toks := tk }) →
      codeAny (model prog w) A (.builtin "list.extend.loop" ⟨[.ref L, .ref z, res], []⟩) R s := by
  intro k
  induction k with
  | zero =>
    intro i s Ts c hk hi st hL hlen nd prs hm hlt q
    have ei : i = xs.size := by omega
    refine codeAny_builtin F.entry_extend_loop ?_
    rw [Around.under_plainId F.plain_extend_loop _]
    show wpAny _ A.in1 (pyNext (.ref z) >>= _) _ _ s
    refine wpAny_bind (z_end hh S e1 e2 st ei (by omega) fun h' tk kk => ?_)
    refine wpAny_pure (q h' tk Ts c (by rw [hlen, ei]) nd (fun j T hT => ?_) (kk _ _ nL.1 nL.2.2.1 nL.2.2.2.1 nL.2.2.2.2.1 hL) fun b o _ b1 b2 b3 b4 e => kk b o b1 b2 b3 b4 e)
    obtain ⟨g1, x, y, g2, g3, g4⟩ := prs j T hT
    have ne : ∀ b, b < m → T ≠ b := fun b hb e => Nat.lt_irrefl b (Nat.lt_of_lt_of_le hb (e ▸ g1))
    exact ⟨g1, x, y, g2, g3, kk _ _ (ne _ old.1) (ne _ old.2.1) (ne _ old.2.2.1) (ne _ old.2.2.2.1) g4⟩
  | succ k ih =>
    intro i s Ts c hk hi st hL hlen nd prs hm hlt q
    have lt1 : i < xs.size := by omega
    have lt2 : i < ys.size := by omega
    have LLt : L < s.heap.objs.size := Heap.lt_size hL
    refine codeAny_builtin F.entry_extend_loop ?_
    rw [Around.under_plainId F.plain_extend_loop _]
    show wpAny _ A.in1 (pyNext (.ref z) >>= _) _ _ s
    refine wpAny_bind (z_item hh S e1 e2 st lt1 lt2 LLt fun h' tk st' pr sz kk => ?_)
    have hL' := kk _ _ nL.1 nL.2.2.1 nL.2.2.2.1 nL.2.2.2.2.1 hL
    show wpAny _ A.in1 (updateSeq L (·.push (.ref s.heap.objs.size)) >>= _) _ _ _
    refine wpAny_bind ?_
    have szR : (refs Ts).toArray.size = i := by simp [refs, hlen]
    have szR2 : ((refs Ts).toArray.push (.ref s.heap.objs.size)).size = i + 1 := by rw [Array.size_push, szR]
    refine wpAny_updateSeq (s := { s with heap := h', toks := tk }) hL' rfl (wpAny_pure ⟨plainId_quiet F.plain_extend_loop _, ?_⟩) (by rw [szR]; omega) (by rw [szR2]; omega)
    have put : ∀ b o, b ≠ L → h'.get? b = some o → (h'.update L (Obj.mapSeq (·.push (.ref s.heap.objs.size)))).get? b = some o := fun b o hb e => (Heap.get?_update_other _ _ (Ne.symm hb)).trans e
    have ne : ∀ {T : Addr}, m ≤ T → ∀ b, b < m → T ≠ b := fun g1 b hb e => Nat.lt_irrefl b (Nat.lt_of_lt_of_le hb (e ▸ g1))
    have sU : (h'.update L (Obj.mapSeq (·.push (.ref s.heap.objs.size)))).objs.size = s.heap.objs.size + 1 := by
      have z1 : (h'.update L (Obj.mapSeq (·.push (.ref s.heap.objs.size)))).objs.size = h'.objs.size := (Heap.SameBut.update ..).1
      rw [z1, sz]
    have hLU := Heap.get?_update_self (h := h') (Obj.mapSeq (·.push (.ref s.heap.objs.size))) hL' rfl
    have eP : ((refs Ts).toArray.push (.ref s.heap.objs.size)) = (refs (Ts ++ [s.heap.objs.size])).toArray := by simp [refs]
    obtain ⟨c2, hLU2⟩ : ∃ c2, (h'.update L (Obj.mapSeq (·.push (.ref s.heap.objs.size)))).get? L = some { cls := .type "list", dict := none, data := .seq (refs (Ts ++ [s.heap.objs.size])).toArray c2, slots := #[] } := ⟨_, by
      rw [← eP]
      exact hLU⟩
    refine ih (i + 1) { s with heap := h'.update L (Obj.mapSeq (·.push (.ref s.heap.objs.size))), toks := tk } (Ts ++ [s.heap.objs.size]) c2 (by omega) lt1 (st'.at put nL) ?_ (by rw [List.length_append, hlen]; rfl) ?_ ?_ ?_ ?_ ?_
    · exact hLU2
    · rw [List.nodup_append]
      refine ⟨nd, by simp, fun a ha b hb => ?_⟩
      rw [List.mem_singleton] at hb
      rw [hb]
      exact Nat.ne_of_lt (hlt a ha)
    · intro j T hT
      rcases snoc2 hT with ⟨hj, hT⟩ | ⟨hj, hT⟩
      · obtain ⟨g1, x, y, g2, g3, g4⟩ := prs j T hT
        exact ⟨g1, x, y, g2, g3, put _ _ (ne g1 _ old.2.2.2.2) (kk _ _ (ne g1 _ old.1) (ne g1 _ old.2.1) (ne g1 _ old.2.2.1) (ne g1 _ old.2.2.2.1) g4)⟩
      · subst hT
        rw [hlen] at hj
        subst hj
        exact ⟨hm, xs[j], ys[j], Array.getElem?_eq_getElem lt1, Array.getElem?_eq_getElem lt2, put _ _ (ne hm _ old.2.2.2.2) pr⟩
    · show m ≤ (h'.update L (Obj.mapSeq (·.push (.ref s.heap.objs.size)))).objs.size
      rw [sU]
      omega
    · intro T hT
      show T < (h'.update L (Obj.mapSeq (·.push (.ref s.heap.objs.size)))).objs.size
      rw [sU]
      rcases List.mem_append.mp hT with hT | hT
      · exact Nat.lt_succ_of_lt (hlt T hT)
      · rw [List.mem_singleton] at hT
        rw [hT]
        exact Nat.lt_succ_self _
    · intro h2 tk2 Ts' c' l1 l2 l3 l4 l5
      exact q h2 tk2 Ts' c' l1 l2 l3 l4 fun b o b0 b1 b2 b3 b4 e => l5 b o b0 b1 b2 b3 b4 (put b o b0 (kk b o b1 b2 b3 b4 e))
end
end DL
end

section
set_option Elab.async false
set_option autoImplicit false
set_option linter.all false
set_option maxRecDepth 100000
set_option maxHeartbeats 4000000
/-! tuple(zip(t, u)): the call; several new tuples at once. -/
namespace DL
open PySem PySem.Spec PyProof.Rows L2

section
variable {prog : Program} {w : World} {A : Around} {E : Value → Shared → Prop} {s : Shared} {z TI TO i1 i2 t1 t2 : Addr} {xs ys : Array Value}
/-- the zip over two tuples as it begins -/
structure Z0 (h : Heap) (z TI TO i1 i2 t1 t2 : Addr) (xs ys : Array Value) : Prop where
  hz : IsZip h z TI TO .none
  ti : IsPair h TI (.ref i1) (.ref i2)
  to : ∃ a b, IsPair h TO a b
  j1 : h.IsTupleIter i1 t1 0
  u1 : h.IsTuple t1 xs
  j2 : h.IsTupleIter i2 t2 0
  u2 : h.IsTuple t2 ys
theorem z_collect {Q : List Value → Shared → Prop} (hh : A.handled = none) (S : ZipSep2 z TI TO i1 i2 [i1, t1] [i2, t2]) (e1 : t1 ≠ i1) (e2 : t2 ≠ i2) (hle : xs.size ≤ ys.size) (hsz : xs.size ≤ sizeLine) (Z : Z0 s.heap z TI TO i1 i2 t1 t2 xs ys)
    (q : ∀ h' tk Ts, Ts.length = xs.size → Ts.Nodup → Prs h' s.heap.objs.size xs ys Ts → (∀ b o, b ≠ z → b ≠ TO → b ≠ i1 → b ≠ i2 → s.heap.get? b = some o → h'.get? b = some o) → Q (refs Ts) { s with heap := h', toks := tk }) :
    wpAny (model prog w) A (collect (.ref z)) Q E s := by
  have lz : z < s.heap.objs.size := Heap.lt_size Z.hz
  have lTI : TI < s.heap.objs.size := Heap.lt_size Z.ti
  have lTO : TO < s.heap.objs.size := by
    obtain ⟨a, b, h⟩ := Z.to
    exact Heap.lt_size h
  have l1 : i1 < s.heap.objs.size := by
    obtain ⟨_, h, _⟩ := Z.j1
    exact Heap.lt_size h
  have l2 : i2 < s.heap.objs.size := by
    obtain ⟨_, h, _⟩ := Z.j2
    exact Heap.lt_size h
  have lt1 : t1 < s.heap.objs.size := by
    obtain ⟨_, h, _⟩ := Z.u1
    exact Heap.lt_size h
  have lt2 : t2 < s.heap.objs.size := by
    obtain ⟨_, h, _⟩ := Z.u2
    exact Heap.lt_size h
  have nL : s.heap.objs.size ≠ z ∧ s.heap.objs.size ≠ TI ∧ s.heap.objs.size ≠ TO ∧ s.heap.objs.size ≠ i1 ∧ s.heap.objs.size ≠ i2 ∧ s.heap.objs.size ≠ t1 ∧ s.heap.objs.size ≠ t2 :=
    ⟨Nat.ne_of_gt lz, Nat.ne_of_gt lTI, Nat.ne_of_gt lTO, Nat.ne_of_gt l1, Nat.ne_of_gt l2, Nat.ne_of_gt lt1, Nat.ne_of_gt lt2⟩
  have psh : ∀ b o, s.heap.get? b = some o → (s.heap.push { cls := .type "list", data := .seq ([] : List Value).toArray }).get? b = some o := fun b o e => Heap.get?_push_of_some _ e
  have hTy : ({ s with heap := s.heap.push { cls := .type "list", data := .seq ([] : List Value).toArray } } : Shared).TypeIs (.ref z) "zip" := ⟨_, psh _ _ Z.hz, rfl⟩
  unfold collect
  refine wpAny_bind (wpAny_runValue (codeAny_builtin F.entry_proto_collect ?_))
  rw [Around.under_plainId F.plain_proto_collect _]
  show wpAny _ A.in1 (newList [] >>= fun l => again (.builtin "list.__iadd__" ⟨[l, .ref z], []⟩)) _ _ s
  refine wpAny_bind (wpAny_newObj_type ?_)
  refine wpAny_pure ⟨plainId_quiet F.plain_list_iadd _, codeAny_builtin F.entry_list_iadd ?_⟩
  rw [Around.under_plainId F.plain_list_iadd _]
  show wpAny _ A.in1 (Builtin.List.listExtendWith (.ref s.heap.objs.size) (.ref z) (.ref s.heap.objs.size)) _ _ _
  unfold Builtin.List.listExtendWith
  refine wpAny_bind (wpAny_typeOf hTy ?_)
  have k1 : Builtin.List.listSameRef (.ref s.heap.objs.size) (.ref z) = false := by simp [Builtin.List.listSameRef, nL.1]
  have k2 : (Value.type "zip" == Value.type "list") = false := by decide
  have k3 : (Value.type "zip" == Value.type "tuple") = false := by decide
  simp only [k1, k2, k3, Bool.or_false, Bool.false_eq_true, if_false]
  refine wpAny_bind (wpAny_pyIter_zip (s := { s with heap := s.heap.push { cls := .type "list", data := .seq ([] : List Value).toArray } }) (psh _ _ Z.hz) ?_)
  refine wpAny_bind (wpAny_holding ?_)
  unfold Builtin.List.listLengthHint
  refine wpAny_bind (wpAny_specialOf hTy zip_nolen ?_)
  show wpAny _ A.in1 (specialOf (Value.ref z) (Str.ofString "__length_hint__") >>= _) _ _ _
  refine wpAny_bind (wpAny_specialOf hTy zip_nohint ?_)
  refine wpAny_pure ?_
  show wpAny _ A.in1 (rule "list.extend.makes-room" >>= fun _ => Builtin.List.listTouch (.ref s.heap.objs.size) >>= fun _ =>
    again (.builtin "list.extend.loop" ⟨[.ref s.heap.objs.size, .ref z, .ref s.heap.objs.size], []⟩)) _ _ _
  refine wpAny_bind (wpAny_rule ?_)
  have hS1 : (s.heap.push { cls := .type "list", data := .seq ([] : List Value).toArray }).get? s.heap.objs.size = some { cls := .type "list", data := .seq ([] : List Value).toArray } := Heap.get?_push_size _ rfl
  refine wpAny_bind ?_
  show wpAny _ A.in1 (updateSeq s.heap.objs.size (·.push .none) >>= fun _ => updateSeq s.heap.objs.size (·.pop)) _ _ _
  refine wpAny_bind (wpAny_updateSeq hS1 rfl ?_)
  have hS2 := Heap.get?_update_self (Obj.mapSeq (·.push Value.none)) hS1 rfl
  refine wpAny_updateSeq hS2 rfl ?_
  have hS3 := Heap.get?_update_self (Obj.mapSeq (·.pop)) hS2 rfl
  generalize hg : (((s.heap.push { cls := .type "list", data := .seq ([] : List Value).toArray }).update s.heap.objs.size (Obj.mapSeq (·.push Value.none))).update s.heap.objs.size (Obj.mapSeq (·.pop))) = g at hS3
  have oth : ∀ b o, b ≠ s.heap.objs.size → s.heap.get? b = some o → g.get? b = some o := fun b o hb e => by
    rw [← hg]
    exact (Heap.get?_update_other _ _ (Ne.symm hb)).trans ((Heap.get?_update_other _ _ (Ne.symm hb)).trans (psh b o e))
  have gsz : g.objs.size = s.heap.objs.size + 1 := by
    rw [← hg]
    have z1 := (Heap.SameBut.update (s.heap.push { cls := .type "list", data := .seq ([] : List Value).toArray }) s.heap.objs.size (Obj.mapSeq (·.push Value.none))).1
    have z2 := (Heap.SameBut.update ((s.heap.push { cls := .type "list", data := .seq ([] : List Value).toArray }).update s.heap.objs.size (Obj.mapSeq (·.push Value.none))) s.heap.objs.size (Obj.mapSeq (·.pop))).1
    rw [z2, z1, Heap.size_push]
  have ne : ∀ {b : Addr}, b < s.heap.objs.size → b ≠ s.heap.objs.size := fun h => Nat.ne_of_lt h
  obtain ⟨ta, tb, hto⟩ := Z.to
  refine wpAny_pure ⟨plainId_quiet F.plain_extend_loop _, z_loop (L := s.heap.objs.size) (m := s.heap.objs.size + 1) (A := A) hh S e1 e2 nL hle hsz ⟨Nat.lt_succ_of_lt lz, Nat.lt_succ_of_lt lTO, Nat.lt_succ_of_lt l1, Nat.lt_succ_of_lt l2, Nat.lt_succ_self _⟩ xs.size 0 { s with heap := g } [] _ rfl (Nat.zero_le _)
    ⟨oth _ _ (ne lTI) Z.ti, Z.j1.at fun o e => oth _ _ (ne l1) e, Z.u1.at fun o e => oth _ _ (ne lt1) e, Z.j2.at fun o e => oth _ _ (ne l2) e, Z.u2.at fun o e => oth _ _ (ne lt2) e, .inl ⟨oth _ _ (ne lz) Z.hz, ta, tb, oth _ _ (ne lTO) hto⟩⟩ hS3 rfl List.nodup_nil (fun j T h => by simp at h) (Nat.le_of_eq gsz.symm) (fun T h => by simp at h) fun h' tk Ts c' a1 a2 a3 a4 a5 => ?_⟩
  show wpAny _ A (load s.heap.objs.size >>= _) _ _ _
  refine wpAny_bind (wpAny_load a4 ?_)
  refine wpAny_pure ?_
  refine q h' tk Ts a1 a2 (fun j T hT => ?_) fun b o b1 b2 b3 b4 e => a5 b o (ne (Heap.lt_size e)) b1 b2 b3 b4 (oth b o (ne (Heap.lt_size e)) e)
  obtain ⟨g1, r⟩ := a3 j T hT
  exact ⟨Nat.le_of_succ_le g1, r⟩
theorem z_new {Q1 : Value → Shared → Prop} (hh : A.handled = none) (S : ZipSep2 z TI TO i1 i2 [i1, t1] [i2, t2]) (e1 : t1 ≠ i1) (e2 : t2 ≠ i2) (hle : xs.size ≤ ys.size) (hsz : xs.size ≤ sizeLine) (Z : Z0 s.heap z TI TO i1 i2 t1 t2 xs ys)
    (q : ∀ h' tk Ts, Ts.length = xs.size → Ts.Nodup → Prs h' s.heap.objs.size xs ys Ts → (∀ b o, b ≠ z → b ≠ TO → b ≠ i1 → b ≠ i2 → s.heap.get? b = some o → h'.get? b = some o) →
      Q1 (.ref h'.objs.size) { s with heap := h'.push { cls := .type "tuple", data := .seq (refs Ts).toArray }, toks := tk }) :
    codeAny (model prog w) A (.call (.builtin "tuple.__new__") ⟨[.type "tuple", .ref z], []⟩) (wants Q1 E) s := by
  refine codeAny_of_tree ?_
  show wpAny _ A.in1 (do checkBuiltinCall "tuple.__new__" ⟨[.type "tuple", .ref z], []⟩; again (.builtin "tuple.__new__" ⟨[.type "tuple", .ref z], []⟩)) _ _ s
  refine wpAny_bind (wpAny_of_eq (F.newCall_tuple_1 _) (wpAny_pure ⟨plainId_quiet F.plain_tuple_new _, codeAny_builtin F.entry_tuple_new ?_⟩))
  rw [Around.under_plainId F.plain_tuple_new _]
  have hsub := sub_tuple_self
  have hinit := init_tuple_lookup
  have hmh := madeHere_tuple
  have hTI : s.TypeIs (.ref z) "zip" := ⟨_, Z.hz, rfl⟩
  have hh1 : A.in1.handled = none := hh
  wp_walk using wpAny_typeOf hTI, z_collect (A := A.in1) hh1 S e1 e2 hle hsz Z
  intro h' tk Ts a1 a2 a3 a4
  show wpAny _ _ (Builtin.Tuple.tupleExact (refs Ts).toArray >>= fun v => ret v) _ _ _
  unfold Builtin.Tuple.tupleExact
  refine wpAny_bind (wpAny_newObj_type ?_ (by show (refs Ts).toArray.size ≤ sizeLine; simp only [refs, List.size_toArray, List.length_map]; rw [a1]; exact hsz))
  refine wpAny_pure ?_
  exact q h' tk Ts a1 a2 a3 a4
theorem call_tupleZ {Q : Value → Shared → Prop} (hh : A.handled = none) (S : ZipSep2 z TI TO i1 i2 [i1, t1] [i2, t2]) (e1 : t1 ≠ i1) (e2 : t2 ≠ i2) (hle : xs.size ≤ ys.size) (hsz : xs.size ≤ sizeLine) (Z : Z0 s.heap z TI TO i1 i2 t1 t2 xs ys)
    (q : ∀ h' tk Ts, Ts.length = xs.size → Ts.Nodup → Prs h' s.heap.objs.size xs ys Ts → (∀ b o, b ≠ z → b ≠ TO → b ≠ i1 → b ≠ i2 → s.heap.get? b = some o → h'.get? b = some o) →
      Q (.ref h'.objs.size) { s with heap := h'.push { cls := .type "tuple", data := .seq (refs Ts).toArray }, toks := tk }) :
    wpAny (model prog w) A (call (.type "tuple") [.ref z]) Q E s := by
  refine callType_codes (Q₁ := fun obj s1 => s1.TypeIs obj "tuple" ∧ Q obj s1) F.called_tuple (F.typeCall_tuple_1 _) F.entry_object_init
    (z_new (A := A.in1) hh S e1 e2 hle hsz Z fun h' tk Ts a1 a2 a3 a4 => ⟨⟨_, Heap.get?_push_size _ rfl, rfl⟩, q h' tk Ts a1 a2 a3 a4⟩) fun obj s1 h1 => ?_
  exact ⟨h1.1, F.args_object_init_2 obj _, object_init_meets F.called_tuple.init.lookup F.called_tuple.made (by decide) prog w A.in1 _ s1 ⟨h1.1, rfl, h1.2⟩⟩
end
end DL
end

section
set_option Elab.async false
set_option autoImplicit false
set_option linter.all false
set_option maxRecDepth 100000
set_option maxHeartbeats 4000000
/-! tuple(zip(t, u)) as an expression. -/
namespace DL
open PySem PySem.Spec PyProof.Rows L2

/-- several new tuples -/
def upds (H : Hp) : List (Addr × List V) → Hp
  | [] => H
  | p :: r => upd (upds H r) p.1 (.tup p.2)
theorem upds_out {H : Hp} : ∀ {l : List (Addr × List V)} {b : Addr}, b ∉ l.map (·.1) → upds H l b = H b
  | [], _, _ => rfl
  | p :: r, b, h => by
    rw [List.map_cons, List.mem_cons, not_or] at h
    unfold upds
    rw [upd_ne h.1]
    exact upds_out h.2
theorem upds_in {H : Hp} : ∀ {l : List (Addr × List V)}, (l.map (·.1)).Nodup → ∀ p ∈ l, upds H l p.1 = some (.tup p.2)
  | [], _, _, h => nomatch h
  | p :: r, nd, q, h => by
    rw [List.map_cons, List.nodup_cons] at nd
    unfold upds
    cases h with
    | head => exact upd_same
    | tail _ h =>
      rw [upd_ne fun e => nd.1 (by rw [← e]; exact List.mem_map_of_mem h)]
      exact upds_in nd.2 q h
section
variable {X : Cx} {pins : List (Addr × Obj)} {σ : L2.St} {H : Hp} {s : Shared} {h' : Heap}
theorem Inv.many {t' : Nat} (I : L2.Inv X pins σ H s) (k : ∀ b o, s.heap.get? b = some o → h'.get? b = some o) (l : List (Addr × List V)) (hp : ∀ p ∈ l, s.heap.get? p.1 = none ∧ H p.1 = none) (nd : (l.map (·.1)).Nodup)
    (new : ∀ p ∈ l, p.2.length ≤ sizeLine ∧ ∃ its : List Value, Vals p.2 its ∧ IsTup h' p.1 its.toArray) : L2.Inv X pins σ (upds H l) { s with heap := h', toks := t' } := by
  have out : ∀ b o, s.heap.get? b = some o → b ∉ l.map (·.1) := fun b o e hm => by
    rw [List.mem_map] at hm
    obtain ⟨p, hp1, e1⟩ := hm
    have := (hp p hp1).1
    rw [e1, e] at this
    cases this
  have outH : ∀ b o, H b = some o → b ∉ l.map (·.1) := fun b o e hm => by
    rw [List.mem_map] at hm
    obtain ⟨p, hp1, e1⟩ := hm
    have := (hp p hp1).2
    rw [e1, e] at this
    cases this
  have same : ∀ b o, H b = some o → upds H l b = some o := fun b o e => by
    rw [upds_out (outH b o e)]
    exact e
  refine L2.Inv.un I (h' := h') (t' := t') ⟨fun b o e _ _ _ => k b o e, fun b o e _ _ _ => ⟨o.slots, k b o e⟩, fun b o e n _ => by rw [upds_out (out b o e)]; exact n, fun b o e _ => ⟨o, k b o e⟩, fun b xs e => same b _ e, fun b o u e => same b _ e, fun b ps e => ⟨#[], by rw [same b _ e]; simp⟩⟩ fun b o e => ?_
  by_cases hb : b ∈ l.map (·.1)
  · rw [List.mem_map] at hb
    obtain ⟨p, hp1, e1⟩ := hb
    subst e1
    rw [upds_in nd p hp1] at e
    cases e
    obtain ⟨z, its, r, t⟩ := new p hp1
    exact ⟨z, its, r, t⟩
  · rw [upds_out hb] at e
    exact (I.hok b o e).stay (fun c v _ q => k c v q) (fun c q => same c _ q) fun c xs q => same c _ q
def prsV (xs ys : List V) : List (List V) := List.zipWith (fun x y => [x, y]) xs ys
def tTupZ (K : PySem.W.Frag) (ta : TA) : TE := fun σ H Q => ta σ H fun vs H2 => ∃ (a b : Addr) (xs ys : List V), vs = [.ref a, .ref b] ∧ SqT K H2 a xs ∧ SqT K H2 b ys ∧ xs.length ≤ ys.length ∧
  ∀ (p : Addr) (Ts : List Addr), Ts.length = xs.length → (p :: Ts).Nodup → (∀ t ∈ p :: Ts, H2 t = none) → Q (.ref p) (upds H2 ((p, Ts.map V.ref) :: Ts.zip (prsV xs ys)))
theorem vals_refs : ∀ Ts : List Addr, Vals (Ts.map V.ref) (refs Ts)
  | [] => .nil
  | T :: Ts => .cons rfl (vals_refs Ts)
theorem zip_map_fst {α β : Type} : ∀ {l : List α} {r : List β}, l.length = r.length → (l.zip r).map (·.1) = l
  | [], [], _ => rfl
  | [], _ :: _, h => by cases h
  | _ :: _, [], h => by cases h
  | a :: l, b :: r, h => congrArg (a :: ·) (zip_map_fst (by simpa using h))
theorem pe_tupZ {ea eb : Expr} {ta : TA} {p p2 pos pos2 : Pos} (hc : X.calm = true) (hg : Gl X "tuple") (hm : X.mg "tuple" = none) (hg2 : Gl X "zip") (hm2 : X.mg "zip" = none) (ha : PA X [ea, eb] ta)
    (hs2 : starEach [ea, eb] X.env = (false, eval ea X.env) :: starEach [eb] X.env) (hpl : (backTo pos2 (starEach [eb] X.env)).any (·.1) = false) :
    PE X (.Call (.Name "tuple" p) [.Call (.Name "zip" p2) [ea, eb] [] pos2] [] pos) (tTupZ X.K ta) := by
  refine ⟨fun pins s σ H Q I h => ?_⟩
  have hs1 : starEach [.Call (.Name "zip" p2) [ea, eb] [] pos2] X.env = (false, eval (.Call (.Name "zip" p2) [ea, eb] [] pos2) X.env) :: starEach [] X.env := rfl
  refine Call_ (ld_blt I hg hm boot_tuple (PyProof.Rows.callWith_type1 (args_cons (Call_ (ld_blt I hg2 hm2 PyProof.Rows.boot_zip (PyProof.Rows.callWith_type1 (thn (ha.run pos2 pins s σ H _ I h) fun us s1 ⟨vs, H1, I1, r1, q1⟩ => ?_) hs2 hpl))) hs1) hs1 rfl))
  obtain ⟨a, b, xs, ys, ex, hqx, hqy, hle, q⟩ := q1
  subst ex
  cases r1 with
  | cons r rr =>
    cases rr with
    | cons r' rr =>
      cases rr
      cases r
      cases r'
      obtain ⟨is1, v1, pt1, z1⟩ := I1.tuple hqx
      obtain ⟨is2, v2, pt2, z2⟩ := I1.tuple hqy
      have u1 : s1.heap.IsTuple a is1.toArray := pt1
      have u2 : s1.heap.IsTuple b is2.toArray := pt2
      have la : a < s1.heap.objs.size := by
        obtain ⟨_, h, _⟩ := u1
        exact Heap.lt_size h
      have lb : b < s1.heap.objs.size := by
        obtain ⟨_, h, _⟩ := u2
        exact Heap.lt_size h
      refine zip_begins2 (begins_tuple a is1.toArray) (begins_tuple b is2.toArray) u1 u2 fun h1 hz ti to g1 g2 sz kk => args_nil ?_
      have I2 : L2.Inv X pins σ H1 { s1 with heap := h1 } := I1.kept (t' := s1.toks) kk
      have hsA : is1.toArray.size ≤ is2.toArray.size := by rw [List.size_toArray, List.size_toArray, ← v1.length, ← v2.length]; exact hle
      have hsB : is1.toArray.size ≤ sizeLine := by rw [List.size_toArray, ← v1.length]; exact z1
      refine call_tupleZ (s := { s1 with heap := h1 }) (I1.ok.hd hc) (zip_sep2 (fun b hb => by rw [List.mem_singleton] at hb; rw [hb]; exact la) (fun b hb => by rw [List.mem_singleton] at hb; rw [hb]; exact lb)) (Nat.ne_of_lt la) (Nat.ne_of_lt (Nat.lt_succ_of_lt lb)) hsA hsB ⟨hz, ti, ⟨_, _, to⟩, ⟨_, g1, rfl, rfl⟩, u1.at fun o e => kk _ _ e, ⟨_, g2, rfl, rfl⟩, u2.at fun o e => kk _ _ e⟩ fun h' tk Ts a1 a2 a3 a4 => ?_
      have lenT : Ts.length = xs.length := by rw [a1, List.size_toArray, v1.length]
      have lenP : (prsV xs ys).length = xs.length := by
        unfold prsV
        rw [List.length_zipWith]
        omega
      have kOld : ∀ b o, s1.heap.get? b = some o → h'.get? b = some o := fun b o e => by
        have lt := Heap.lt_size e
        refine a4 b o ?_ ?_ ?_ ?_ (kk b o e)
        · exact Nat.ne_of_lt (Nat.lt_of_lt_of_le lt (Nat.le_add_right _ 4))
        · exact Nat.ne_of_lt (Nat.lt_of_lt_of_le lt (Nat.le_add_right _ 3))
        · exact Nat.ne_of_lt lt
        · exact Nat.ne_of_lt (Nat.lt_succ_of_lt lt)
      have kNew : ∀ b o, h'.get? b = some o → (h'.push { cls := .type "tuple", data := .seq (refs Ts).toArray }).get? b = some o := fun b o e => Heap.get?_push_of_some _ e
      have geT : ∀ T ∈ Ts, s1.heap.objs.size ≤ T ∧ T < h'.objs.size := fun T hT => by
        obtain ⟨j, hj⟩ := List.getElem?_of_mem hT
        obtain ⟨g, x, y, _, _, pr⟩ := a3 j T hj
        exact ⟨Nat.le_trans (by rw [sz]; exact Nat.le_add_right _ 5) g, Heap.lt_size pr⟩
      have noP : s1.heap.get? h'.objs.size = none ∧ H1 h'.objs.size = none := by
        refine ⟨?_, ?_⟩
        · cases z : s1.heap.get? h'.objs.size with
          | none => rfl
          | some o => exact absurd (Heap.lt_size (kOld _ _ z)) (Nat.lt_irrefl _)
        · cases z : H1 h'.objs.size with
          | none => rfl
          | some o => exact absurd (L2.HOk.lt (I1.hok.kept kOld) z) (Nat.lt_irrefl _)
      have noT : ∀ T ∈ Ts, s1.heap.get? T = none ∧ H1 T = none := fun T hT => by
        refine ⟨?_, I1.hok.fresh (geT T hT).1⟩
        cases z : s1.heap.get? T with
        | none => rfl
        | some o => exact absurd (Nat.lt_of_lt_of_le (Heap.lt_size z) (geT T hT).1) (Nat.lt_irrefl _)
      have ndAll : (h'.objs.size :: Ts).Nodup := List.nodup_cons.mpr ⟨fun hm => Nat.lt_irrefl _ (geT _ hm).2, a2⟩
      have J := Inv.many (t' := tk) (h' := h'.push { cls := .type "tuple", data := .seq (refs Ts).toArray }) I1 (fun b o e => kNew b o (kOld b o e)) ((h'.objs.size, Ts.map V.ref) :: Ts.zip (prsV xs ys)) (fun p hp => ?_) ?_ fun p hp => ?_
      · exact ⟨.ref h'.objs.size, _, J, rfl, q _ Ts lenT ndAll fun t ht => by
          cases ht with
          | head => exact noP.2
          | tail _ ht => exact (noT t ht).2⟩
      · cases hp with
        | head => exact noP
        | tail _ hp => exact noT _ (List.of_mem_zip hp).1
      · rw [List.map_cons, zip_map_fst (by rw [lenT, lenP])]
        exact ndAll
      · cases hp with
        | head => exact ⟨by show (Ts.map V.ref).length ≤ sizeLine; rw [List.length_map, lenT]; exact z1, refs Ts, vals_refs Ts, IsTup.new _ _⟩
        | tail _ hp =>
          obtain ⟨j, hj⟩ := List.getElem?_of_mem hp
          obtain ⟨p1, p2⟩ := p
          rw [List.getElem?_zip_eq_some] at hj
          obtain ⟨j1, j2⟩ := hj
          obtain ⟨g, x, y, ex, ey, pr⟩ := a3 j p1 j1
          have j3 : (prsV xs ys)[j]? = some p2 := j2
          unfold prsV at j3
          rw [List.getElem?_zipWith] at j3
          rw [← Array.getElem?_toList] at ex ey
          have ex2 : is1[j]? = some x := ex
          have ey2 : is2[j]? = some y := ey
          cases hx : xs[j]? with
          | none =>
            rw [hx] at j3
            cases j3
          | some xv =>
            cases hy : ys[j]? with
            | none =>
              rw [hx, hy] at j3
              cases j3
            | some yv =>
              rw [hx, hy] at j3
              cases j3
              obtain ⟨x', q1, rx⟩ := v1.get hx
              obtain ⟨y', q2, ry⟩ := v2.get hy
              rw [ex2] at q1
              rw [ey2] at q2
              cases q1
              cases q2
              exact ⟨by show 2 ≤ sizeLine; decide, [x, y], .cons rx (.cons ry .nil), ⟨_, kNew _ _ pr, rfl, _, rfl⟩⟩
end
end DL
end

section
set_option autoImplicit false
set_option linter.all false
/-! Built-ins of one argument, isinstance. -/
namespace DL
open PySem PySem.Spec PyProof.Rows L2

def O1Sem (X : Cx) (f : Value) (o : O1) : Prop := ∃ r : List V → Hp → VK → Prop, CallR X f r ∧ ∀ (x z : D), o1 o x = some z → ∀ (F G : Hp) (μ : Nat → Addr) (S : Store) (H : Hp) (v : V), Rel X.K F G μ S H → RepT X.K F H x v → ∀ Q : VK, (∀ u H', Res X.K F H z u H' → Q u H') → r [v] H Q
theorem bind_some_out {α β : Type} {a : Option α} {f : α → Option β} {z : β} (h : a.bind f = some z) : ∃ x, a = some x ∧ f x = some z := by
  cases a with
  | none => cases h
  | some x => exact ⟨x, rfl, h⟩
theorem asI_out {x : D} {i : Int} (h : asI x = some i) : x = .int i := by
  cases x <;> first | (cases h; rfl) | cases h
theorem asL_out {x : D} {i : List D} (h : asL x = some i) : x = .lst i := by
  cases x <;> first | (cases h; rfl) | cases h
theorem asT_out {x : D} {i : List D} (h : asT x = some i) : x = .tup i := by
  cases x <;> first | (cases h; rfl) | cases h
mutual
theorem py_hasDict : ∀ d : D, d.flat = true → d.py.hasDict = false
  | .non, _ => by simp [D.py, PyData.hasDict]
  | .bl _, _ => by simp [D.py, PyData.hasDict]
  | .int _, _ => by simp [D.py, PyData.hasDict]
  | .str _, _ => by simp [D.py, PyData.hasDict]
  | .tup xs, h => by
    simp only [D.py, PyData.hasDict]
    exact pys_hasDict xs (by simpa [D.flat] using h)
  | .lst xs, h => by
    simp only [D.py, PyData.hasDict]
    exact pys_hasDict xs (by simpa [D.flat] using h)
  | .dct _, h => by simp [D.flat] at h
  | .scr _, h => by simp [D.flat] at h
theorem pys_hasDict : ∀ ds : List D, D.flats ds = true → PyData.hasDictAll (D.pys ds) = false
  | [], _ => by simp [D.pys, PyData.hasDictAll]
  | d :: ds, h => by
    rw [D.flats, Bool.and_eq_true] at h
    simp only [D.pys, PyData.hasDictAll]
    rw [py_hasDict d h.1, pys_hasDict ds h.2]
    rfl
end
section
variable {X : Cx} {K : PySem.W.Frag} {F G H : Hp} {μ : Nat → Addr} {S : Store}
/-- repr of plain data -/
theorem call_reprD (hg : X.A.guards = some []) (hu : X.A.units + 64 < cLine) : CallR X (.builtin "repr") (fun xs H Q => ∃ (x : V) (d : PyData), xs = [x] ∧ Dp X.K H x d ∧ d.showable = true ∧ d.hasDict = false ∧ d.depth ≤ 60 ∧ d.shown.length ≤ sizeLine ∧ Q (.str d.shown) H) := by
  intro pins s σ H xs us Q I r h
  obtain ⟨x, d, rfl, hd, hs, hn, hdp, hz, q⟩ := h
  obtain ⟨u, rfl, rx⟩ := vals1 r
  obtain ⟨as, rd⟩ := Dp.reads I d x u hd rx
  have go : ∀ a : Addr, u = .ref a → wpAny (model X.prog X.w) X.A (call (.builtin "repr") [u]) (EP X pins σ Q) X.xe s := fun a e => by
    subst e
    exact repr_of_reads' rd hs (PyData.noDict_hsm hn) hg (by omega) (fun _ _ e => e) (fun h' t tk hk => ⟨.str d.shown, H, I.kept (t' := tk) hk, ⟨t, rfl⟩, q⟩) hz
  cases rd with
  | none =>
    rw [PyData.shown] at q
    exact PySem.P.repr_of_none ⟨.str (Str.ofString "None"), H, I.tok _, ⟨_, rfl⟩, q⟩
  | bool b =>
    rw [PyData.shown] at q
    exact PySem.P.repr_of_bool ⟨.str (if b = true then Str.ofString "True" else Str.ofString "False"), H, I.tok _, ⟨_, rfl⟩, q⟩
  | int i t =>
    rw [PyData.shown] at q
    exact PySem.P.repr_of_int (by simpa [PyData.showable] using hs) ⟨.str (Str.ofString (toString i)), H, I.tok _, ⟨_, rfl⟩, q⟩
  | str z t =>
    rw [PyData.shown] at q hz
    exact PySem.P.repr_of_str ⟨.str (reprText z), H, I.tok _, ⟨_, rfl⟩, q⟩ hz
  | list _ _ _ _ => exact go _ rfl
  | tuple _ _ _ _ => exact go _ rfl
  | dict _ _ _ _ _ => exact go _ rfl
theorem sem_len : O1Sem X (.builtin "len") .len := by
  refine ⟨_, CallR.or call_len_seq call_len_str, fun x z e F G μ S H v R rx Q q => ?_⟩
  obtain ⟨i, hi, e2⟩ := bind_some_out (a := lenD x) e
  cases e2
  cases x with
  | lst xs =>
    cases hi
    obtain ⟨a, vs, rfl, h1, h2⟩ := rx.lst R.fr
    rw [h2.length] at q
    exact .inl ⟨a, vs, rfl, .inl (.inl (.inl h1)), q _ _ (.same (.int _))⟩
  | scr xs =>
    cases hi
    obtain ⟨a, vs, rfl, h1, h2⟩ := rx.scr R.fr
    rw [h2.length] at q
    exact .inl ⟨a, vs, rfl, .inl h1, q _ _ (.same (.int _))⟩
  | tup xs =>
    cases hi
    obtain ⟨a, vs, rfl, h1, h2⟩ := rx.sqT R.fr
    rw [h2.length] at q
    exact .inl ⟨a, vs, rfl, .inr h1, q _ _ (.same (.int _))⟩
  | str y =>
    obtain ⟨h1, rfl⟩ := ite_some (show (if fits y.length = true then some ((y.length : Nat) : Int) else none) = some i from hi)
    exact .inr ⟨y, by rw [rx.str], fits_le h1, q _ _ (.same (.int _))⟩
  | _ => cases hi
theorem sem_sum (hc : X.calm = true) : O1Sem X (.builtin "sum") .sum := by
  refine ⟨_, cr_sum hc, fun x z e F G μ S H v R rx Q q => ?_⟩
  obtain ⟨xs, hi, e2⟩ := bind_some_out (a := asL x) e
  obtain ⟨ns, hn, e3⟩ := bind_some_out e2
  cases e3
  have e4 := asL_out hi
  subst e4
  obtain ⟨a, vs, rfl, h1, h2⟩ := rx.lst R.fr
  obtain ⟨h3, _⟩ := h2.isInts hn
  subst h3
  exact ⟨a, ns, rfl, .inl (.inl h1), q _ _ (.same (.int _))⟩
theorem sem_sumT (hc : X.calm = true) : O1Sem X (.builtin "sum") .sumT := by
  refine ⟨_, cr_sumT hc, fun x z e F G μ S H v R rx Q q => ?_⟩
  obtain ⟨xs, hi, e2⟩ := bind_some_out (a := asT x) e
  obtain ⟨ns, hn, e3⟩ := bind_some_out e2
  cases e3
  have e4 := asT_out hi
  subst e4
  obtain ⟨a, vs, rfl, h1, h2⟩ := rx.sqT R.fr
  obtain ⟨h3, _⟩ := h2.isInts hn
  subst h3
  exact ⟨a, ns, rfl, h1, q _ _ (.same (.int _))⟩
theorem sem_all (hc : X.calm = true) : O1Sem X (.builtin "all") .all := by
  refine ⟨_, cr_all hc, fun x z e F G μ S H v R rx Q q => ?_⟩
  obtain ⟨xs, hi, e2⟩ := bind_some_out (a := asL x) e
  obtain ⟨ns, hn, e3⟩ := bind_some_out e2
  cases e3
  have e4 := asL_out hi
  subst e4
  obtain ⟨a, vs, rfl, h1, h2⟩ := rx.lst R.fr
  have h3 := h2.isBools hn
  subst h3
  exact ⟨a, ns, rfl, .inl (.inl h1), q _ _ (.same (.bl _))⟩
theorem sem_any (hc : X.calm = true) : O1Sem X (.builtin "any") .any := by
  refine ⟨_, cr_any hc, fun x z e F G μ S H v R rx Q q => ?_⟩
  obtain ⟨xs, hi, e2⟩ := bind_some_out (a := asL x) e
  obtain ⟨ns, hn, e3⟩ := bind_some_out e2
  cases e3
  have e4 := asL_out hi
  subst e4
  obtain ⟨a, vs, rfl, h1, h2⟩ := rx.lst R.fr
  have h3 := h2.isBools hn
  subst h3
  exact ⟨a, ns, rfl, .inl (.inl h1), q _ _ (.same (.bl _))⟩
theorem sem_abs : O1Sem X (.builtin "abs") .abs := by
  refine ⟨_, call_abs, fun x z e F G μ S H v R rx Q q => ?_⟩
  obtain ⟨i, hi, e2⟩ := bind_some_out (a := asI x) e
  cases e2
  have e4 := asI_out hi
  subst e4
  exact ⟨i, by rw [rx.int], q _ _ (.same (.int _))⟩
theorem sem_int : O1Sem X (.type "int") .int := by
  refine ⟨_, call_int1, fun x z e F G μ S H v R rx Q q => ?_⟩
  obtain ⟨i, hi, e2⟩ := bind_some_out (a := intD x) e
  cases e2
  cases x with
  | int j =>
    cases hi
    exact .inl ⟨i, by rw [rx.int], q _ _ (.same (.int _))⟩
  | bl b =>
    cases hi
    exact .inr ⟨b, by rw [rx.bl], q _ _ (.same (.int _))⟩
  | _ => cases hi
theorem sem_str : O1Sem X (.type "str") .str := by
  refine ⟨_, call_str_int, fun x z e F G μ S H v R rx Q q => ?_⟩
  obtain ⟨i, hi, e2⟩ := bind_some_out (a := asI x) e
  have e4 := asI_out hi
  subst e4
  obtain ⟨h1, rfl⟩ := ite_some e2
  exact ⟨i, by rw [rx.int], of_decide_eq_true h1, q _ _ (.same (.str _))⟩
theorem sem_repr (hg : X.A.guards = some []) (hu : X.A.units + 64 < cLine) : O1Sem X (.builtin "repr") .repr := by
  refine ⟨_, call_reprD hg hu, fun x z e F G μ S H v R rx Q q => ?_⟩
  obtain ⟨h1, rfl⟩ := ite_some e
  rw [showOk, Bool.and_eq_true, Bool.and_eq_true, Bool.and_eq_true] at h1
  obtain ⟨⟨⟨a1, a2⟩, a3⟩, a4⟩ := h1
  exact ⟨v, x.py, rfl, (rx.now R).dp a1, a2, py_hasDict x a1, of_decide_eq_true a3, fits_le a4, q _ _ (.same (.str _))⟩
theorem sem_tupleL : O1Sem X (.type "tuple") .tupleL := by
  refine ⟨_, call_tuple_of, fun x z e F G μ S H v R rx Q q => ?_⟩
  obtain ⟨xs, hi, e2⟩ := bind_some_out (a := asL x) e
  cases e2
  have e4 := asL_out hi
  subst e4
  obtain ⟨a, vs, rfl, h1, h2⟩ := rx.lst R.fr
  exact ⟨a, vs, rfl, .inl ⟨.inl (.inl h1), fun l hl => q _ _ (.tup hl h2)⟩⟩
theorem sem_tupleT : O1Sem X (.type "tuple") .tupleT := by
  refine ⟨_, call_tuple_of, fun x z e F G μ S H v R rx Q q => ?_⟩
  obtain ⟨xs, hi, e2⟩ := bind_some_out (a := asT x) e
  cases e2
  have e4 := asT_out hi
  subst e4
  cases rx with
  | p hx =>
    cases hx with
    | tup h1 h2 => exact ⟨_, _, rfl, .inr ⟨R.fr.sqT h1, q _ _ (.same (.tup h1 h2))⟩⟩
theorem listL_sem {xs : List D} (R : Rel X.K F G μ S H) {v : V} (rx : RepT X.K F H (.lst xs) v) {Q : VK} (q : ∀ u H', ResN X.K F H xs u H' → Q u H') : ∃ p ys, [v] = [.ref p] ∧ (SqL X.K H p ys ∨ SqT X.K H p ys) ∧ ∀ l, H l = none → Q (.ref l) (upd H l (.lst ys)) := by
  obtain ⟨a, vs, rfl, h1, h2⟩ := rx.lst R.fr
  exact ⟨a, vs, rfl, .inl (.inl (.inl h1)), fun l hl => q _ _ ⟨l, vs, hl, h2, rfl, rfl⟩⟩
theorem listT_sem {xs : List D} (R : Rel X.K F G μ S H) {v : V} (rx : RepT X.K F H (.tup xs) v) {Q : VK} (q : ∀ u H', ResN X.K F H xs u H' → Q u H') : ∃ p ys, [v] = [.ref p] ∧ (SqL X.K H p ys ∨ SqT X.K H p ys) ∧ ∀ l, H l = none → Q (.ref l) (upd H l (.lst ys)) := by
  obtain ⟨a, vs, rfl, h1, h2⟩ := rx.sqT R.fr
  exact ⟨a, vs, rfl, .inr h1, fun l hl => q _ _ ⟨l, vs, hl, h2, rfl, rfl⟩⟩
theorem sortI_eq {ns ns' : List Int} (hp : ns'.Perm ns) (hs : ns'.Pairwise (· ≤ ·)) : ns' = sortI ns := by
  have h1 : (sortI ns).Pairwise (· ≤ ·) := (List.pairwise_mergeSort (le := fun a b : Int => decide (a ≤ b)) (fun a b c h1 h2 => by
    simp only [decide_eq_true_eq] at *
    omega) (fun a b => by
    simp only [Bool.or_eq_true, decide_eq_true_eq]
    omega) ns).imp fun h => of_decide_eq_true h
  exact List.Perm.eq_of_pairwise (fun a b _ _ h1 h2 => Int.le_antisymm h1 h2) hs h1 (hp.trans (List.mergeSort_perm ns _).symm)
theorem sortedI_sem {xs : List D} {ns : List Int} (hn : intsOf xs = some ns) (R : Rel X.K F G μ S H) {v : V} (rx : RepT X.K F H (.lst xs) v) {Q : VK} (q : ∀ u H', ResN X.K F H ((sortI ns).map .int) u H' → Q u H') : rSortedI X.K [v] H Q := by
  obtain ⟨a, vs, rfl, h1, h2⟩ := rx.lst R.fr
  obtain ⟨h3, _⟩ := h2.isInts hn
  subst h3
  refine ⟨a, ns, rfl, .inl (.inl h1), fun ns' p hp hs hf => ?_⟩
  rw [sortI_eq hp hs]
  exact q _ _ ⟨p, _, hf, RepL.ofInts _, rfl, rfl⟩
theorem resN_res {xs : List D} {u : V} {H' : Hp} (h : ResN K F H xs u H') : Res K F H (.lst xs) u H' := by
  obtain ⟨p, vs, hp, rl, rfl, rfl⟩ := h
  exact .lst hp rl
theorem sem_listL : O1Sem X (.type "list") .listL := by
  refine ⟨_, call_list_of, fun x z e F G μ S H v R rx Q q => ?_⟩
  obtain ⟨xs, hi, e2⟩ := bind_some_out (a := asL x) e
  cases e2
  have e4 := asL_out hi
  subst e4
  exact listL_sem R rx fun u H' h => q u H' (resN_res h)
theorem sem_listT : O1Sem X (.type "list") .listT := by
  refine ⟨_, call_list_of, fun x z e F G μ S H v R rx Q q => ?_⟩
  obtain ⟨xs, hi, e2⟩ := bind_some_out (a := asT x) e
  cases e2
  have e4 := asT_out hi
  subst e4
  exact listT_sem R rx fun u H' h => q u H' (resN_res h)
theorem sem_sortedI : O1Sem X (.builtin "sorted") .sortedI := by
  refine ⟨_, cr_sortedI, fun x z e F G μ S H v R rx Q q => ?_⟩
  obtain ⟨xs, hi, e2⟩ := bind_some_out (a := asL x) e
  obtain ⟨ns, hn, e3⟩ := bind_some_out e2
  cases e3
  have e4 := asL_out hi
  subst e4
  exact sortedI_sem hn R rx fun u H' h => q u H' (resN_res h)
theorem sem_minL (hc : X.calm = true) : O1Sem X (.builtin "min") .minL := by
  refine ⟨_, cr_min hc, fun x z e F G μ S H v R rx Q q => ?_⟩
  obtain ⟨xs, hi, e2⟩ := bind_some_out (a := asL x) e
  obtain ⟨ns, hn, e3⟩ := bind_some_out e2
  obtain ⟨m, hm, e5⟩ := bind_some_out e3
  cases e5
  have e4 := asL_out hi
  subst e4
  obtain ⟨a, vs, rfl, h1, h2⟩ := rx.lst R.fr
  obtain ⟨h3, _⟩ := h2.isInts hn
  subst h3
  obtain ⟨m1, m2⟩ := List.min?_eq_some_iff.mp hm
  refine ⟨a, ns, rfl, .inl (.inl h1), List.length_pos_of_mem m1, fun m' k1 k2 => ?_⟩
  have em : m' = m := Int.le_antisymm (k2 m m1) (m2 m' k1)
  rw [em]
  exact q _ _ (.same (.int _))
theorem sem_maxL (hc : X.calm = true) : O1Sem X (.builtin "max") .maxL := by
  refine ⟨_, cr_max hc, fun x z e F G μ S H v R rx Q q => ?_⟩
  obtain ⟨xs, hi, e2⟩ := bind_some_out (a := asL x) e
  obtain ⟨ns, hn, e3⟩ := bind_some_out e2
  obtain ⟨m, hm, e5⟩ := bind_some_out e3
  cases e5
  have e4 := asL_out hi
  subst e4
  obtain ⟨a, vs, rfl, h1, h2⟩ := rx.lst R.fr
  obtain ⟨h3, _⟩ := h2.isInts hn
  subst h3
  obtain ⟨m1, m2⟩ := List.max?_eq_some_iff.mp hm
  refine ⟨a, ns, rfl, .inl (.inl h1), List.length_pos_of_mem m1, fun m' k1 k2 => ?_⟩
  have em : m' = m := Int.le_antisymm (m2 m' k1) (k2 m m1)
  rw [em]
  exact q _ _ (.same (.int _))
/-- what stands in the builtins at these names -/
def valB : O1 → Value
  | .len => .builtin "len"
  | .sum => .builtin "sum"
  | .sumT => .builtin "sum"
  | .all => .builtin "all"
  | .any => .builtin "any"
  | .abs => .builtin "abs"
  | .int => .type "int"
  | .str => .type "str"
  | .repr => .builtin "repr"
  | .tupleL => .type "tuple"
  | .tupleT => .type "tuple"
  | .listL => .type "list"
  | .listT => .type "list"
  | .sortedI => .builtin "sorted"
  | .minL => .builtin "min"
  | .maxL => .builtin "max"
  | _ => .none
theorem o1_sem (hc : X.calm = true) (hg : X.A.guards = some []) (hu : X.A.units + 64 < cLine) {o : O1} {nm : String} {b : Bool} (h : o1Nm o = some (nm, b)) : O1Sem X (valB o) o := by
  cases o with
  | len => exact sem_len
  | sum => exact sem_sum hc
  | sumT => exact sem_sumT hc
  | all => exact sem_all hc
  | any => exact sem_any hc
  | abs => exact sem_abs
  | int => exact sem_int
  | str => exact sem_str
  | repr => exact sem_repr hg hu
  | tupleL => exact sem_tupleL
  | tupleT => exact sem_tupleT
  | listL => exact sem_listL
  | listT => exact sem_listT
  | sortedI => exact sem_sortedI
  | minL => exact sem_minL hc
  | maxL => exact sem_maxL hc
  | neg => cases h
  | lenSetI => cases h
  | sortedSetI => cases h
theorem boots (nm : String) (h : nm ∈ ["len", "sum", "all", "any", "abs", "repr", "sorted", "min", "max", "isinstance"]) : bootBuiltins nm = some (.builtin nm) := by
  simp only [List.mem_cons, List.not_mem_nil, or_false] at h
  rcases h with rfl | rfl | rfl | rfl | rfl | rfl | rfl | rfl | rfl | rfl <;> decide +kernel
theorem bootTs (nm : String) (h : nm ∈ ["int", "str", "tuple", "list", "bool", "dict"]) : bootBuiltins nm = some (.type nm) := by
  simp only [List.mem_cons, List.not_mem_nil, or_false] at h
  rcases h with rfl | rfl | rfl | rfl | rfl | rfl <;> decide +kernel
/-! isinstance -/
theorem ty_of {x : D} {v : V} (h : RepP K H x v) : ∃ T, TyX K H v (.type T) ∧ ∀ k, kitB T (tyNm k) = some (isa k x) := by
  cases h with
  | non => exact ⟨"NoneType", .base .non, fun k => by cases k <;> decide +kernel⟩
  | bl b => exact ⟨"bool", .base (.bl b), fun k => by cases k <;> first | (show kitB _ _ = some true; decide +kernel) | (show kitB _ _ = some false; decide +kernel)⟩
  | int b => exact ⟨"int", .base (.int b), fun k => by cases k <;> first | (show kitB _ _ = some true; decide +kernel) | (show kitB _ _ = some false; decide +kernel)⟩
  | str b => exact ⟨"str", .base (.str b), fun k => by cases k <;> first | (show kitB _ _ = some true; decide +kernel) | (show kitB _ _ = some false; decide +kernel)⟩
  | tup h1 _ =>
    refine ⟨"tuple", ?_, fun k => by cases k <;> first | (show kitB "tuple" _ = some true; decide +kernel) | (show kitB "tuple" _ = some false; decide +kernel)⟩
    rcases h1 with (h1 | ⟨o, h1⟩) | ⟨o, its, n, hk, hc, _⟩
    · exact .base (.tup h1)
    · exact .fTuple h1
    · exact .kTuple hk hc
  | lst h1 _ => exact ⟨"list", .base (.lst h1), fun k => by cases k <;> first | (show kitB "list" _ = some true; decide +kernel) | (show kitB "list" _ = some false; decide +kernel)⟩
  | scr h1 _ =>
    refine ⟨"list", ?_, fun k => by cases k <;> first | (show kitB "list" _ = some true; decide +kernel) | (show kitB "list" _ = some false; decide +kernel)⟩
    rcases h1 with (h1 | ⟨o, h1⟩) | ⟨o, its, n, hk, hc, _⟩
    · exact .base (.lst h1)
    · exact .base (.frz h1)
    · exact .kList hk hc
  | dct h1 _ => exact ⟨"dict", .base (.dK h1), fun k => by cases k <;> first | (show kitB "dict" _ = some true; decide +kernel) | (show kitB "dict" _ = some false; decide +kernel)⟩
end
end DL
end

section
set_option autoImplicit false
set_option linter.all false
/-! Expressions: each form against what the tongue computes. -/
namespace DL
open PySem PySem.Spec PyProof.Rows L2

abbrev SndX (X : Cx) (g : Ev) (ck : Ck1) : Prop := ∀ (t : Tm) (e : Expr), ck t e = true → ∀ (ρ : Env) (S : Store) (x : E) (S' : Store), g t ρ S = some (x, S') → ∀ (F G : Hp) (μ : Nat → Addr) (σ : L2.St) (H : Hp), Rel X.K F G μ S H → RelEnv X.K F μ S ρ σ → sem X e σ H (Lift X.K F G μ S x S')
abbrev LiftA (K : PySem.W.Frag) (F G : Hp) (μ : Nat → Addr) (S : Store) (xs : List E) (S' : Store) : List V → Hp → Prop := fun vs H' => ∃ F' μ', Ext F μ S F' μ' S' ∧ Rel K F' G μ' S' H' ∧ RepEs K F' μ' S' xs vs
theorem Lift.of {K : PySem.W.Frag} {F G H : Hp} {μ : Nat → Addr} {S : Store} {x : E} {v : V} (R : Rel K F G μ S H) (h : RepE K F μ S x v) : Lift K F G μ S x S v H := ⟨F, μ, Ext.refl F μ S, R, h⟩
theorem Lift.trans {K : PySem.W.Frag} {F G H F1 : Hp} {μ μ1 : Nat → Addr} {S S1 S2 : Store} {x : E} {v : V} (e : Ext F μ S F1 μ1 S1) (h : Lift K F1 G μ1 S1 x S2 v H) : Lift K F G μ S x S2 v H := by
  obtain ⟨F2, μ2, e2, R, r⟩ := h
  exact ⟨F2, μ2, e.trans e2, R, r⟩
theorem LiftN.trans {K : PySem.W.Frag} {F G H F1 : Hp} {μ μ1 : Nat → Addr} {S S1 S2 : Store} {x : List D} {v : V} (e : Ext F μ S F1 μ1 S1) (h : LiftN K F1 G μ1 S1 x S2 v H) : LiftN K F G μ S x S2 v H := by
  obtain ⟨F2, μ2, H0, e2, R, r⟩ := h
  exact ⟨F2, μ2, H0, e.trans e2, R, r⟩
theorem and2 {a b : Bool} (h : (a && b) = true) : a = true ∧ b = true := by
  rw [Bool.and_eq_true] at h
  exact h
theorem not_t {b : Bool} (h : (!b) = true) : b = false := by
  cases b with
  | true => cases h
  | false => rfl
theorem asD_out {x : E} {d : D} (h : asD x = some d) : x = .d d := by
  cases x with
  | d x =>
    cases h
    rfl
  | r n => cases h
theorem isTrueD_out {x : E} {b : Bool} (h : isTrueD x = some b) : x = .d (.bl b) := by
  cases x with
  | d x => cases x <;> first | (cases h; rfl) | cases h
  | r n => cases h
section
variable {X : Cx} {g : Ev} {ck : Ck1} {ρ : Env} {S S' : Store} {x : E} {F G : Hp} {μ : Nat → Addr} {σ : L2.St} {H : Hp}
theorem two (h : SndX X g ck) {a b : Tm} {ea eb : Expr} (ca : ck a ea = true) (cb : ck b eb = true) {p q : E × Store} (ga : g a ρ S = some p) (gb : g b ρ p.2 = some q) (R : Rel X.K F G μ S H) (RE : RelEnv X.K F μ S ρ σ) {r : R2} {Q : VK}
    (hq : ∀ F' μ' v w H', Ext F μ S F' μ' q.2 → Rel X.K F' G μ' q.2 H' → RepE X.K F' μ' q.2 p.1 v → RepE X.K F' μ' q.2 q.1 w → r v w H' Q) : tOp r (sem X ea) (sem X eb) σ H Q := by
  refine sem_mono (h a ea ca ρ S p.1 p.2 ga F G μ σ H R RE) fun v H1 ⟨F1, μ1, e1, R1, r1⟩ => ?_
  refine sem_mono (h b eb cb ρ p.2 q.1 q.2 gb F1 G μ1 σ H1 R1 (RE.mono e1)) fun w H2 ⟨F2, μ2, e2, R2, r2⟩ => ?_
  exact hq F2 μ2 v w H2 (e1.trans e2) R2 (r1.mono e2) r2
theorem args (h : SndX X g ck) : ∀ (as : List Tm) (es : List Expr), (∀ t e, ck t e = true → okHead e = true) → chkAll ck as es = true → ∀ (ρ : Env) (S : Store) (xs : List E) (S' : Store), evs g as ρ S = some (xs, S') → ∀ (F : Hp) (μ : Nat → Addr) (H : Hp), Rel X.K F G μ S H → RelEnv X.K F μ S ρ σ → semA X es σ H (LiftA X.K F G μ S xs S')
  | [], [], _, _, ρ, S, xs, S', e, F, μ, H, R, RE => by
    cases e
    exact to_semA pa_nil ⟨F, μ, Ext.refl F μ S, R, .nil⟩
  | [], _ :: _, _, c, _, _, _, _, _, _, _, _, _, _ => by cases c
  | _ :: _, [], _, c, _, _, _, _, _, _, _, _, _, _ => by cases c
  | t :: ts, e :: es, hk, c, ρ, S, xs, S', ev, F, μ, H, R, RE => by
    obtain ⟨c1, c2⟩ := and2 c
    obtain ⟨p, ga, ev⟩ := bind_some_out ev
    obtain ⟨q, gb, ev⟩ := bind_some_out ev
    cases ev
    refine to_semA (pa_cons pe_sem pa_sem (star_of (hk t e c1))) ?_
    refine sem_mono (h t e c1 ρ S p.1 p.2 ga F G μ σ H R RE) fun v H1 ⟨F1, μ1, e1, R1, r1⟩ => ?_
    refine semA_mono (args h ts es hk c2 ρ p.2 q.1 q.2 gb F1 μ1 H1 R1 (RE.mono e1)) fun vs H2 ⟨F2, μ2, e2, R2, r2⟩ => ?_
    exact ⟨F2, μ2, e1.trans e2, R2, .cons (r1.mono e2) r2⟩
theorem vis_of {sc : Scope} {x : Str} (h : visC sc x = true) : Vis sc x := by
  unfold visC at h
  split at h
  · exact .inl (by assumption)
  · exact .inr (.inl (by assumption))
  · exact .inr (.inr (by assumption))
  · cases h
theorem gl_of {sc : Scope} {x : Str} (h : glC sc x = true) (hs : X.env.scope = sc) : Gl X x := by
  unfold glC at h
  split at h
  · unfold Gl Env.kindOf
    rw [hs]
    assumption
  · cases h
theorem okName_of {x : Str} (h : okName x = true) : (x == ("__debug__" : Str)) = false ∧ (x == ("__classdict__" : Str)) = false ∧ x ≠ "__name__" := by
  obtain ⟨h1, h3⟩ := and2 h
  obtain ⟨h1, h2⟩ := and2 h1
  exact ⟨not_t h1, not_t h2, of_decide_eq_true h3⟩
structure Bi (X : Cx) (x : Str) (nm : String) : Prop where
  nm : x = (nm : Str)
  m : X.mg x = none
  g : Gl X x
  d : (x == ("__debug__" : Str)) = false
  n : x ≠ "__name__"
theorem bi_of {P : Prm} {sc : Scope} {x : Str} {nm : String} (h : biC P sc x nm = true) (hs : X.env.scope = sc) (hb : ∀ x, P.bi.contains x = true → X.mg x = none) : Bi X x nm := by
  obtain ⟨h, h4⟩ := and2 h
  obtain ⟨h, h3⟩ := and2 h
  obtain ⟨h1, h2⟩ := and2 h
  obtain ⟨k1, k2, k3⟩ := okName_of h4
  exact ⟨of_decide_eq_true h1, hb x h2, gl_of h3 hs, k1, k3⟩
end
section
variable {X : Cx} {g : Ev} {ck : Ck1} {ρ : Env} {S S' : Store} {x : E} {F G : Hp} {μ : Nat → Addr} {σ : L2.St} {H : Hp} {P : Prm} {k : Nat} {N : List Str} {sc s0 : Scope} {e : Expr}
theorem s_var (gd : Good P k N sc s0 X) {i : Nat} (c : ckVar N sc i e = true) {y : E} (hy : ρ[i]? = some (some y)) (R : Rel X.K F G μ S H) (RE : RelEnv X.K F μ S ρ σ) : sem X e σ H (Lift X.K F G μ S y S) := by
  unfold ckVar at c
  split at c
  · obtain ⟨c, c3⟩ := and2 c
    obtain ⟨c1, c2⟩ := and2 c
    obtain ⟨k1, k2, k3⟩ := okName_of c3
    obtain ⟨v, h1, h2⟩ := RE.at_ i y hy
    exact to_sem (pe_var (by rw [gd.hN]; exact of_decide_eq_true c1) (by rw [gd.hsc]; exact vis_of c2) k1 k2) ⟨v, h1, .of R h2⟩
  · cases c
theorem s_cst {d : D} (c : ckCst d e = true) (R : Rel X.K F G μ S H) : sem X e σ H (Lift X.K F G μ S (.d d) S) := by
  unfold ckCst at c
  split at c
  · rename_i cc _ _
    unfold cstIs at c
    split at c
    · exact to_sem pe_non (.of R .non)
    · rw [eq_of_beq c]
      exact to_sem pe_bl (.of R (.bl _))
    · rw [of_decide_eq_true c]
      exact to_sem pe_int (.of R (.int _))
    · rw [of_decide_eq_true c]
      exact to_sem pe_str (.of R (.str _))
    · cases c
  · cases c
theorem s_glob (gd : Good P k N sc s0 X) {y : Str} {d : D} (c : ckGlob P sc y d e = true) (R : Rel X.K F G μ S H) : sem X e σ H (Lift X.K F G μ S (.d d) S) := by
  unfold ckGlob at c
  split at c
  · obtain ⟨c, c4⟩ := and2 c
    obtain ⟨c, c3⟩ := and2 c
    obtain ⟨c1, c2⟩ := and2 c
    obtain ⟨k1, k2, k3⟩ := okName_of c3
    rw [List.any_eq_true] at c4
    obtain ⟨p, hp, c4⟩ := c4
    obtain ⟨c4, c5⟩ := and2 c4
    obtain ⟨e5, l5⟩ := leafIs_eq c5
    obtain ⟨u, v, h1, h2, h3⟩ := gd.cst p hp l5
    rw [of_decide_eq_true c4] at h1
    rw [e5]
    exact to_sem (pe_glob (gl_of c2 gd.hsc) h1 h2 k1) (.of R (h3 F))
  · cases c
/-- comparisons, both ways -/
structure Both (X : Cx) (e : Expr) (σ : L2.St) (H : Hp) (L : VK) : Prop where
  out : ∃ t : TE, PE X e t ∧ PT X e (tB t) ∧ ∀ Q : VK, (∀ v H', L v H' → Q v H') → t σ H Q
theorem Both.sem {L : VK} (b : Both X e σ H L) : sem X e σ H L := by
  obtain ⟨t, h, _, q⟩ := b.out
  exact to_sem h (q L fun _ _ h => h)
theorem Both.test {L : VK} (b : Both X e σ H L) {Q : Bool → Hp → Prop} (hq : ∀ v H', L v H' → ∃ c, v = .bl c ∧ Q c H') : semT X e σ H Q := by
  obtain ⟨t, _, h, q⟩ := b.out
  exact to_semT h (q _ hq)
theorem s_o2 (gd : Good P k N sc s0 X) (h : SndX X g ck) {o : O2} {a b : Tm} (c : ckO2 ck o a b e = true) {p q : E × Store} (ga : g a ρ S = some p) (gb : g b ρ p.2 = some q) {x y z : D} (dx : deref q.2 p.1 = some x) (dy : deref q.2 q.1 = some y) (dz : DL.o2 o x y = some z) (R : Rel X.K F G μ S H) (RE : RelEnv X.K F μ S ρ σ) :
    (∃ ea op eb pos, e = .BinOp ea op eb pos ∧ sem X e σ H (Lift X.K F G μ S (.d z) q.2)) ∨ Both X e σ H (Lift X.K F G μ S (.d z) q.2) := by
  unfold ckO2 at c
  split at c
  · obtain ⟨c, c3⟩ := and2 c
    obtain ⟨c1, c2⟩ := and2 c
    obtain ⟨r, hr, sp⟩ := bin_sem (X := X) c1
    exact .inl ⟨_, _, _, _, rfl, to_sem (pe_op hr pe_sem pe_sem) (two h c2 c3 ga gb R RE fun F' μ' v w H' e1 R' r1 r2 => sp x y z dz F' G μ' q.2 H' v w R' (deref_rep R' r1 dx) (deref_rep R' r2 dy) _ fun u H2 rs => rs.lift e1 R')⟩
  · obtain ⟨c, c4⟩ := and2 c
    obtain ⟨c, c3⟩ := and2 c
    obtain ⟨c1, c2⟩ := and2 c
    obtain ⟨r, hr, sp⟩ := cmp_sem (X := X) gd.room.units c1
    exact .inr ⟨_, pe_cmpR hr pe_sem pe_sem (not_t c4), pt_cmpR hr pe_sem pe_sem (not_t c4), fun Q hQ => two h c2 c3 ga gb R RE fun F' μ' v w H' e1 R' r1 r2 => sp x y z dz F' G μ' q.2 H' v w R' (deref_rep R' r1 dx) (deref_rep R' r2 dy) _ fun u H2 rs => hQ _ _ (rs.lift e1 R')⟩
  · cases c
theorem s_chain (gd : Good P k N sc s0 X) (h : SndX X g ck) {o o' : O2} {a b cc : Tm} (c : ckChain ck o o' a b cc e = true) {p q : E × Store} (ga : g a ρ S = some p) (gb : g b ρ p.2 = some q) {x y : D} {m : Bool} (dx : deref q.2 p.1 = some x) (dy : deref q.2 q.1 = some y) (dz : DL.o2 o x y = some (.bl m))
    {x' : E} {S' : Store} (hf : m = false → x' = .d (.bl false) ∧ S' = q.2)
    (ht : m = true → ∃ r y' w u, g cc ρ q.2 = some r ∧ deref r.2 q.1 = some y' ∧ deref r.2 r.1 = some w ∧ DL.o2 o' y' w = some u ∧ x' = .d u ∧ S' = r.2)
    (R : Rel X.K F G μ S H) (RE : RelEnv X.K F μ S ρ σ) : Both X e σ H (Lift X.K F G μ S x' S') := by
  unfold ckChain at c
  split at c
  · obtain ⟨c, c6⟩ := and2 c
    obtain ⟨c, c5⟩ := and2 c
    obtain ⟨c, c4⟩ := and2 c
    obtain ⟨c, c3⟩ := and2 c
    obtain ⟨c1, c2⟩ := and2 c
    obtain ⟨r, hr, sp⟩ := cmp_sem (X := X) gd.room.units c1
    obtain ⟨r', hr', sp'⟩ := cmp_sem (X := X) gd.room.units c2
    refine ⟨_, pe_chain hr hr' pe_sem pe_sem pe_sem (not_t c6), pt_chain hr hr' pe_sem pe_sem pe_sem (not_t c6), fun Q hQ => ?_⟩
    refine sem_mono (h a _ c3 ρ S p.1 p.2 ga F G μ σ H R RE) fun v H1 ⟨F1, μ1, e1, R1, r1⟩ => ?_
    refine sem_mono (h b _ c4 ρ p.2 q.1 q.2 gb F1 G μ1 σ H1 R1 (RE.mono e1)) fun w H2 ⟨F2, μ2, e2, R2, r2⟩ => ?_
    refine sp x y (.bl m) dz F2 G μ2 q.2 H2 v w R2 (deref_rep R2 (r1.mono e2) dx) (deref_rep R2 r2 dy) _ fun u H3 rs => ?_
    have e12 := e1.trans e2
    cases rs with
    | same hu =>
      cases hu
      refine ⟨m, rfl, ?_⟩
      cases m with
      | false =>
        obtain ⟨rfl, rfl⟩ := hf rfl
        exact hQ _ _ ⟨F2, μ2, e12, R2, .bl false⟩
      | true =>
        obtain ⟨rr, y', w', uu, gc, dy', dw, du, rfl, rfl⟩ := ht rfl
        refine sem_mono (h cc _ c5 ρ q.2 rr.1 rr.2 gc F2 G μ2 σ H2 R2 (RE.mono e12)) fun w2 H4 ⟨F3, μ3, e3, R3, r3⟩ => ?_
        exact sp' y' w' uu du F3 G μ3 rr.2 H4 w w2 R3 (deref_rep R3 (r2.mono e3) dy') (deref_rep R3 r3 dw) _ fun u H5 rs => hQ _ _ (rs.lift (e12.trans e3) R3)
  · cases c
theorem repE_non {x : E} {v : V} (h : RepE X.K F μ S x v) : decide (v = V.non) = isNonE x := by
  cases x with
  | d x => cases h <;> rfl
  | r n =>
    rw [h.2]
    rfl
theorem s_isN (h : SndX X g ck) {a : Tm} (c : ckIsN ck a e = true) {p : E × Store} (ga : g a ρ S = some p) (R : Rel X.K F G μ S H) (RE : RelEnv X.K F μ S ρ σ) : Both X e σ H (Lift X.K F G μ S (.d (.bl (isNonE p.1))) p.2) := by
  unfold ckIsN at c
  split at c
  · refine ⟨_, pe_cmp (pc_isN pe_sem), pt_cmp (pc_isN pe_sem), fun Q hQ => ?_⟩
    refine sem_mono (h a _ c ρ S p.1 p.2 ga F G μ σ H R RE) fun v H1 ⟨F1, μ1, e1, R1, r1⟩ => ?_
    rw [repE_non r1]
    exact hQ _ _ ⟨F1, μ1, e1, R1, .bl _⟩
  · cases c
theorem s_notN (h : SndX X g ck) {a : Tm} (c : ckNotN ck a e = true) {p : E × Store} (ga : g a ρ S = some p) (R : Rel X.K F G μ S H) (RE : RelEnv X.K F μ S ρ σ) : Both X e σ H (Lift X.K F G μ S (.d (.bl (!isNonE p.1))) p.2) := by
  unfold ckNotN at c
  split at c
  · refine ⟨_, pe_cmp (pc_notN pe_sem), pt_cmp (pc_notN pe_sem), fun Q hQ => ?_⟩
    refine sem_mono (h a _ c ρ S p.1 p.2 ga F G μ σ H R RE) fun v H1 ⟨F1, μ1, e1, R1, r1⟩ => ?_
    rw [repE_non r1]
    exact hQ _ _ ⟨F1, μ1, e1, R1, .bl _⟩
  · cases c
theorem s_isB (h : SndX X g ck) {b : Bool} {a : Tm} (c : ckIsB ck b a e = true) {p : E × Store} (ga : g a ρ S = some p) {m : Bool} (hm : p.1 = .d (.bl m)) (R : Rel X.K F G μ S H) (RE : RelEnv X.K F μ S ρ σ) : Both X e σ H (Lift X.K F G μ S (.d (.bl (decide (m = b)))) p.2) := by
  unfold ckIsB at c
  split at c
  · obtain ⟨c1, c2⟩ := and2 c
    have eb := eq_of_beq c1
    subst eb
    refine ⟨_, pe_cmpR op_is_bl pe_sem pe_bl (nomark _), pt_cmpR op_is_bl pe_sem pe_bl (nomark _), fun Q hQ => ?_⟩
    refine sem_mono (h a _ c2 ρ S p.1 p.2 ga F G μ σ H R RE) fun v H1 ⟨F1, μ1, e1, R1, r1⟩ => ?_
    rw [hm] at r1
    have r2 : RepP X.K F1 (.bl m) v := r1
    cases r2
    exact ⟨m, b, rfl, rfl, hQ _ _ ⟨F1, μ1, e1, R1, .bl _⟩⟩
  · cases c
theorem s_notB (h : SndX X g ck) {b : Bool} {a : Tm} (c : ckNotB ck b a e = true) {p : E × Store} (ga : g a ρ S = some p) {m : Bool} (hm : p.1 = .d (.bl m)) (R : Rel X.K F G μ S H) (RE : RelEnv X.K F μ S ρ σ) : Both X e σ H (Lift X.K F G μ S (.d (.bl (!decide (m = b)))) p.2) := by
  unfold ckNotB at c
  split at c
  · obtain ⟨c1, c2⟩ := and2 c
    have eb := eq_of_beq c1
    subst eb
    refine ⟨_, pe_cmpR op_isnot_bl pe_sem pe_bl (nomark _), pt_cmpR op_isnot_bl pe_sem pe_bl (nomark _), fun Q hQ => ?_⟩
    refine sem_mono (h a _ c2 ρ S p.1 p.2 ga F G μ σ H R RE) fun v H1 ⟨F1, μ1, e1, R1, r1⟩ => ?_
    rw [hm] at r1
    have r2 : RepP X.K F1 (.bl m) v := r1
    cases r2
    exact ⟨m, b, rfl, rfl, hQ _ _ ⟨F1, μ1, e1, R1, .bl _⟩⟩
  · cases c
end
end DL
end

section
set_option autoImplicit false
set_option linter.all false
/-! Expressions, second part: and, or, not, built-ins, calls, displays, subscripts, methods. -/
namespace DL
open PySem PySem.Spec PyProof.Rows L2

def semW (X : Cx) (e : Expr) : TT := fun σ H Q => ∀ (whole : Sem Value) (pins : List (Addr × Obj)) (s : Shared), Inv X pins σ H s → wpAny (model X.prog X.w) X.A (isTrue e X.env whole) (TP X pins σ Q) X.xe s
def semK (X : Cx) (kws : List Keyword) : TA := fun σ H Q => ∀ (pos : Pos) (pins : List (Addr × Obj)) (s : Shared), Inv X pins σ H s → wpAny (model X.prog X.w) X.A (evalAll ((backToKw pos (keywordEach kws X.env)).map (·.2))) (AP X pins σ Q) X.xe s
abbrev LT (K : PySem.W.Frag) (F G : Hp) (μ : Nat → Addr) (S : Store) (b0 : Bool) (S' : Store) : Bool → Hp → Prop := fun b H' => b = b0 ∧ ∃ F' μ', Ext F μ S F' μ' S' ∧ Rel K F' G μ' S' H'
def isBop : Expr → Bool
  | .BoolOp _ _ _ => true
  | _ => false
abbrev SndT (X : Cx) (g : Ev) (ck : Ck1) : Prop := ∀ (t : Tm) (e : Expr), ck t e = true → ∀ (ρ : Env) (S : Store) (x : E) (S' : Store) (b : Bool), g t ρ S = some (x, S') → isTrueD x = some b → ∀ (F G : Hp) (μ : Nat → Addr) (σ : L2.St) (H : Hp), Rel X.K F G μ S H → RelEnv X.K F μ S ρ σ →
  semT X e σ H (LT X.K F G μ S b S') ∧ (isBop e = true → semW X e σ H (LT X.K F G μ S b S'))
section
variable {X : Cx} {σ : L2.St} {H : Hp}
theorem pw_sem {e : Expr} : PW X e (semW X e) := ⟨fun wh pins s σ H Q I h => h wh pins s I⟩
theorem to_semW {e : Expr} {t : TT} (h : PW X e t) {Q : Bool → Hp → Prop} (q : t σ H Q) : semW X e σ H Q := fun wh pins s I => h.run wh pins s σ H Q I q
theorem semW_mono {e : Expr} {Q Q' : Bool → Hp → Prop} (h : semW X e σ H Q) (m : ∀ v H', Q v H' → Q' v H') : semW X e σ H Q' := fun wh pins s I => thn (h wh pins s I) fun u s' ⟨H', I', q⟩ => ⟨H', I', m u H' q⟩
theorem pk_sem {kws : List Keyword} : PK X kws (semK X kws) := ⟨fun pos pins s σ H Q I h => h pos pins s I⟩
theorem to_semK {kws : List Keyword} {t : TA} (h : PK X kws t) {Q : List V → Hp → Prop} (q : t σ H Q) : semK X kws σ H Q := fun pos pins s I => h.run pos pins s σ H Q I q
theorem semK_mono {kws : List Keyword} {Q Q' : List V → Hp → Prop} (h : semK X kws σ H Q) (m : ∀ v H', Q v H' → Q' v H') : semK X kws σ H Q' := fun pos pins s I => thn (h pos pins s I) fun u s' ⟨v, H', I', r, q⟩ => ⟨v, H', I', r, m v H' q⟩
theorem bop_pe {op : BoolOp} {eb : Expr} {es : List Expr} {pos : Pos} : PE X (.BoolOp op (eb :: es) pos) (sem X (bopE op (eb :: es) pos)) := by
  cases es with
  | nil => exact pe_one pe_sem
  | cons _ _ => exact pe_sem
end
section
variable {X : Cx} {g : Ev} {ck : Ck1} {ρ : Env} {S S' : Store} {x : E} {F G : Hp} {μ : Nat → Addr} {σ : L2.St} {H : Hp} {P : Prm} {k : Nat} {N : List Str} {sc s0 : Scope} {e : Expr}
theorem s_and (h : SndX X g ck) {a b : Tm} (c : ckAnd ck a b e = true) {p : E × Store} (ga : g a ρ S = some p) {m : Bool} (hm : isTrueD p.1 = some m) (he : (if m = true then g b ρ p.2 else some (.d (.bl false), p.2)) = some (x, S')) (R : Rel X.K F G μ S H) (RE : RelEnv X.K F μ S ρ σ) : sem X e σ H (Lift X.K F G μ S x S') := by
  unfold ckAnd at c
  split at c
  · obtain ⟨c1, c2⟩ := and2 c
    refine to_sem (pe_and pe_sem bop_pe) ?_
    refine sem_mono (h a _ c1 ρ S p.1 p.2 ga F G μ σ H R RE) fun v H1 ⟨F1, μ1, e1, R1, r1⟩ => ?_
    rw [isTrueD_out hm] at r1
    cases (show RepP X.K F1 (.bl m) v from r1)
    refine ⟨m, rfl, ?_⟩
    cases m with
    | true => exact sem_mono (h b _ c2 ρ p.2 x S' he F1 G μ1 σ H1 R1 (RE.mono e1)) fun w H2 l => l.trans e1
    | false =>
      cases he
      exact ⟨F1, μ1, e1, R1, .bl false⟩
  · cases c
theorem s_or (h : SndX X g ck) {a b : Tm} (c : ckOr ck a b e = true) {p : E × Store} (ga : g a ρ S = some p) {m : Bool} (hm : isTrueD p.1 = some m) (he : (if m = true then some (.d (.bl true), p.2) else g b ρ p.2) = some (x, S')) (R : Rel X.K F G μ S H) (RE : RelEnv X.K F μ S ρ σ) : sem X e σ H (Lift X.K F G μ S x S') := by
  unfold ckOr at c
  split at c
  · obtain ⟨c1, c2⟩ := and2 c
    refine to_sem (pe_or pe_sem bop_pe) ?_
    refine sem_mono (h a _ c1 ρ S p.1 p.2 ga F G μ σ H R RE) fun v H1 ⟨F1, μ1, e1, R1, r1⟩ => ?_
    rw [isTrueD_out hm] at r1
    cases (show RepP X.K F1 (.bl m) v from r1)
    refine ⟨m, rfl, ?_⟩
    cases m with
    | false => exact sem_mono (h b _ c2 ρ p.2 x S' he F1 G μ1 σ H1 R1 (RE.mono e1)) fun w H2 l => l.trans e1
    | true =>
      cases he
      exact ⟨F1, μ1, e1, R1, .bl true⟩
  · cases c
theorem s_not (h : SndX X g ck) {a : Tm} (c : ckNot ck a e = true) {p : E × Store} (ga : g a ρ S = some p) {m : Bool} (hm : isTrueD p.1 = some m) (R : Rel X.K F G μ S H) (RE : RelEnv X.K F μ S ρ σ) : sem X e σ H (Lift X.K F G μ S (.d (.bl (!m))) p.2) := by
  unfold ckNot at c
  split at c
  · refine to_sem (pe_not pe_sem) ?_
    refine sem_mono (h a _ c ρ S p.1 p.2 ga F G μ σ H R RE) fun v H1 ⟨F1, μ1, e1, R1, r1⟩ => ?_
    rw [isTrueD_out hm] at r1
    cases (show RepP X.K F1 (.bl m) v from r1)
    exact ⟨m, rfl, F1, μ1, e1, R1, .bl _⟩
  · cases c
theorem s_ite (h : SndX X g ck) (ht : SndT X g (chkT ck 20)) {cc a b : Tm} (c : ckIte ck cc a b e = true) {p : E × Store} (ga : g cc ρ S = some p) {m : Bool} (hm : isTrueD p.1 = some m) (he : (if m = true then g a ρ p.2 else g b ρ p.2) = some (x, S')) (R : Rel X.K F G μ S H) (RE : RelEnv X.K F μ S ρ σ) : sem X e σ H (Lift X.K F G μ S x S') := by
  unfold ckIte at c
  split at c
  · obtain ⟨c, c3⟩ := and2 c
    obtain ⟨c1, c2⟩ := and2 c
    refine to_sem (pe_ifExp pt_sem pe_sem pe_sem) ?_
    refine semT_mono (ht cc _ c1 ρ S p.1 p.2 m ga hm F G μ σ H R RE).1 fun v H1 ⟨em, F1, μ1, e1, R1⟩ => ?_
    subst em
    cases v with
    | true => exact sem_mono (h a _ c2 ρ p.2 x S' he F1 G μ1 σ H1 R1 (RE.mono e1)) fun w H2 l => l.trans e1
    | false => exact sem_mono (h b _ c3 ρ p.2 x S' he F1 G μ1 σ H1 R1 (RE.mono e1)) fun w H2 l => l.trans e1
  · cases c
/-- a built-in of one argument, called -/
theorem pe_o1 {o : O1} {nm : String} {b : Bool} {y : Str} {ea : Expr} {ta : TE} {p pos : Pos} {r : List V → Hp → VK → Prop} (ho : o1Nm o = some (nm, b)) (bi : Bi X y nm) (hr : CallR X (valB o) r) (hk : okHead ea = true) (he : PE X ea ta) : PE X (.Call (.Name y p) [ea] [] pos) (tCB r (tCons ta tNil)) := by
  obtain ⟨hn, hm, hg, hd, hnn⟩ := bi
  subst hn
  have sh := star_of (es := []) (env := X.env) hk
  have fin1 : ∀ i : String, valB o = .builtin i → i = nm → i ∈ ["len", "sum", "all", "any", "abs", "repr", "sorted", "min", "max", "isinstance"] → PE X (.Call (.Name (nm : Str) p) [ea] [] pos) (tCB r (tCons ta tNil)) := fun i ei en hi => by
    subst en
    rw [ei] at hr
    exact pe_callB hr hg hm (boots i hi) (pa_cons he pa_nil sh) hnn hd sh
  have fin2 : ∀ i : String, valB o = .type i → i = nm → i ∈ ["int", "str", "tuple", "list", "bool", "dict"] → PE X (.Call (.Name (nm : Str) p) [ea] [] pos) (tCB r (tCons ta tNil)) := fun i ei en hi => by
    subst en
    rw [ei] at hr
    exact pe_callTy hr hg hm (bootTs i hi) (pa_cons he pa_nil sh) hnn hd sh
  cases o with
  | len =>
    cases ho
    exact fin1 "len" rfl rfl (by decide)
  | sum =>
    cases ho
    exact fin1 "sum" rfl rfl (by decide)
  | sumT =>
    cases ho
    exact fin1 "sum" rfl rfl (by decide)
  | all =>
    cases ho
    exact fin1 "all" rfl rfl (by decide)
  | any =>
    cases ho
    exact fin1 "any" rfl rfl (by decide)
  | abs =>
    cases ho
    exact fin1 "abs" rfl rfl (by decide)
  | repr =>
    cases ho
    exact fin1 "repr" rfl rfl (by decide)
  | sortedI =>
    cases ho
    exact fin1 "sorted" rfl rfl (by decide)
  | minL =>
    cases ho
    exact fin1 "min" rfl rfl (by decide)
  | maxL =>
    cases ho
    exact fin1 "max" rfl rfl (by decide)
  | int =>
    cases ho
    exact fin2 "int" rfl rfl (by decide)
  | str =>
    cases ho
    exact fin2 "str" rfl rfl (by decide)
  | tupleL =>
    cases ho
    exact fin2 "tuple" rfl rfl (by decide)
  | tupleT =>
    cases ho
    exact fin2 "tuple" rfl rfl (by decide)
  | listL =>
    cases ho
    exact fin2 "list" rfl rfl (by decide)
  | listT =>
    cases ho
    exact fin2 "list" rfl rfl (by decide)
  | neg => cases ho
  | lenSetI => cases ho
  | sortedSetI => cases ho
theorem s_o1 (gd : Good P k N sc s0 X) (h : SndX X g ck) (hk : ∀ t e, ck t e = true → okHead e = true) {o : O1} {a : Tm} (c : ckO1 P ck sc o a e = true) {p : E × Store} (ga : g a ρ S = some p) {y z : D} (dy : deref p.2 p.1 = some y) (dz : DL.o1 o y = some z) (R : Rel X.K F G μ S H) (RE : RelEnv X.K F μ S ρ σ) :
    sem X e σ H (Lift X.K F G μ S (.d z) p.2) := by
  unfold ckO1 at c
  split at c
  · obtain ⟨c1, c2⟩ := and2 c
    cases o with
    | neg =>
      obtain ⟨i, hi, e2⟩ := bind_some_out (a := asI y) dz
      cases e2
      have e4 := asI_out hi
      subst e4
      refine to_sem (pe_un un_neg pe_sem) ?_
      refine sem_mono (h a _ c2 ρ S p.1 p.2 ga F G μ σ H R RE) fun v H1 ⟨F1, μ1, e1, R1, r1⟩ => ?_
      exact ⟨i, (deref_rep R1 r1 dy).int, F1, μ1, e1, R1, .int _⟩
    | _ => cases c1
  · obtain ⟨c1, c2⟩ := and2 c
    split at c1
    · rename_i nm b ho
      obtain ⟨r, hr, sp⟩ := o1_sem (X := X) gd.calm gd.gd gd.room.units ho
      refine to_sem (pe_o1 ho (bi_of c1 gd.hsc gd.bi) hr (hk _ _ c2) pe_sem) ?_
      refine sem_mono (h a _ c2 ρ S p.1 p.2 ga F G μ σ H R RE) fun v H1 ⟨F1, μ1, e1, R1, r1⟩ => ?_
      exact sp y z dz F1 G μ1 p.2 H1 v R1 (deref_rep R1 r1 dy) _ fun u H2 rs => rs.lift e1 R1
    · cases c1
  · cases c
theorem s_m2 (gd : Good P k N sc s0 X) (h : SndX X g ck) (hk : ∀ t e, ck t e = true → okHead e = true) {a b : Tm} {nm : String} (hnm : nm = "max" ∨ nm = "min") (c : ckM2 P ck sc nm a b e = true) {p q : E × Store} (ga : g a ρ S = some p) (gb : g b ρ p.2 = some q) {i j m : Int} (hi : p.1 = .d (.int i)) (hj : q.1 = .d (.int j)) (hm : (nm = "max" → m = if j > i then j else i) ∧ (nm = "min" → m = if j < i then j else i))
    (R : Rel X.K F G μ S H) (RE : RelEnv X.K F μ S ρ σ) : sem X e σ H (Lift X.K F G μ S (.d (.int m)) q.2) := by
  unfold ckM2 at c
  split at c
  · obtain ⟨c, c3⟩ := and2 c
    obtain ⟨c1, c2⟩ := and2 c
    have bi := bi_of c1 gd.hsc gd.bi
    obtain ⟨hn, hm0, hg, hd, hnn⟩ := bi
    subst hn
    have h1 := hk _ _ c2
    have h2 := hk _ _ c3
    have body : ∀ (r : List V → Hp → VK → Prop), (∀ H' Q, Q (.int m) H' → r [.int i, .int j] H' Q) → (tCB r (tCons (sem X _) (tCons (sem X _) tNil))) σ H (Lift X.K F G μ S (.d (.int m)) q.2) := fun r hr => by
      refine sem_mono (h a _ c2 ρ S p.1 p.2 ga F G μ σ H R RE) fun v H1 ⟨F1, μ1, e1, R1, r1⟩ => ?_
      refine sem_mono (h b _ c3 ρ p.2 q.1 q.2 gb F1 G μ1 σ H1 R1 (RE.mono e1)) fun w H2 ⟨F2, μ2, e2, R2, r2⟩ => ?_
      have e12 := e1.trans e2
      rw [hi] at r1
      rw [hj] at r2
      cases (show RepP X.K F1 (.int i) v from r1)
      cases (show RepP X.K F2 (.int j) w from r2)
      exact hr _ _ ⟨F2, μ2, e12, R2, .int _⟩
    rcases hnm with rfl | rfl
    · refine to_sem (pe_callB (call_max2 gd.calm) hg hm0 (boots "max" (by decide)) (pa_cons pe_sem (pa_cons pe_sem pa_nil (star_of h2)) (star_of h1)) hnn hd (star_of h1) (stars_none fun x hx => by
        rw [List.mem_singleton] at hx
        rw [hx]
        exact h2)) (body _ fun H' Q q => ⟨i, j, rfl, by rw [← hm.1 rfl]; exact q⟩)
    · refine to_sem (pe_callB (call_min2 gd.calm) hg hm0 (boots "min" (by decide)) (pa_cons pe_sem (pa_cons pe_sem pa_nil (star_of h2)) (star_of h1)) hnn hd (star_of h1) (stars_none fun x hx => by
        rw [List.mem_singleton] at hx
        rw [hx]
        exact h2)) (body _ fun H' Q q => ⟨i, j, rfl, by rw [← hm.2 rfl]; exact q⟩)
  · cases c
theorem s_isa (gd : Good P k N sc s0 X) (h : SndX X g ck) (hk : ∀ t e, ck t e = true → okHead e = true) {a : Tm} {ty : Ty} (c : ckIsa P ck sc ty a e = true) {p : E × Store} (ga : g a ρ S = some p) {y : D} (dy : deref p.2 p.1 = some y)
    (R : Rel X.K F G μ S H) (RE : RelEnv X.K F μ S ρ σ) : sem X e σ H (Lift X.K F G μ S (.d (.bl (DL.isa ty y))) p.2) := by
  unfold ckIsa at c
  split at c
  · obtain ⟨c, c3⟩ := and2 c
    obtain ⟨c1, c2⟩ := and2 c
    obtain ⟨hn, hm0, hg, hd, hnn⟩ := bi_of c1 gd.hsc gd.bi
    obtain ⟨hn2, hm2, hg2, hd2, hnn2⟩ := bi_of c2 gd.hsc gd.bi
    subst hn hn2
    have h1 := hk _ _ c3
    have bt : bootBuiltins (tyNm ty : Str) = some (.type (tyNm ty)) := bootTs _ (by cases ty <;> decide)
    refine to_sem (pe_callB call_isi hg hm0 (boots "isinstance" (by decide)) (pa_cons pe_sem (pa_cons (pe_bltn (v := .ty (tyNm ty)) hg2 hm2 bt rfl hnn2 hd2) pa_nil rfl) (star_of h1)) hnn hd (star_of h1) (stars_none fun x hx => by
      rw [List.mem_singleton] at hx
      rw [hx]
      rfl)) ?_
    refine sem_mono (h a _ c3 ρ S p.1 p.2 ga F G μ σ H R RE) fun v H1 ⟨F1, μ1, e1, R1, r1⟩ => ?_
    obtain ⟨T, t1, t2⟩ := ty_of ((deref_rep R1 r1 dy).now R1)
    exact ⟨v, .ty (tyNm ty), .type T, .type (tyNm ty), DL.isa ty y, rfl, .ty _, t1, kit_ty (t2 ty), F1, μ1, e1, R1, .bl _⟩
  · cases c
theorem all_heads : ∀ {as : List Tm} {es : List Expr}, (∀ t e, ck t e = true → okHead e = true) → chkAll ck as es = true → ∀ e ∈ es, okHead e = true
  | [], [], _, _, _, h => nomatch h
  | [], _ :: _, _, c, _, _ => by cases c
  | _ :: _, [], _, c, _, _ => by cases c
  | t :: ts, e :: es, hk, c, e', h => by
    obtain ⟨c1, c2⟩ := and2 c
    cases h with
    | head => exact hk _ _ c1
    | tail _ h => exact all_heads hk c2 e' h
theorem s_call (gd : Good P k N sc s0 X) (h : SndX X g ck) (hk : ∀ t e, ck t e = true → okHead e = true) {f : Nat} {as : List Tm} (c : ckCall P ck sc f as e = true) {p : List E × Store} (ga : evs g as ρ S = some p) (hc : callD P.T k f p.1 p.2 = some (x, S')) (R : Rel X.K F G μ S H) (RE : RelEnv X.K F μ S ρ σ) : sem X e σ H (Lift X.K F G μ S x S') := by
  unfold ckCall at c
  split at c
  · rename_i y np es pos
    obtain ⟨c, c4⟩ := and2 c
    obtain ⟨c, c3⟩ := and2 c
    obtain ⟨c1, c2⟩ := and2 c
    obtain ⟨k1, k2, k3⟩ := okName_of c3
    unfold fnIs at c1
    split at c1
    · rename_i fn hfn
      obtain ⟨fa, fd, ff, fk⟩ := gd.fns f fn hfn
      have en := of_decide_eq_true c1
      have hm := ff.mg
      rw [en] at hm
      have hA := args (G := G) h as es hk c4 ρ S p.1 p.2 ga F μ H R RE
      have fin : ∀ {pins : List (Addr × Obj)} {us : List Value} {s1 : Shared} {vs : List V} {H1 : Hp}, Inv X pins σ H1 s1 → Vals vs us → LiftA X.K F G μ S p.1 p.2 vs H1 → wpAny (model X.prog X.w) X.A (call (.ref fa) us []) (EP X pins σ (Lift X.K F G μ S x S')) X.xe s1 := fun {pins us s1 vs H1} I1 r ⟨F1, μ1, e1, R1, rs⟩ => by
        have hsp : spD X.K P.T fn.ps.length k f vs H1 (Lift X.K F G μ S x S') E0 := by
          have hl : p.1.length = fn.ps.length := by
            cases k with
            | zero => cases hc
            | succ k =>
              unfold callD at hc
              simp only [hfn] at hc
              split at hc
              · assumption
              · cases hc
          exact ⟨F1, G, μ1, p.2, p.1, x, S', R1, rs, hl, hc, fun v H2 l => l.trans e1⟩
        have hl : us.length = fn.ps.length := by rw [← r.length]; exact fk.len _ _ _ _ hsp
        exact run_g fk gd.gd gd.room (.of_eq (ff.bp us hl)) I1 r hsp
      intro pins s I
      refine wpAny_Call_Name_kw (ld_glob I (gl_of c2 gd.hsc) hm ?_ k1)
      cases es with
      | nil =>
        cases as with
        | nil =>
          cases ga
          exact PySem.W.callWith_K0 I.kIn ff.kp (fin (us := []) I .nil ⟨F, μ, Ext.refl F μ S, R, .nil⟩)
        | cons _ _ => cases c4
      | cons e1 es =>
        have hh := all_heads hk c4
        refine PySem.W.callWith_K (h₀ := X.base) I.ok.mod.kin ff.kp (thn (hA pos pins s I) fun us s1 ⟨vs, H1, I1, r, q⟩ => ⟨I1.kIn, ?_⟩) (star_of (hh _ List.mem_cons_self)) (stars_none fun z hz => hh z (List.mem_cons_of_mem _ hz))
        exact fin I1 r q
    · cases c1
  · cases c
theorem argsK (h : SndX X g ck) : ∀ (as : List Tm) (kws : List Keyword), chkAll ck as (kws.map (·.value)) = true → ∀ (ρ : Env) (S : Store) (xs : List E) (S' : Store), evs g as ρ S = some (xs, S') → ∀ (F : Hp) (μ : Nat → Addr) (H : Hp), Rel X.K F G μ S H → RelEnv X.K F μ S ρ σ → semK X kws σ H (LiftA X.K F G μ S xs S')
  | [], [], _, ρ, S, xs, S', e, F, μ, H, R, RE => by
    cases e
    exact to_semK pk_nil ⟨F, μ, Ext.refl F μ S, R, .nil⟩
  | [], _ :: _, c, _, _, _, _, _, _, _, _, _, _ => by cases c
  | _ :: _, [], c, _, _, _, _, _, _, _, _, _, _ => by cases c
  | t :: ts, ⟨nm, e, kp⟩ :: es, c, ρ, S, xs, S', ev, F, μ, H, R, RE => by
    obtain ⟨c1, c2⟩ := and2 c
    obtain ⟨p, ga, ev⟩ := bind_some_out ev
    obtain ⟨q, gb, ev⟩ := bind_some_out ev
    cases ev
    refine to_semK (pk_cons pe_sem pk_sem) ?_
    refine sem_mono (h t e c1 ρ S p.1 p.2 ga F G μ σ H R RE) fun v H1 ⟨F1, μ1, e1, R1, r1⟩ => ?_
    refine semK_mono (argsK h ts es c2 ρ p.2 q.1 q.2 gb F1 μ1 H1 R1 (RE.mono e1)) fun vs H2 ⟨F2, μ2, e2, R2, r2⟩ => ?_
    exact ⟨F2, μ2, e1.trans e2, R2, .cons (r1.mono e2) r2⟩
theorem kw_names {env : PySem.Env} {pos : Pos} : ∀ {kws : List Keyword}, (backToKw pos (keywordEach kws env)).map (·.1) = kws.map (·.arg)
  | [] => rfl
  | ⟨nm, e, kp⟩ :: kws => congrArg (nm :: ·) (kw_names (kws := kws))
theorem kw_some {ps : List Str} : ∀ {l : List (Option Str × Sem Value)}, l.map (·.1) = ps.map some → l.all (·.1.isSome) = true ∧ l.any (·.1.isNone) = false ∧ l.filterMap (·.1) = ps := by
  intro l
  induction l generalizing ps with
  | nil =>
    intro h
    cases ps with
    | nil => exact ⟨rfl, rfl, rfl⟩
    | cons _ _ => cases h
  | cons a l ih =>
    intro h
    cases ps with
    | nil => cases h
    | cons q ps =>
      rw [List.map_cons, List.map_cons, List.cons.injEq] at h
      obtain ⟨h1, h2⟩ := h
      obtain ⟨i1, i2, i3⟩ := ih h2
      obtain ⟨n, t⟩ := a
      cases (show n = some q from h1)
      exact ⟨by rw [List.all_cons, i1]; rfl, by rw [List.any_cons, i2]; rfl, by simp only [List.filterMap_cons]; rw [i3]⟩
theorem s_callK (gd : Good P k N sc s0 X) (h : SndX X g ck) {f : Nat} {as : List Tm} (c : ckCallK P ck sc f as e = true) {p : List E × Store} (ga : evs g as ρ S = some p) (hc : callD P.T k f p.1 p.2 = some (x, S')) (R : Rel X.K F G μ S H) (RE : RelEnv X.K F μ S ρ σ) : sem X e σ H (Lift X.K F G μ S x S') := by
  unfold ckCallK at c
  split at c
  · rename_i y np kws pos
    obtain ⟨c, c5⟩ := and2 c
    obtain ⟨c, c4⟩ := and2 c
    obtain ⟨c, c3⟩ := and2 c
    obtain ⟨c1, c2⟩ := and2 c
    obtain ⟨k1, k2, k3⟩ := okName_of c4
    unfold fnIs at c1
    split at c1
    · rename_i fn hfn
      unfold fnKs at c2
      simp only [hfn] at c2
      have ek : kws.map (·.arg) = fn.ps.map some := of_decide_eq_true c2
      obtain ⟨fa, fd, ff, fk⟩ := gd.fns f fn hfn
      have en := of_decide_eq_true c1
      have hm := ff.mg
      rw [en] at hm
      have hA := argsK (G := G) h as kws c5 ρ S p.1 p.2 ga F μ H R RE
      obtain ⟨w1, w2, w3⟩ := kw_some ((kw_names (env := X.env) (pos := pos)).trans ek)
      intro pins s I
      refine wpAny_Call_Name_kw (ld_glob I (gl_of c3 gd.hsc) hm ?_ k1)
      refine PySem.W.callWith_KW0 (h₀ := X.base) I.ok.mod.kin ff.kp w1 (thn (hA pos pins s I) fun us s1 ⟨vs, H1, I1, r, ⟨F1, μ1, e1, R1, rs⟩⟩ => ⟨I1.kIn, ?_⟩) (by show (false || _) = false; rw [w2]; rfl)
      rw [w3]
      have hsp : spD X.K P.T fn.ps.length k f vs H1 (Lift X.K F G μ S x S') E0 := by
        have hl : p.1.length = fn.ps.length := by
          cases k with
          | zero => cases hc
          | succ k =>
            unfold callD at hc
            simp only [hfn] at hc
            split at hc
            · assumption
            · cases hc
        exact ⟨F1, G, μ1, p.2, p.1, x, S', R1, rs, hl, hc, fun v H2 l => l.trans e1⟩
      have hl : us.length = fn.ps.length := by rw [← r.length]; exact fk.len _ _ _ _ hsp
      exact run_g fk gd.gd gd.room (.of_eq (ff.bk us hl)) I1 r hsp
    · cases c1
  · cases c
end
end DL
end

section
set_option autoImplicit false
set_option linter.all false
/-! Expressions, third part: displays, subscripts, methods of lists, new lists. -/
namespace DL
open PySem PySem.Spec PyProof.Rows L2

theorem RepEs.asDs {K : PySem.W.Frag} {F : Hp} {μ : Nat → Addr} {S : Store} : ∀ {xs : List E} {vs : List V} {ds : List D}, RepEs K F μ S xs vs → asDs xs = some ds → RepL K F ds vs
  | _, _, _, .nil, h => by
    cases h
    exact .nil
  | .d x :: xs, _ :: _, ds, .cons h r, e => by
    have e2 : (DL.asDs xs).map (x :: ·) = some ds := e
    cases q : DL.asDs xs with
    | none =>
      rw [q] at e2
      cases e2
    | some ys =>
      rw [q] at e2
      cases e2
      exact .cons h (RepEs.asDs r q)
  | .r _ :: _, _ :: _, _, .cons _ _, e => by cases e
/-- a value that is a new list -/
abbrev FrX (X : Cx) (e : Expr) (σ : L2.St) (H F G : Hp) (μ : Nat → Addr) (S : Store) (x : E) (S' : Store) : Prop := ∃ xs, x = .d (.lst xs) ∧ sem X e σ H (LiftN X.K F G μ S xs S')
section
variable {X : Cx} {g : Ev} {ck : Ck1} {ρ : Env} {S S' : Store} {x : E} {F G : Hp} {μ : Nat → Addr} {σ : L2.St} {H : Hp} {P : Prm} {k : Nat} {N : List Str} {sc s0 : Scope} {e : Expr}
theorem FrX.sem (h : FrX X e σ H F G μ S x S') : sem X e σ H (Lift X.K F G μ S x S') := by
  obtain ⟨xs, rfl, h⟩ := h
  exact sem_mono h fun v H' l => l.lift
theorem FrX.open_ {xs : List D} (h : FrX X e σ H F G μ S (.d (.lst xs)) S') : DL.sem X e σ H (Lift X.K F G μ S (.r S'.length) (S' ++ [some xs])) := by
  obtain ⟨ys, e1, h⟩ := h
  cases e1
  exact sem_mono h fun v H' l => l.open_
theorem s_tup (h : SndX X g ck) (hk : ∀ t e, ck t e = true → okHead e = true) {as : List Tm} (c : ckTup ck as e = true) {p : List E × Store} (ga : evs g as ρ S = some p) {ds : List D} (hd : asDs p.1 = some ds) (hf : fits ds.length = true) (R : Rel X.K F G μ S H) (RE : RelEnv X.K F μ S ρ σ) :
    sem X e σ H (Lift X.K F G μ S (.d (.tup ds)) p.2) := by
  unfold ckTup at c
  split at c
  · refine to_sem (pe_tup pa_sem) ?_
    refine semA_mono (args (G := G) h as _ hk c ρ S p.1 p.2 ga F μ H R RE) fun vs H1 ⟨F1, μ1, e1, R1, rs⟩ => ?_
    have rl := rs.asDs hd
    exact ⟨by rw [← rl.length]; exact fits_le hf, fun q hq => (Res.tup hq rl).lift e1 R1⟩
  · cases c
theorem s_lst (h : SndX X g ck) (hk : ∀ t e, ck t e = true → okHead e = true) {as : List Tm} (c : ckLst ck as e = true) {p : List E × Store} (ga : evs g as ρ S = some p) {ds : List D} (hd : asDs p.1 = some ds) (hf : fits ds.length = true) (R : Rel X.K F G μ S H) (RE : RelEnv X.K F μ S ρ σ) :
    FrX X e σ H F G μ S (.d (.lst ds)) p.2 := by
  unfold ckLst at c
  split at c
  · refine ⟨ds, rfl, to_sem (pe_lst pa_sem) ?_⟩
    refine semA_mono (args (G := G) h as _ hk c ρ S p.1 p.2 ga F μ H R RE) fun vs H1 ⟨F1, μ1, e1, R1, rs⟩ => ?_
    have rl := rs.asDs hd
    exact ⟨by rw [← rl.length]; exact fits_le hf, fun q hq => ⟨F1, μ1, H1, e1, R1, q, vs, hq, rl, rfl, rfl⟩⟩
  · cases c
theorem at_rep {K : PySem.W.Frag} {xs : List D} {vs : List V} {i : Int} {z : D} (h : RepL K F xs vs) (e : atD xs i = some z) : ∃ v, atI vs i = some v ∧ RepP K F z v := by
  obtain ⟨j, h1, h2⟩ := bind_some_out (a := place xs.length i) e
  obtain ⟨v, h3, h4⟩ := h.get h2
  refine ⟨v, ?_, h4⟩
  show (ixN vs.length i).bind (fun j => vs[j]?) = some v
  rw [← h.length]
  show (place xs.length i).bind (fun j => vs[j]?) = some v
  rw [h1]
  exact h3
theorem cut_rep {K : PySem.W.Frag} {xs : List D} {vs : List V} (h : RepL K F xs vs) (lo hi : Option Int) : RepL K F (cutD xs lo hi) (cutV vs lo hi) := by
  unfold cutD cutV
  rw [h.length]
  exact (h.drop _).take _
theorem s_idxL (h : SndX X g ck) (hk : ∀ t e, ck t e = true → okHead e = true) {a b : Tm} (c : ckIdx ck a b e = true) {p q : E × Store} (ga : g a ρ S = some p) (gb : g b ρ p.2 = some q) {y z : D} {i : Int} (dy : deref q.2 p.1 = some y) (di : q.1 = .d (.int i)) (hz : (∃ xs, (y = .lst xs ∨ y = .scr xs) ∧ atD xs i = some z))
    (R : Rel X.K F G μ S H) (RE : RelEnv X.K F μ S ρ σ) : sem X e σ H (Lift X.K F G μ S (.d z) q.2) := by
  unfold ckIdx at c
  split at c
  · obtain ⟨c1, c2⟩ := and2 c
    refine to_sem (pe_ix ix_list pe_sem pe_sem (plainIx_of (hk _ _ c2))) (two h c1 c2 ga gb R RE fun F' μ' v w H' e1 R' r1 r2 => ?_)
    rw [di] at r2
    cases (show RepP X.K F' (.int i) w from r2)
    obtain ⟨xs, hy, hz⟩ := hz
    rcases hy with rfl | rfl
    · obtain ⟨a, vs, rfl, h1, h2⟩ := (deref_rep R' r1 dy).lst R'.fr
      obtain ⟨u, h3, h4⟩ := at_rep h2 hz
      exact ⟨a, vs, i, u, rfl, rfl, .of h1, h3, F', μ', e1, R', h4⟩
    · obtain ⟨a, vs, rfl, h1, h2⟩ := (deref_rep R' r1 dy).scr R'.fr
      obtain ⟨u, h3, h4⟩ := at_rep h2 hz
      exact ⟨a, vs, i, u, rfl, rfl, h1, h3, F', μ', e1, R', h4⟩
  · cases c
theorem s_idxT (h : SndX X g ck) (hk : ∀ t e, ck t e = true → okHead e = true) {a b : Tm} (c : ckIdx ck a b e = true) {p q : E × Store} (ga : g a ρ S = some p) (gb : g b ρ p.2 = some q) {xs : List D} {z : D} {i : Int} (dy : p.1 = .d (.tup xs)) (di : q.1 = .d (.int i)) (hz : atD xs i = some z)
    (R : Rel X.K F G μ S H) (RE : RelEnv X.K F μ S ρ σ) : sem X e σ H (Lift X.K F G μ S (.d z) q.2) := by
  unfold ckIdx at c
  split at c
  · obtain ⟨c1, c2⟩ := and2 c
    refine to_sem (pe_ix ix_tup pe_sem pe_sem (plainIx_of (hk _ _ c2))) (two h c1 c2 ga gb R RE fun F' μ' v w H' e1 R' r1 r2 => ?_)
    rw [di] at r2
    rw [dy] at r1
    cases (show RepP X.K F' (.int i) w from r2)
    obtain ⟨a, vs, rfl, h1, h2⟩ := (RepT.p (H := H') (show RepP X.K F' (.tup xs) v from r1)).sqT R'.fr
    obtain ⟨u, h3, h4⟩ := at_rep h2 hz
    exact ⟨a, vs, i, u, rfl, rfl, h1, h3, F', μ', e1, R', h4⟩
  · cases c
def semO (X : Cx) (e : Option Expr) : TO := fun σ H Q => ∀ (pins : List (Addr × Obj)) (s : Shared), Inv X pins σ H s → wpAny (model X.prog X.w) X.A (evalPart e X.env) (fun u s' => ∃ o H', Inv X pins σ H' s' ∧ IsPart u o ∧ Q o H') X.xe s
theorem po_sem {oe : Option Expr} : PO X oe (semO X oe) := ⟨fun pins s σ H Q I h => h pins s I⟩
theorem part (h : SndX X g ck) {ot : Option Tm} {oe : Option Expr} (c : chkO ck ot oe = true) {l : Option Int × Store} (hl : evO g ot ρ S = some l) (R : Rel X.K F G μ S H) (RE : RelEnv X.K F μ S ρ σ) {Q : Option Int → Hp → Prop}
    (q : ∀ F' μ' H', Ext F μ S F' μ' l.2 → Rel X.K F' G μ' l.2 H' → Q l.1 H') : semO X oe σ H Q := by
  cases ot with
  | none =>
    cases oe with
    | some _ => cases c
    | none =>
      cases hl
      exact fun pins s I => po_none.run pins s σ H Q I (q F μ H (Ext.refl F μ S) R)
  | some t =>
    cases oe with
    | none => cases c
    | some e =>
      obtain ⟨p, ga, hl⟩ := bind_some_out hl
      obtain ⟨y, hy, hl⟩ := bind_some_out hl
      obtain ⟨i, hi, hl⟩ := bind_some_out hl
      cases hl
      refine fun pins s I => (po_some pe_sem).run pins s σ H Q I ?_
      refine sem_mono (h t e c ρ S p.1 p.2 ga F G μ σ H R RE) fun v H1 ⟨F1, μ1, e1, R1, r1⟩ => ?_
      rw [asD_out hy, asI_out hi] at r1
      cases (show RepP X.K F1 (.int i) v from r1)
      exact ⟨i, rfl, q F1 μ1 H1 e1 R1⟩
theorem s_slL (h : SndX X g ck) {a : Tm} {lo hi : Option Tm} (c : ckSl ck a lo hi e = true) {p : E × Store} {l u : Option Int × Store} (ga : g a ρ S = some p) (gl : evO g lo ρ p.2 = some l) (gh : evO g hi ρ l.2 = some u) {y : D} {xs : List D} (dy : deref u.2 p.1 = some y) (hy : y = .lst xs ∨ y = .scr xs)
    (R : Rel X.K F G μ S H) (RE : RelEnv X.K F μ S ρ σ) : FrX X e σ H F G μ S (.d (.lst (cutD xs l.1 u.1))) u.2 := by
  unfold ckSl at c
  split at c
  · obtain ⟨c, c3⟩ := and2 c
    obtain ⟨c1, c2⟩ := and2 c
    refine ⟨_, rfl, to_sem (pe_slice sl_list pe_sem po_sem po_sem) ?_⟩
    refine sem_mono (h a _ c1 ρ S p.1 p.2 ga F G μ σ H R RE) fun v H1 ⟨F1, μ1, e1, R1, r1⟩ => ?_
    refine part h c2 gl R1 (RE.mono e1) fun F2 μ2 H2 e2 R2 => ?_
    refine part h c3 gh R2 (RE.mono (e1.trans e2)) fun F3 μ3 H3 e3 R3 => ?_
    have e123 := (e1.trans e2).trans e3
    have r3 := deref_rep R3 (r1.mono (e2.trans e3)) dy
    rcases hy with rfl | rfl
    · obtain ⟨b, vs, rfl, h1, h2⟩ := r3.lst R3.fr
      exact ⟨b, vs, rfl, .of h1, fun q hq => ⟨F3, μ3, H3, e123, R3, q, _, hq, cut_rep h2 _ _, rfl, rfl⟩⟩
    · obtain ⟨b, vs, rfl, h1, h2⟩ := r3.scr R3.fr
      exact ⟨b, vs, rfl, h1, fun q hq => ⟨F3, μ3, H3, e123, R3, q, _, hq, cut_rep h2 _ _, rfl, rfl⟩⟩
  · cases c
theorem s_slT (h : SndX X g ck) {a : Tm} {lo hi : Option Tm} (c : ckSl ck a lo hi e = true) {p : E × Store} {l u : Option Int × Store} (ga : g a ρ S = some p) (gl : evO g lo ρ p.2 = some l) (gh : evO g hi ρ l.2 = some u) {xs : List D} (dy : p.1 = .d (.tup xs))
    (R : Rel X.K F G μ S H) (RE : RelEnv X.K F μ S ρ σ) : sem X e σ H (Lift X.K F G μ S (.d (.tup (cutD xs l.1 u.1))) u.2) := by
  unfold ckSl at c
  split at c
  · obtain ⟨c, c3⟩ := and2 c
    obtain ⟨c1, c2⟩ := and2 c
    refine to_sem (pe_slice sl_tupA pe_sem po_sem po_sem) ?_
    refine sem_mono (h a _ c1 ρ S p.1 p.2 ga F G μ σ H R RE) fun v H1 ⟨F1, μ1, e1, R1, r1⟩ => ?_
    refine part h c2 gl R1 (RE.mono e1) fun F2 μ2 H2 e2 R2 => ?_
    refine part h c3 gh R2 (RE.mono (e1.trans e2)) fun F3 μ3 H3 e3 R3 => ?_
    have e123 := (e1.trans e2).trans e3
    rw [dy] at r1
    have r3 : RepP X.K F3 (.tup xs) v := RepP.mono (e2.trans e3).f r1
    cases r3 with
    | @tup b _ vs h1 h2 =>
      refine ⟨b, vs, rfl, R3.fr.sqT h1, fun hw => ?_, fun _ q hq => (Res.tup hq (cut_rep h2 _ _)).lift e123 R3⟩
      have ec : cutD xs l.1 u.1 = xs := by
        unfold cutD
        rw [h2.length, hw.1, hw.2, List.drop_zero, Nat.sub_zero, ← h2.length]
        exact List.take_length
      rw [ec]
      exact ⟨F3, μ3, e123, R3, .tup h1 h2⟩
  · cases c
theorem few {cpos : Pos} {eb : Expr} {env : PySem.Env} (h : okHead eb = true) : ((backTo cpos (starEach [eb] env)).all (fun x => !x.1) && (backToKw cpos (keywordEach [] env)).all (fun x => x.1.isSome)
      && decide ([eb].length + ([] : List Keyword).length + (if ([] : List Keyword).isEmpty then 0 else 1) < 30)) = true := by
  rw [star_of h]
  rfl
/-- the receiver, an open list; then its argument -/
theorem onto (h : SndX X g ck) {a b : Tm} {ea eb : Expr} (c1 : ck a ea = true) (c2 : ck b eb = true) {p q : E × Store} (ga : g a ρ S = some p) {y0 : D} (d0 : deref p.2 p.1 = some y0) (gb : g b ρ p.2 = some q) {m : Nat} (hm : p.1 = .r m) {y : D} (hy : q.1 = .d y)
    (R : Rel X.K F G μ S H) (RE : RelEnv X.K F μ S ρ σ) {r : V → List V → Hp → VK → Prop} {Q : VK} (hq : ∀ F' μ' w H', Ext F μ S F' μ' q.2 → Rel X.K F' G μ' q.2 H' → RepP X.K F' y w → r (.ref (μ' m)) [w] H' Q) :
    tBM X.K "list" r (sem X ea) (tCons (sem X eb) tNil) σ H Q := by
  refine sem_mono (h a _ c1 ρ S p.1 p.2 ga F G μ σ H R RE) fun v H1 ⟨F1, μ1, e1, R1, r1⟩ => ?_
  rw [hm] at r1 d0
  have hv := r1.2
  refine ⟨?_, ?_⟩
  · have t := deref_rep R1 r1 d0
    have d0' := d0
    unfold deref at d0'
    simp only at d0'
    split at d0'
    · cases d0'
      obtain ⟨l, vs, e2, e3, _⟩ := t.lst R1.fr
      rw [e2]
      exact .inl ⟨rfl, vs, .of e3⟩
    · cases d0'
  · refine sem_mono (h b _ c2 ρ p.2 q.1 q.2 gb F1 G μ1 σ H1 R1 (RE.mono e1)) fun w H2 ⟨F2, μ2, e2, R2, r2⟩ => ?_
    rw [hy] at r2
    have := hq F2 μ2 w H2 (e1.trans e2) R2 r2
    rw [e2.m m r1.1, ← hv] at this
    exact this
theorem fits_lt {n : Nat} (h : n < 10000000) : n < sizeLine := by
  rw [sizeLine_eq]
  omega
theorem s_app (h : SndX X g ck) (hk : ∀ t e, ck t e = true → okHead e = true) {a b : Tm} (c : ckMt ck "append" a b e = true) {p q : E × Store} (ga : g a ρ S = some p) {y0 : D} (d0 : deref p.2 p.1 = some y0) (gb : g b ρ p.2 = some q) {m : Nat} (hm : p.1 = .r m) {y : D} (hy : q.1 = .d y) {xs : List D} (hx : q.2[m]? = some (some xs)) (hl : xs.length < 10000000)
    (R : Rel X.K F G μ S H) (RE : RelEnv X.K F μ S ρ σ) : sem X e σ H (Lift X.K F G μ S (.d .non) (q.2.set m (some (xs ++ [y])))) := by
  unfold ckMt at c
  split at c
  · obtain ⟨c, c4⟩ := and2 c
    obtain ⟨c, c3⟩ := and2 c
    obtain ⟨c1, c2⟩ := and2 c
    have en := of_decide_eq_true c1
    subst en
    have h2 := hk _ _ c4
    refine to_sem (pe_bm PySem.F.plainAttrs_list PySem.F.slot_list_append PySem.F.type_list_append mt_append pe_sem (pa_cons pe_sem pa_nil (star_of h2)) (base_of (hk _ _ c3)) (few h2) c2 (star_of h2)) (onto h c3 c4 ga d0 gb hm hy R RE fun F' μ' w H' e1 R' r => ?_)
    obtain ⟨vs, h3, h4⟩ := R'.st m xs hx
    refine ⟨_, vs, w, rfl, rfl, h3, fits_lt (by rw [← h4.length]; exact hl), F', μ', e1.trans (Ext.set F' μ' q.2 m _), R'.write hx (h4.append (.cons r .nil)), .non⟩
  · cases c
theorem s_ext (h : SndX X g ck) (hk : ∀ t e, ck t e = true → okHead e = true) {a b : Tm} (c : ckMt ck "extend" a b e = true) {p q : E × Store} (ga : g a ρ S = some p) {y0 : D} (d0 : deref p.2 p.1 = some y0) (gb : g b ρ p.2 = some q) {m : Nat} (hm : p.1 = .r m) {ys : List D} (hy : q.1 = .d (.lst ys)) {xs : List D} (hx : q.2[m]? = some (some xs)) (hl : fits (xs.length + ys.length) = true)
    (R : Rel X.K F G μ S H) (RE : RelEnv X.K F μ S ρ σ) : sem X e σ H (Lift X.K F G μ S (.d .non) (q.2.set m (some (xs ++ ys)))) := by
  unfold ckMt at c
  split at c
  · obtain ⟨c, c4⟩ := and2 c
    obtain ⟨c, c3⟩ := and2 c
    obtain ⟨c1, c2⟩ := and2 c
    have en := of_decide_eq_true c1
    subst en
    have h2 := hk _ _ c4
    refine to_sem (pe_bm PySem.F.plainAttrs_list PySem.F.slot_list_extend PySem.F.type_list_extend mt_extend pe_sem (pa_cons pe_sem pa_nil (star_of h2)) (base_of (hk _ _ c3)) (few h2) c2 (star_of h2)) (onto h c3 c4 ga d0 gb hm hy R RE fun F' μ' w H' e1 R' r => ?_)
    obtain ⟨vs, h3, h4⟩ := R'.st m xs hx
    cases r with
    | @lst b _ ws h5 h6 =>
      refine ⟨_, b, vs, ws, rfl, rfl, h3, R'.fr _ _ h5, fits_le (by rw [← h4.length, ← h6.length]; exact hl), F', μ', e1.trans (Ext.set F' μ' q.2 m _), R'.write hx (h4.append h6), .non⟩
  · cases c
theorem s_popAt (h : SndX X g ck) (hk : ∀ t e, ck t e = true → okHead e = true) {a b : Tm} (c : ckMt ck "pop" a b e = true) {p q : E × Store} (ga : g a ρ S = some p) {y0 : D} (d0 : deref p.2 p.1 = some y0) (gb : g b ρ p.2 = some q) {m : Nat} (hm : p.1 = .r m) {i : Int} (hy : q.1 = .d (.int i)) {xs : List D} (hx : q.2[m]? = some (some xs)) (hi : 0 ≤ i ∧ i < (xs.length : Int) ∧ i < 10000000) {z : D} (hz : xs[i.toNat]? = some z)
    (R : Rel X.K F G μ S H) (RE : RelEnv X.K F μ S ρ σ) : sem X e σ H (Lift X.K F G μ S (.d z) (q.2.set m (some (xs.eraseIdx i.toNat)))) := by
  unfold ckMt at c
  split at c
  · obtain ⟨c, c4⟩ := and2 c
    obtain ⟨c, c3⟩ := and2 c
    obtain ⟨c1, c2⟩ := and2 c
    have en := of_decide_eq_true c1
    subst en
    have h2 := hk _ _ c4
    refine to_sem (pe_bm PySem.F.plainAttrs_list PySem.F.slot_list_pop PySem.F.type_list_pop mt_popAt pe_sem (pa_cons pe_sem pa_nil (star_of h2)) (base_of (hk _ _ c3)) (few h2) c2 (star_of h2)) (onto h c3 c4 ga d0 gb hm hy R RE fun F' μ' w H' e1 R' r => ?_)
    obtain ⟨vs, h3, h4⟩ := R'.st m xs hx
    cases r
    obtain ⟨u, h5, h6⟩ := h4.get hz
    have hix : ixN vs.length i = some i.toNat := by
      unfold ixN
      rw [if_pos hi.1, if_pos (by rw [← h4.length]; exact hi.2.1)]
    exact ⟨_, vs, i, i.toNat, u, rfl, rfl, h3, by omega, by omega, (ixN_seq hix).1, h5, F', μ', e1.trans (Ext.set F' μ' q.2 m _), R'.write hx (h4.erase i.toNat), h6⟩
  · cases c
/-! new lists by operators and built-ins -/
theorem f_o2 (gd : Good P k N sc s0 X) (h : SndX X g ck) {o : O2} {a b : Tm} (hf : isFresh (.o2 o a b) = true) (c : ckO2 ck o a b e = true) {p q : E × Store} (ga : g a ρ S = some p) (gb : g b ρ p.2 = some q) {x y z : D} (dx : deref q.2 p.1 = some x) (dy : deref q.2 q.1 = some y) (dz : DL.o2 o x y = some z) (R : Rel X.K F G μ S H) (RE : RelEnv X.K F μ S ρ σ) :
    FrX X e σ H F G μ S (.d z) q.2 := by
  have cases2 : o = .catL ∨ o = .repL := by cases o <;> first | exact .inl rfl | exact .inr rfl | cases hf
  unfold ckO2 at c
  split at c
  · rename_i ea op eb pos
    obtain ⟨c, c3⟩ := and2 c
    obtain ⟨c1, c2⟩ := and2 c
    rcases cases2 with rfl | rfl
    · have eo : op = .Add := by cases op <;> first | rfl | cases c1
      subst eo
      obtain ⟨xs, ys, zs, rfl, rfl, rfl⟩ := catL_out dz
      exact ⟨zs, rfl, to_sem (pe_op op_cat pe_sem pe_sem) (two h c2 c3 ga gb R RE fun F' μ' v w H' e1 R' r1 r2 => catL_sem dz R' (deref_rep R' r1 dx) (deref_rep R' r2 dy) fun u H2 rn => ⟨F', μ', H', e1, R', rn⟩)⟩
    · have eo : op = .Mult := by cases op <;> first | rfl | cases c1
      subst eo
      obtain ⟨xs, n, zs, rfl, rfl, rfl⟩ := repL_out dz
      exact ⟨zs, rfl, to_sem (pe_op op_rep pe_sem pe_sem) (two h c2 c3 ga gb R RE fun F' μ' v w H' e1 R' r1 r2 => repL_sem dz R' (deref_rep R' r1 dx) (deref_rep R' r2 dy) fun u H2 rn => ⟨F', μ', H', e1, R', rn⟩)⟩
  · rename_i ea op eb pos
    obtain ⟨c, c4⟩ := and2 c
    obtain ⟨c, c3⟩ := and2 c
    obtain ⟨c1, c2⟩ := and2 c
    rcases cases2 with rfl | rfl <;> cases op <;> cases c1
  · cases c
theorem f_o1 (gd : Good P k N sc s0 X) (h : SndX X g ck) (hk : ∀ t e, ck t e = true → okHead e = true) {o : O1} {a : Tm} (hf : isFresh (.o1 o a) = true) (c : ckO1 P ck sc o a e = true) {p : E × Store} (ga : g a ρ S = some p) {y z : D} (dy : deref p.2 p.1 = some y) (dz : DL.o1 o y = some z) (R : Rel X.K F G μ S H) (RE : RelEnv X.K F μ S ρ σ) :
    FrX X e σ H F G μ S (.d z) p.2 := by
  have cases3 : o = .listL ∨ o = .listT ∨ o = .sortedI := by cases o <;> first | exact .inl rfl | exact .inr (.inl rfl) | exact .inr (.inr rfl) | cases hf
  unfold ckO1 at c
  split at c
  · obtain ⟨c1, c2⟩ := and2 c
    rcases cases3 with rfl | rfl | rfl <;> cases c1
  · obtain ⟨c1, c2⟩ := and2 c
    split at c1
    · rename_i nm b ho
      have bi := bi_of c1 gd.hsc gd.bi
      have h0 := hk _ _ c2
      rcases cases3 with rfl | rfl | rfl
      · obtain ⟨xs, hi, e2⟩ := bind_some_out (a := asL y) dz
        cases e2
        have e4 := asL_out hi
        subst e4
        refine ⟨xs, rfl, to_sem (pe_o1 ho bi call_list_of h0 pe_sem) ?_⟩
        refine sem_mono (h a _ c2 ρ S p.1 p.2 ga F G μ σ H R RE) fun v H1 ⟨F1, μ1, e1, R1, r1⟩ => ?_
        exact listL_sem R1 (deref_rep R1 r1 dy) fun u H2 rn => ⟨F1, μ1, H1, e1, R1, rn⟩
      · obtain ⟨xs, hi, e2⟩ := bind_some_out (a := asT y) dz
        cases e2
        have e4 := asT_out hi
        subst e4
        refine ⟨xs, rfl, to_sem (pe_o1 ho bi call_list_of h0 pe_sem) ?_⟩
        refine sem_mono (h a _ c2 ρ S p.1 p.2 ga F G μ σ H R RE) fun v H1 ⟨F1, μ1, e1, R1, r1⟩ => ?_
        exact listT_sem R1 (deref_rep R1 r1 dy) fun u H2 rn => ⟨F1, μ1, H1, e1, R1, rn⟩
      · obtain ⟨xs, hi, e2⟩ := bind_some_out (a := asL y) dz
        obtain ⟨ns, hn, e3⟩ := bind_some_out e2
        cases e3
        have e4 := asL_out hi
        subst e4
        refine ⟨_, rfl, to_sem (pe_o1 ho bi cr_sortedI h0 pe_sem) ?_⟩
        refine sem_mono (h a _ c2 ρ S p.1 p.2 ga F G μ σ H R RE) fun v H1 ⟨F1, μ1, e1, R1, r1⟩ => ?_
        exact sortedI_sem hn R1 (deref_rep R1 r1 dy) fun u H2 rn => ⟨F1, μ1, H1, e1, R1, rn⟩
    · cases c1
  · cases c
end
end DL
end

section
set_option autoImplicit false
set_option linter.all false
/-! Targets, walks, comprehensions. -/
namespace DL
open PySem PySem.Spec PyProof.Rows L2

mutual
def gT (K : PySem.W.Frag) : Tg → TG
  | .nm i => gName i
  | .tp ts => gTup K ts.length (gTs K ts)
def gTs (K : PySem.W.Frag) : List Tg → TGs
  | [] => gNil
  | t :: ts => gCons (gT K t) (gTs K ts)
end
/-- what the stores ask of the context -/
structure Sto (N : List Str) (sc s0 : Scope) (X : Cx) : Prop where
  hN : X.N = N
  nd : N.Nodup
  hsc : X.env.scope = sc
  own : ∀ x, s0.names.lookup x = some .cell → X.fn x = true
  calm : X.calm = true
theorem sto_of {P : Prm} {k : Nat} {N : List Str} {sc s0 : Scope} {X : Cx} (gd : Good P k N sc s0 X) : Sto N sc s0 X := ⟨gd.hN, gd.nd, gd.hsc, gd.own, gd.calm⟩
theorem loc_of {N : List Str} {sc s0 : Scope} {X : Cx} (gd : Sto N sc s0 X) {x : Str} (h : stoC sc s0 x = true) : Loc X.env.scope x ∧ (X.fn x = true ∨ X.env.scope.names.lookup x = some .local) := by
  rw [gd.hsc]
  unfold stoC at h
  rw [Bool.or_eq_true] at h
  rcases h with h | h
  · unfold isLoc at h
    split at h
    · rename_i e
      exact ⟨.inl e, .inr e⟩
    · cases h
  · obtain ⟨h1, h2⟩ := and2 h
    unfold isCell at h1 h2
    split at h1
    · rename_i e1
      split at h2
      · rename_i e2
        exact ⟨.inr e1, .inl (gd.own x e2)⟩
      · cases h2
    · cases h1
theorem assignEach_of {N : List Str} {sc s0 : Scope} {t : Tg} {e : Expr} {es : List Expr} {env : PySem.Env} (h : chkG N sc s0 t e = true) : assignEach (e :: es) env = (false, assign e env) :: assignEach es env := by
  cases t with
  | nm i =>
    cases e <;> first | rfl | (simp [chkG] at h)
  | tp ts =>
    cases e <;> first | rfl | (simp [chkG] at h)
theorem assignEach_all {N : List Str} {sc s0 : Scope} {env : PySem.Env} : ∀ {ts : List Tg} {es : List Expr}, chkGs N sc s0 ts es = true → (assignEach es env).length = ts.length ∧ (assignEach es env).findIdx? (·.1) = none
  | [], [], _ => ⟨rfl, rfl⟩
  | [], _ :: _, h => by simp [chkGs] at h
  | _ :: _, [], h => by simp [chkGs] at h
  | t :: ts, e :: es, h => by
    have h2 : chkG N sc s0 t e = true ∧ chkGs N sc s0 ts es = true := by
      cases e <;> simpa [chkGs] using h
    obtain ⟨i1, i2⟩ := assignEach_all (env := env) h2.2
    rw [assignEach_of h2.1]
    refine ⟨by rw [List.length_cons, List.length_cons, i1], ?_⟩
    rw [List.findIdx?_cons, i2]
    rfl
mutual
theorem pg_of {N : List Str} {sc s0 : Scope} {X : Cx} (gd : Sto N sc s0 X) : ∀ {t : Tg} {e : Expr}, chkG N sc s0 t e = true → PG X e (gT X.K t)
  | .nm i, e, h => by
    cases e with
    | Name x p =>
      have h' : (decide (N[i]? = some x) && stoC sc s0 x) = true := by simpa [chkG] using h
      obtain ⟨h1, h2⟩ := and2 h'
      obtain ⟨l1, l2⟩ := loc_of gd h2
      unfold gT
      exact pg_name (by rw [gd.hN]; exact gd.nd) (by rw [gd.hN]; exact of_decide_eq_true h1) l1 l2
    | _ => simp [chkG] at h
  | .tp ts, e, h => by
    cases e with
    | Tuple es kk p =>
      have h' : chkGs N sc s0 ts es = true := by simpa [chkG] using h
      obtain ⟨a1, a2⟩ := assignEach_all (env := X.env) h'
      unfold gT
      exact pg_tup gd.calm (pgs_of gd h') a1 a2
    | _ => simp [chkG] at h
theorem pgs_of {N : List Str} {sc s0 : Scope} {X : Cx} (gd : Sto N sc s0 X) : ∀ {ts : List Tg} {es : List Expr}, chkGs N sc s0 ts es = true → PGs X es (gTs X.K ts)
  | [], [], _ => by
    unfold gTs
    exact pgs_nil
  | [], _ :: _, h => by simp [chkGs] at h
  | _ :: _, [], h => by simp [chkGs] at h
  | t :: ts, e :: es, h => by
    have h2 : chkG N sc s0 t e = true ∧ chkGs N sc s0 ts es = true := by
      cases e <;> simpa [chkGs] using h
    unfold gTs
    exact pgs_cons (pg_of gd h2.1) (pgs_of gd h2.2) (by rw [assignEach_of h2.1]; rfl)
end
section
variable {K : PySem.W.Frag} {F G H : Hp} {μ : Nat → Addr} {S : Store}
theorem wipe_get {σ : L2.St} : ∀ {vs : List Nat} {i : Nat}, i ∈ vs → i < σ.length → (L2.wipe σ vs)[i]? = some none
  | v :: vs, i, h, hl => by
    unfold L2.wipe
    by_cases e : v = i
    · subst e
      exact List.getElem?_set_self (by rw [wipe_length]; exact hl)
    · rw [List.getElem?_set_ne e]
      cases h with
      | head => exact absurd rfl e
      | tail _ h => exact wipe_get h hl
theorem wipe_ne {σ : L2.St} : ∀ {vs : List Nat} {i : Nat}, i ∉ vs → (L2.wipe σ vs)[i]? = σ[i]?
  | [], i, _ => rfl
  | v :: vs, i, h => by
    unfold L2.wipe
    rw [List.getElem?_set_ne (fun e => h (by rw [e]; exact List.mem_cons_self))]
    exact wipe_ne fun z => h (List.mem_cons_of_mem _ z)
theorem wipe_set {σ : L2.St} {vs : List Nat} {i : Nat} {x : Option V} (h : i ∈ vs) : L2.wipe (σ.set i x) vs = L2.wipe σ vs := by
  refine List.ext_getElem? fun j => ?_
  by_cases hj : j ∈ vs
  · by_cases hl : j < σ.length
    · rw [wipe_get hj hl, wipe_get hj (by rw [List.length_set]; exact hl)]
    · rw [List.getElem?_eq_none (by rw [wipe_length, List.length_set]; omega), List.getElem?_eq_none (by rw [wipe_length]; omega)]
  · rw [wipe_ne hj, wipe_ne hj, List.getElem?_set_ne fun e => hj (by rw [← e]; exact h)]
theorem wipe_wipe {σ : L2.St} {vs : List Nat} : L2.wipe (L2.wipe σ vs) vs = L2.wipe σ vs := by
  refine List.ext_getElem? fun j => ?_
  by_cases hj : j ∈ vs
  · by_cases hl : j < σ.length
    · rw [wipe_get hj hl, wipe_get hj (by rw [wipe_length]; exact hl)]
    · rw [List.getElem?_eq_none (by rw [wipe_length, wipe_length]; omega), List.getElem?_eq_none (by rw [wipe_length]; omega)]
  · rw [wipe_ne hj]
theorem binds_len : ∀ {ts : List Tg} {xs : List D} {ρ ρ1 : Env}, bindTs ts xs ρ = some ρ1 → xs.length = ts.length
  | [], [], _, _, _ => rfl
  | [], _ :: _, _, _, h => by simp [bindTs] at h
  | _ :: _, [], _, _, h => by simp [bindTs] at h
  | t :: ts, x :: xs, ρ, ρ1, h => by
    have h' : ((bindT t x ρ).bind fun ρ1 => bindTs ts xs ρ1) = some ρ1 := by simpa [bindTs] using h
    obtain ⟨ρ2, b1, b2⟩ := bind_some_out h'
    rw [List.length_cons, List.length_cons, binds_len b2]
mutual
theorem bind_ok (R : Rel K F G μ S H) : ∀ {t : Tg} {x : D} {v : V} {ρ ρ1 : Env} {σ : L2.St} {Q : L2.St → Hp → Prop}, bindT t x ρ = some ρ1 → RepP K F x v → RelEnv K F μ S ρ σ →
    (∀ σ1, RelEnv K F μ S ρ1 σ1 → (∀ (n : Nat) (own : List Nat), tgIn n t own = true → L2.wipe σ1 own = L2.wipe σ own) → Q σ1 H) → gT K t v σ H Q
  | .nm i, x, v, ρ, ρ1, σ, Q, h, r, RE, q => by
    have h' : (if i < ρ.length then some (ρ.set i (some (.d x))) else none) = some ρ1 := by
      unfold bindT at h
      exact h
    split at h'
    · cases h'
      unfold gT
      refine q _ (RE.set (x := .d x) r i) fun n own ho => wipe_set ?_
      have ho' : own.contains i = true := by
        cases n <;> (unfold tgIn at ho; exact ho)
      exact List.contains_iff_mem.mp ho'
    · cases h'
  | .tp ts, x, v, ρ, ρ1, σ, Q, h, r, RE, q => by
    cases r with
    | @tup a xs vs h1 h2 =>
      have h' : bindTs ts xs ρ = some ρ1 := by
        unfold bindT at h
        exact h
      unfold gT
      refine ⟨a, vs, rfl, R.fr.sqT h1, by rw [← h2.length, binds_len h'], binds_ok R h' h2 RE fun σ1 r1 w => q σ1 r1 fun n own ho => ?_⟩
      cases n with
      | zero =>
        unfold tgIn at ho
        cases ho
      | succ n =>
        refine w n own fun t ht => ?_
        unfold tgIn at ho
        rw [List.all_eq_true] at ho
        exact ho t ht
    | _ =>
      unfold bindT at h
      cases h
theorem binds_ok (R : Rel K F G μ S H) : ∀ {ts : List Tg} {xs : List D} {vs : List V} {ρ ρ1 : Env} {σ : L2.St} {Q : L2.St → Hp → Prop}, bindTs ts xs ρ = some ρ1 → RepL K F xs vs → RelEnv K F μ S ρ σ →
    (∀ σ1, RelEnv K F μ S ρ1 σ1 → (∀ (n : Nat) (own : List Nat), (∀ t ∈ ts, tgIn n t own = true) → L2.wipe σ1 own = L2.wipe σ own) → Q σ1 H) → gTs K ts vs σ H Q
  | [], xs, vs, ρ, ρ1, σ, Q, h, r, RE, q => by
    cases r with
    | nil =>
      have e : some ρ = some ρ1 := by
        unfold bindTs at h
        exact h
      cases e
      unfold gTs
      exact ⟨rfl, q σ RE fun n own _ => rfl⟩
    | cons _ _ =>
      unfold bindTs at h
      cases h
  | t :: ts, xs, vs, ρ, ρ1, σ, Q, h, r, RE, q => by
    cases r with
    | nil =>
      unfold bindTs at h
      cases h
    | @cons x xs v vs h1 h2 =>
      have h' : ((bindT t x ρ).bind fun ρ1 => bindTs ts xs ρ1) = some ρ1 := by
        unfold bindTs at h
        exact h
      obtain ⟨ρ2, b1, b2⟩ := bind_some_out h'
      unfold gTs
      exact ⟨v, vs, rfl, bind_ok R b1 h1 RE fun σ1 r1 w1 => binds_ok R b2 h2 r1 fun σ2 r2 w2 => q σ2 r2 fun n own ho => (w2 n own fun t ht => ho t (List.mem_cons_of_mem _ ht)).trans (w1 n own (ho t List.mem_cons_self))⟩
end
end
/-! ### walks -/
/-- the walk over J hands out ds, whatever comes to stand beside -/
def Wk (K : PySem.W.Frag) (J : It) (ds : List D) (F : Hp) : Prop := ∀ (F' G : Hp) (μ : Nat → Addr) (S : Store) (H : Hp) (i : Nat), Sub F F' → Rel K F' G μ S H →
  (∀ d, ds[i]? = some d → J.go i H ∧ ∀ v H', J.yld i H v H' → ∃ F2, Ext F' μ S F2 μ S ∧ Rel K F2 G μ S H' ∧ RepP K F2 d v) ∧ (ds.length = i → J.stop i H)
section
variable {K : PySem.W.Frag} {F : Hp}
theorem wk_list {a : Addr} {xs : List D} {vs : List V} (h : F a = some (.lst vs)) (r : RepL K F xs vs) : Wk K (Itl K a) xs F := by
  intro F' G μ S H i sb R
  have hq : SqL K H a vs := .of (R.fr _ _ (sb _ _ h))
  refine ⟨fun d hd => ?_, fun hl => ⟨vs, hq, by rw [← r.length]; exact Nat.le_of_eq hl⟩⟩
  obtain ⟨u, h1, h2⟩ := r.get hd
  refine ⟨⟨vs, u, hq, h1⟩, fun v H' ⟨e, y⟩ => ?_⟩
  subst e
  have e2 := y vs hq
  rw [h1] at e2
  cases e2
  exact ⟨F', Ext.refl _ _ _, R, h2.mono sb⟩
theorem wk_tup {a : Addr} {xs : List D} {vs : List V} (h : SqT K F a vs) (r : RepL K F xs vs) : Wk K (Itt K a) xs F := by
  intro F' G μ S H i sb R
  have hq : SqT K H a vs := R.fr.sqT (sb.sqT h)
  refine ⟨fun d hd => ?_, fun hl => ⟨vs, hq, by rw [← r.length]; exact Nat.le_of_eq hl⟩⟩
  obtain ⟨u, h1, h2⟩ := r.get hd
  refine ⟨⟨vs, u, hq, h1⟩, fun v H' ⟨e, y⟩ => ?_⟩
  subst e
  have e2 := y vs hq
  rw [h1] at e2
  cases e2
  exact ⟨F', Ext.refl _ _ _, R, h2.mono sb⟩
theorem wk_range {lo : Int} {n : Nat} : Wk K (Itr lo n) ((List.range n).map fun (i : Nat) => D.int (lo + (i : Int))) F := by
  intro F' G μ S H i sb R
  refine ⟨fun d hd => ?_, fun hl => (show n ≤ i from Nat.le_of_eq (by simpa using hl))⟩
  rw [List.getElem?_map, Option.map_eq_some_iff] at hd
  obtain ⟨j, h1, h2⟩ := hd
  have hi : i < n ∧ j = i := by
    have hl := (List.getElem?_eq_some_iff.mp h1).1
    rw [List.length_range] at hl
    rw [List.getElem?_range hl] at h1
    exact ⟨hl, (Option.some.inj h1).symm⟩
  refine ⟨hi.1, fun v H' ⟨e, y⟩ => ?_⟩
  subst e
  rw [y, ← h2, hi.2]
  exact ⟨F', Ext.refl _ _ _, R, .int _⟩
theorem enumD_get : ∀ {xs : List D} {k i : Nat} {d : D}, (enumD k xs)[i]? = some d → ∃ x, xs[i]? = some x ∧ d = .tup [.int ((k + i : Nat) : Int), x]
  | [], _, _, _, h => by simp [enumD] at h
  | x :: xs, k, 0, d, h => by
    have e : d = .tup [.int (k : Int), x] := by
      unfold enumD at h
      exact (Option.some.inj h).symm
    exact ⟨x, rfl, e⟩
  | x :: xs, k, i + 1, d, h => by
    have h' : (enumD (k + 1) xs)[i]? = some d := by
      unfold enumD at h
      exact h
    obtain ⟨y, h1, h2⟩ := enumD_get h'
    refine ⟨y, h1, ?_⟩
    rw [h2, show k + 1 + i = k + (i + 1) by omega]
theorem enumD_length : ∀ {xs : List D} {k : Nat}, (enumD k xs).length = xs.length
  | [], _ => rfl
  | x :: xs, k => congrArg (· + 1) enumD_length
theorem pair_rep {F' G : Hp} {μ : Nat → Addr} {S : Store} {H : Hp} {T : Addr} {x y : D} {v w : V} (R : Rel K F' G μ S H) (hT : H T = none) (h1 : RepP K F' x v) (h2 : RepP K F' y w) : ∃ F2, Ext F' μ S F2 μ S ∧ Rel K F2 G μ S (upd H T (.tup [v, w])) ∧ RepP K F2 (.tup [x, y]) (.ref T) := by
  have e := Ext.shut (o := .tup [v, w]) (R.free hT) S μ
  exact ⟨_, e, R.shut hT, .tup (.inl (.inl upd_same)) (.cons (h1.mono e.f) (.cons (h2.mono e.f) .nil))⟩
theorem wk_enum {a : Addr} {xs : List D} {vs : List V} (h : F a = some (.lst vs)) (r : RepL K F xs vs) : Wk K (Ite K a) (enumD 0 xs) F := by
  intro F' G μ S H i sb R
  have hq : SqL K H a vs := .of (R.fr _ _ (sb _ _ h))
  refine ⟨fun d hd => ?_, fun hl => ⟨vs, hq, by rw [← r.length]; rw [enumD_length] at hl; exact Nat.le_of_eq hl⟩⟩
  obtain ⟨x, h0, rfl⟩ := enumD_get hd
  obtain ⟨u, h1, h2⟩ := r.get h0
  refine ⟨⟨vs, u, hq, h1⟩, fun v H' ⟨T, z, e1, hT, e2, y⟩ => ?_⟩
  subst e1 e2
  have e3 := y vs hq
  rw [h1] at e3
  cases e3
  rw [Nat.zero_add]
  exact pair_rep R hT (.int _) (h2.mono sb)
theorem zipD_get : ∀ {xs ys : List D} {i : Nat} {d : D}, (zipD xs ys)[i]? = some d → ∃ x y, xs[i]? = some x ∧ ys[i]? = some y ∧ d = .tup [x, y]
  | [], _, _, _, h => by simp [zipD] at h
  | _ :: _, [], _, _, h => by simp [zipD] at h
  | x :: xs, y :: ys, 0, d, h => by
    have e : d = .tup [x, y] := by
      unfold zipD at h
      exact (Option.some.inj h).symm
    exact ⟨x, y, rfl, rfl, e⟩
  | x :: xs, y :: ys, i + 1, d, h => by
    have h' : (zipD xs ys)[i]? = some d := by
      unfold zipD at h
      exact h
    exact zipD_get (xs := xs) (ys := ys) (i := i) h'
theorem zipD_end : ∀ {xs ys : List D} {i : Nat}, (zipD xs ys).length ≤ i → xs.length ≤ i ∨ ys.length ≤ i
  | [], _, i, _ => .inl (Nat.zero_le _)
  | _ :: _, [], i, _ => .inr (Nat.zero_le _)
  | x :: xs, y :: ys, 0, h => by
    unfold zipD at h
    exact absurd h (Nat.not_succ_le_zero _)
  | x :: xs, y :: ys, i + 1, h => by
    have h' : (zipD xs ys).length ≤ i := by
      unfold zipD at h
      exact Nat.le_of_succ_le_succ h
    rcases zipD_end h' with z | z
    · exact .inl (Nat.succ_le_succ z)
    · exact .inr (Nat.succ_le_succ z)
theorem wk_zip {a b : Addr} {xs ys : List D} {vs ws : List V} (h : F a = some (.lst vs)) (r : RepL K F xs vs) (h' : F b = some (.lst ws)) (r' : RepL K F ys ws) : Wk K (Itz K a b) (zipD xs ys) F := by
  intro F' G μ S H i sb R
  have hq : SqL K H a vs := .of (R.fr _ _ (sb _ _ h))
  have hq' : SqL K H b ws := .of (R.fr _ _ (sb _ _ h'))
  refine ⟨fun d hd => ?_, fun hl => ⟨vs, ws, hq, hq', by rw [← r.length, ← r'.length]; exact zipD_end (Nat.le_of_eq hl)⟩⟩
  obtain ⟨x, y, h0, h0', rfl⟩ := zipD_get hd
  obtain ⟨u, h1, h2⟩ := r.get h0
  obtain ⟨u', h1', h2'⟩ := r'.get h0'
  refine ⟨⟨vs, ws, u, u', hq, hq', h1, h1'⟩, fun v H' ⟨T, z, z', e1, hT, e2, y, y'⟩ => ?_⟩
  subst e1 e2
  have e3 := y vs hq
  rw [h1] at e3
  cases e3
  have e4 := y' ws hq'
  rw [h1'] at e4
  cases e4
  exact pair_rep R hT (h2.mono sb) (h2'.mono sb)
end
section
variable {K : PySem.W.Frag} {F : Hp}
theorem wk_enumT {a : Addr} {xs : List D} {vs : List V} (h : SqT K F a vs) (r : RepL K F xs vs) : Wk K (IteT K a) (enumD 0 xs) F := by
  intro F' G μ S H i sb R
  have hq : SqT K H a vs := R.fr.sqT (sb.sqT h)
  refine ⟨fun d hd => ?_, fun hl => ⟨vs, hq, by rw [← r.length]; rw [enumD_length] at hl; exact hl⟩⟩
  obtain ⟨x, h0, rfl⟩ := enumD_get hd
  obtain ⟨u, h1, h2⟩ := r.get h0
  refine ⟨⟨vs, u, hq, h1⟩, fun v H' ⟨T, z, e1, hT, e2, y⟩ => ?_⟩
  subst e1 e2
  have e3 := y vs hq
  rw [h1] at e3
  cases e3
  rw [Nat.zero_add]
  exact pair_rep R hT (.int _) (h2.mono sb)
theorem wk_zipT {a b : Addr} {xs ys : List D} {vs ws : List V} (h : SqT K F a vs) (r : RepL K F xs vs) (h' : SqT K F b ws) (r' : RepL K F ys ws) : Wk K (RZ.ItzT K a b) (zipD xs ys) F := by
  intro F' G μ S H i sb R
  have hq : SqT K H a vs := R.fr.sqT (sb.sqT h)
  have hq' : SqT K H b ws := R.fr.sqT (sb.sqT h')
  refine ⟨fun d hd => ?_, fun hl => ⟨vs, ws, hq, hq', by rw [← r.length, ← r'.length]; exact zipD_end (Nat.le_of_eq hl)⟩⟩
  obtain ⟨x, y, h0, h0', rfl⟩ := zipD_get hd
  obtain ⟨u, h1, h2⟩ := r.get h0
  obtain ⟨u', h1', h2'⟩ := r'.get h0'
  refine ⟨⟨vs, ws, u, u', hq, hq', h1, h1'⟩, fun v H' ⟨T, z, z', e1, hT, e2, y, y'⟩ => ?_⟩
  subst e1 e2
  have e3 := y vs hq
  rw [h1] at e3
  cases e3
  have e4 := y' ws hq'
  rw [h1'] at e4
  cases e4
  exact pair_rep R hT (h2.mono sb) (h2'.mono sb)
end
section
variable {X : Cx} {g : Ev} {ck : Ck1} {ρ : Env} {S S' : Store} {x : E} {F G : Hp} {μ : Nat → Addr} {σ : L2.St} {H : Hp} {P : Prm} {k : Nat} {N : List Str} {sc s0 : Scope} {e : Expr}
abbrev LiftJ (K : PySem.W.Frag) (F G : Hp) (μ : Nat → Addr) (S : Store) (ds : List D) (S' : Store) : It → Hp → Prop := fun J H' => ∃ F' μ', Ext F μ S F' μ' S' ∧ Rel K F' G μ' S' H' ∧ Wk K J ds F'
theorem one_ev {a : Tm} {p : List E × Store} (h : evs g [a] ρ S = some p) : ∃ q, g a ρ S = some q ∧ p = ([q.1], q.2) := by
  obtain ⟨q, h1, h2⟩ := bind_some_out h
  cases h2
  exact ⟨q, h1, rfl⟩
theorem two_ev {a b : Tm} {p : List E × Store} (h : evs g [a, b] ρ S = some p) : ∃ q r, g a ρ S = some q ∧ g b ρ q.2 = some r ∧ p = ([q.1, r.1], r.2) := by
  obtain ⟨q, h1, h2⟩ := bind_some_out h
  obtain ⟨p2, h3, h4⟩ := bind_some_out h2
  obtain ⟨r, h5, h6⟩ := one_ev h3
  subst h6
  cases h4
  exact ⟨q, r, h1, h5, rfl⟩
theorem small62_of {i : Int} (h : small62 i = true) : -(2 ^ 62) ≤ i ∧ i < 2 ^ 62 := by
  obtain ⟨h1, h2⟩ := and2 h
  exact ⟨of_decide_eq_true h1, of_decide_eq_true h2⟩
theorem s_iter (gd : Good P k N sc s0 X) (h : SndX X g ck) (hk : ∀ t e, ck t e = true → okHead e = true) {ik : IK} {its : List Tm} {tgE : Expr} (c : chkI P ck sc tgE ik its e = true) {p : List E × Store} (ga : evs g its ρ S = some p) {ds : List D} (hw : walked p.2 ik p.1 = some ds)
    (R : Rel X.K F G μ S H) (RE : RelEnv X.K F μ S ρ σ) : semI X tgE e σ H (LiftJ X.K F G μ S ds p.2) := by
  unfold chkI at c
  split at c
  · obtain ⟨c1, c2⟩ := and2 c
    obtain ⟨q, g1, rfl⟩ := one_ev ga
    refine to_semI (pi_list pe_sem) ?_
    refine sem_mono (h _ _ c2 ρ S q.1 q.2 g1 F G μ σ H R RE) fun v H1 ⟨F1, μ1, e1, R1, r1⟩ => ?_
    unfold walked at hw
    split at hw
    · rename_i xs _ hq1
      cases hw
      have hq1' : q.1 = .d (.lst ds) := by simpa using hq1
      rw [hq1'] at r1
      cases (show RepP X.K F1 (.lst ds) v from r1) with
      | @lst a _ vs h1 h2 => exact ⟨a, rfl, ⟨vs, .of (R1.fr _ _ h1)⟩, F1, μ1, e1, R1, wk_list h1 h2⟩
    all_goals first | contradiction | cases hw
  · obtain ⟨c1, c2⟩ := and2 c
    obtain ⟨q, g1, rfl⟩ := one_ev ga
    refine to_semI (pi_tup pe_sem) ?_
    refine sem_mono (h _ _ c2 ρ S q.1 q.2 g1 F G μ σ H R RE) fun v H1 ⟨F1, μ1, e1, R1, r1⟩ => ?_
    unfold walked at hw
    split at hw
    all_goals first | contradiction | skip
    · rename_i xs _ hq1
      cases hw
      have hq1' : q.1 = .d (.tup ds) := by simpa using hq1
      rw [hq1'] at r1
      cases (show RepP X.K F1 (.tup ds) v from r1) with
      | @tup a _ vs h1 h2 => exact ⟨a, rfl, ⟨vs, R1.fr.sqT h1⟩, F1, μ1, e1, R1, wk_tup h1 h2⟩
    all_goals cases hw
  · obtain ⟨c1, c2⟩ := and2 c
    obtain ⟨hn, hm0, hg, hd, hnn⟩ := bi_of c1 gd.hsc gd.bi
    subst hn
    obtain ⟨q, g1, rfl⟩ := one_ev ga
    have h0 := hk _ _ c2
    refine to_semI (pi_range1 hg hm0 (pa_cons pe_sem pa_nil (star_of h0)) (star_of h0)) ?_
    refine sem_mono (h _ _ c2 ρ S q.1 q.2 g1 F G μ σ H R RE) fun v H1 ⟨F1, μ1, e1, R1, r1⟩ => ?_
    unfold walked at hw
    split at hw
    all_goals first | contradiction | skip
    · rename_i n _ hq1
      obtain ⟨hs, rfl⟩ := ite_some hw
      have hq1' : q.1 = .d (.int n) := by simpa using hq1
      rw [hq1'] at r1
      cases (show RepP X.K F1 (.int n) v from r1)
      obtain ⟨s1, s2⟩ := small62_of hs
      exact ⟨n, rfl, s1, s2, F1, μ1, e1, R1, wk_range⟩
    all_goals cases hw
  · obtain ⟨c, c3⟩ := and2 c
    obtain ⟨c1, c2⟩ := and2 c
    obtain ⟨hn, hm0, hg, hd, hnn⟩ := bi_of c1 gd.hsc gd.bi
    subst hn
    obtain ⟨q, r, g1, g2, rfl⟩ := two_ev ga
    have h0 := hk _ _ c2
    have h0' := hk _ _ c3
    refine to_semI (pi_range2 hg hm0 (pa_cons pe_sem (pa_cons pe_sem pa_nil (star_of h0')) (star_of h0)) (by rw [star_of h0, star_of h0']; rfl) (star_of h0')) ?_
    refine sem_mono (h _ _ c2 ρ S q.1 q.2 g1 F G μ σ H R RE) fun v H1 ⟨F1, μ1, e1, R1, r1⟩ => ?_
    refine sem_mono (h _ _ c3 ρ q.2 r.1 r.2 g2 F1 G μ1 σ H1 R1 (RE.mono e1)) fun w H2 ⟨F2, μ2, e2, R2, r2⟩ => ?_
    unfold walked at hw
    split at hw
    all_goals first | contradiction | skip
    · rename_i n m _ hq1
      obtain ⟨hs, rfl⟩ := ite_some hw
      have hq1' : q.1 = .d (.int n) ∧ r.1 = .d (.int m) := by simpa using hq1
      rw [hq1'.1] at r1
      rw [hq1'.2] at r2
      cases (show RepP X.K F1 (.int n) v from r1)
      cases (show RepP X.K F2 (.int m) w from r2)
      obtain ⟨s0, s1⟩ := and2 hs
      obtain ⟨s1, s2⟩ := small62_of s1
      obtain ⟨s3, s4⟩ := small62_of s0
      exact ⟨n, m, rfl, ⟨s3, s4, s1, s2⟩, F2, μ2, e1.trans e2, R2, wk_range⟩
    all_goals cases hw
  · obtain ⟨c, c3⟩ := and2 c
    obtain ⟨c1, c2⟩ := and2 c
    obtain ⟨hn, hm0, hg, hd, hnn⟩ := bi_of c1 gd.hsc gd.bi
    subst hn
    obtain ⟨q, g1, rfl⟩ := one_ev ga
    have h0 := hk _ _ c2
    cases tgE with
    | Tuple es kk tp =>
      refine to_semI (pi_enum hg hm0 (pa_cons pe_sem pa_nil (star_of h0)) (star_of h0)) ?_
      refine sem_mono (h _ _ c2 ρ S q.1 q.2 g1 F G μ σ H R RE) fun v H1 ⟨F1, μ1, e1, R1, r1⟩ => ?_
      unfold walked at hw
      split at hw
      all_goals first | contradiction | skip
      · rename_i xs _ hq1
        cases hw
        have hq1' : q.1 = .d (.lst xs) := by simpa using hq1
        rw [hq1'] at r1
        cases (show RepP X.K F1 (.lst xs) v from r1) with
        | @lst a _ vs h1 h2 => exact ⟨a, vs, rfl, .of (R1.fr _ _ h1), F1, μ1, e1, R1, wk_enum h1 h2⟩
      all_goals cases hw
    | _ => cases c3
  · obtain ⟨c, c4⟩ := and2 c
    obtain ⟨c, c3⟩ := and2 c
    obtain ⟨c1, c2⟩ := and2 c
    obtain ⟨hn, hm0, hg, hd, hnn⟩ := bi_of c1 gd.hsc gd.bi
    subst hn
    obtain ⟨q, r, g1, g2, rfl⟩ := two_ev ga
    have h0 := hk _ _ c2
    have h0' := hk _ _ c3
    cases tgE with
    | Tuple es kk tp =>
      refine to_semI (pi_zip hg hm0 (pa_cons pe_sem (pa_cons pe_sem pa_nil (star_of h0')) (star_of h0)) (star_of h0) (by rw [star_of h0']; rfl)) ?_
      refine sem_mono (h _ _ c2 ρ S q.1 q.2 g1 F G μ σ H R RE) fun v H1 ⟨F1, μ1, e1, R1, r1⟩ => ?_
      refine sem_mono (h _ _ c3 ρ q.2 r.1 r.2 g2 F1 G μ1 σ H1 R1 (RE.mono e1)) fun w H2 ⟨F2, μ2, e2, R2, r2⟩ => ?_
      unfold walked at hw
      split at hw
      all_goals first | contradiction | skip
      · rename_i xs ys _ hq1
        cases hw
        have hq1' : q.1 = .d (.lst xs) ∧ r.1 = .d (.lst ys) := by simpa using hq1
        rw [hq1'.1] at r1
        rw [hq1'.2] at r2
        cases (show RepP X.K F1 (.lst xs) v from r1) with
        | @lst a _ vs h1 h2 =>
          cases (show RepP X.K F2 (.lst ys) w from r2) with
          | @lst b _ ws h3 h4 => exact ⟨a, b, vs, ws, rfl, .of (R2.fr _ _ (e2.f _ _ h1)), .of (R2.fr _ _ h3), F2, μ2, e1.trans e2, R2, wk_zip (e2.f _ _ h1) (h2.mono e2.f) h3 h4⟩
      all_goals cases hw
    | _ => cases c4
  · obtain ⟨c, c3⟩ := and2 c
    obtain ⟨c1, c2⟩ := and2 c
    obtain ⟨hn, hm0, hg, hd, hnn⟩ := bi_of c1 gd.hsc gd.bi
    subst hn
    obtain ⟨q, g1, rfl⟩ := one_ev ga
    have h0 := hk _ _ c2
    cases tgE with
    | Tuple es kk tp =>
      refine to_semI (pi_enumT hg hm0 (pa_cons pe_sem pa_nil (star_of h0)) (star_of h0)) ?_
      refine sem_mono (h _ _ c2 ρ S q.1 q.2 g1 F G μ σ H R RE) fun v H1 ⟨F1, μ1, e1, R1, r1⟩ => ?_
      unfold walked at hw
      split at hw
      all_goals first | contradiction | skip
      · rename_i xs _ hq1
        cases hw
        have hq1' : q.1 = .d (.tup xs) := by simpa using hq1
        rw [hq1'] at r1
        cases (show RepP X.K F1 (.tup xs) v from r1) with
        | @tup a _ vs h1 h2 => exact ⟨a, vs, rfl, R1.fr.sqT h1, F1, μ1, e1, R1, wk_enumT h1 h2⟩
      all_goals cases hw
    | _ => cases c3
  · obtain ⟨c, c4⟩ := and2 c
    obtain ⟨c, c3⟩ := and2 c
    obtain ⟨c1, c2⟩ := and2 c
    obtain ⟨hn, hm0, hg, hd, hnn⟩ := bi_of c1 gd.hsc gd.bi
    subst hn
    obtain ⟨q, r, g1, g2, rfl⟩ := two_ev ga
    have h0 := hk _ _ c2
    have h0' := hk _ _ c3
    cases tgE with
    | Tuple es kk tp =>
      refine to_semI (RZ.pi_zipA hg hm0 (pa_cons pe_sem (pa_cons pe_sem pa_nil (star_of h0')) (star_of h0)) (star_of h0) (by rw [star_of h0']; rfl)) ?_
      refine sem_mono (h _ _ c2 ρ S q.1 q.2 g1 F G μ σ H R RE) fun v H1 ⟨F1, μ1, e1, R1, r1⟩ => ?_
      refine sem_mono (h _ _ c3 ρ q.2 r.1 r.2 g2 F1 G μ1 σ H1 R1 (RE.mono e1)) fun w H2 ⟨F2, μ2, e2, R2, r2⟩ => ?_
      unfold walked at hw
      split at hw
      all_goals first | contradiction | skip
      · rename_i xs ys _ hq1
        cases hw
        have hq1' : q.1 = .d (.tup xs) ∧ r.1 = .d (.tup ys) := by simpa using hq1
        rw [hq1'.1] at r1
        rw [hq1'.2] at r2
        cases (show RepP X.K F1 (.tup xs) v from r1) with
        | @tup a _ vs h1 h2 =>
          cases (show RepP X.K F2 (.tup ys) w from r2) with
          | @tup b _ ws h3 h4 => exact ⟨a, b, vs, ws, rfl, .inr ⟨R2.fr.sqT (e2.f.sqT h1), R2.fr.sqT h3, F2, μ2, e1.trans e2, R2, wk_zipT (e2.f.sqT h1) (h2.mono e2.f) h3 h4⟩⟩
      all_goals cases hw
    | _ => cases c4
  · cases c
end
end DL
end

section
set_option autoImplicit false
set_option linter.all false
/-! Comprehensions. -/
namespace DL
open PySem PySem.Spec PyProof.Rows L2

section
variable {K : PySem.W.Frag} {F G H : Hp} {μ : Nat → Addr} {S : Store} {D : Addr}
/-- a new object of ours that the others leave -/
theorem Rel.lay {o : HO} (r : Rel K F G μ S H) (hp : H D = none) : Rel K F (upd G D o) μ S (upd H D o) := by
  have hm : ∀ n xs, S[n]? = some (some xs) → μ n ≠ D := fun n xs e => by
    obtain ⟨vs, h1, _⟩ := r.st n xs e
    exact ne_of_none h1 hp
  refine ⟨fun a u e => ?_, fun a u e => ?_, fun a u e => ?_, fun n xs e => ?_, r.nf, fun n xs e => ?_, r.inj⟩
  · rw [upd_ne (ne_of_none (r.fr _ _ e) hp)]
    exact r.fr _ _ e
  · by_cases h : a = D
    · subst h
      rw [upd_same] at e ⊢
      exact e
    · rw [upd_ne h] at e ⊢
      exact r.gr _ _ e
  · by_cases h : a = D
    · subst h
      exact r.free hp
    · rw [upd_ne h] at e
      exact r.gf _ _ e
  · obtain ⟨vs, h1, h2⟩ := r.st n xs e
    exact ⟨vs, by rw [upd_ne (hm n xs e)]; exact h1, h2⟩
  · rw [upd_ne (hm n xs e)]
    exact r.ng n xs e
/-- it is written -/
theorem Rel.grow {o o' : HO} (r : Rel K F (upd G D o) μ S H) : Rel K F (upd G D o') μ S (upd H D o') := by
  have fD : F D = none := r.gf D o upd_same
  have hm : ∀ n xs, S[n]? = some (some xs) → μ n ≠ D := fun n xs e z => by
    have := r.ng n xs e
    rw [z, upd_same] at this
    cases this
  refine ⟨fun a u e => ?_, fun a u e => ?_, fun a u e => ?_, fun n xs e => ?_, r.nf, fun n xs e => ?_, r.inj⟩
  · rw [upd_ne (ne_of_none e fD)]
    exact r.fr _ _ e
  · by_cases h : a = D
    · subst h
      rw [upd_same] at e ⊢
      exact e
    · rw [upd_ne h] at e ⊢
      exact r.gr _ _ (by rw [upd_ne h]; exact e)
  · by_cases h : a = D
    · subst h
      exact fD
    · rw [upd_ne h] at e
      exact r.gf a u (by rw [upd_ne h]; exact e)
  · obtain ⟨vs, h1, h2⟩ := r.st n xs e
    exact ⟨vs, by rw [upd_ne (hm n xs e)]; exact h1, h2⟩
  · have := r.ng n xs e
    rw [upd_ne (hm n xs e)] at this ⊢
    exact this
/-- it is handed out: what stands without it -/
theorem Rel.bare {o : HO} (r : Rel K F (upd G D o) μ S H) (hG : G D = none) : Rel K F G μ S (fun a => if a = D then none else H a) ∧ H = upd (fun a => if a = D then none else H a) D o := by
  have fD : F D = none := r.gf D o upd_same
  have hm : ∀ n xs, S[n]? = some (some xs) → μ n ≠ D := fun n xs e z => by
    have := r.ng n xs e
    rw [z, upd_same] at this
    cases this
  refine ⟨⟨fun a u e => ?_, fun a u e => ?_, fun a u e => ?_, fun n xs e => ?_, r.nf, fun n xs e => ?_, r.inj⟩, ?_⟩
  · show (if a = D then none else H a) = some u
    rw [if_neg (ne_of_none e fD)]
    exact r.fr _ _ e
  · show (if a = D then none else H a) = some u
    have h := ne_of_none e hG
    rw [if_neg h]
    exact r.gr _ _ (by rw [upd_ne h]; exact e)
  · exact r.gf a u (by rw [upd_ne (ne_of_none e hG)]; exact e)
  · obtain ⟨vs, h1, h2⟩ := r.st n xs e
    refine ⟨vs, ?_, h2⟩
    show (if μ n = D then none else H (μ n)) = _
    rw [if_neg (hm n xs e)]
    exact h1
  · have := r.ng n xs e
    rw [upd_ne (hm n xs e)] at this
    exact this
  · funext a
    by_cases h : a = D
    · subst h
      rw [upd_same]
      exact r.gr _ _ upd_same
    · rw [upd_ne h, if_neg h]
end
theorem good_blk {P : Prm} {k : Nat} {N : List Str} {sc s0 : Scope} {X : Cx} (gd : Good P k N sc s0 X) (scope : Scope) (s : Shared) (H : Hp) (C : Addr) (cl : List (Str × Addr)) (fp : List Addr) : Good P k N (relS scope sc) scope (X.blk s H scope (compEnvC scope cl C X.env) fp) where
  hN := gd.hN
  nd := gd.nd
  hsc := by
    rw [← gd.hsc]
    rfl
  own := fun x e => by
    show (scope.names.lookup x == some .cell) = true
    rw [e]
    rfl
  calm := gd.calm
  room := gd.room
  gd := gd.gd
  pass := .never
  bi := gd.bi
  fns := gd.fns
  cst := gd.cst
theorem chkI_head {P : Prm} {ck : Ck1} {sc : Scope} {tgE e : Expr} {ik : IK} {its : List Tm} (c : chkI P ck sc tgE ik its e = true) : okHead e = true := by
  unfold chkI at c
  split at c
  · exact (and2 c).1
  · exact (and2 c).1
  · rfl
  · rfl
  · rfl
  · rfl
  · rfl
  · rfl
  · cases c
def LcI (K : PySem.W.Frag) (F G : Hp) (μ : Nat → Addr) (S : Store) (g : Ev) (elt : Tm) (tg : Tg) (ifs : List Tm) (own : List Nat) (ρ : Env) (F1 : Hp) (ds : List D) (q : List D × Store) (L : Addr) (i : Nat) (H' : Hp) : Prop :=
  ∃ F2 μ2 S2 acc av, Ext F μ S F2 μ2 S2 ∧ Rel K F2 (upd G L (.lst av)) μ2 S2 H' ∧ RepL K F2 acc av ∧ Sub F1 F2 ∧ turns g elt tg ifs own ρ (ds.drop i) acc S2 = some q
section
variable {X : Cx} {g : Ev} {ρ : Env} {S S' : Store} {x : E} {F G : Hp} {μ : Nat → Addr} {σ : L2.St} {H : Hp} {P : Prm} {k : Nat} {N : List Str} {sc s0 : Scope} {e : Expr}
abbrev Blks (X : Cx) (scope : Scope) (Pr : Cx → Prop) : Prop := ∀ (s : Shared) (H : Hp) (C : Addr) (cl : List (Str × Addr)) (fp : List Addr), Pr (X.blk s H scope (compEnvC scope cl C X.env) fp)
def semB (X : Cx) (scope : Scope) (e : Expr) : TE := fun σ H Q => Blks X scope fun Y => sem Y e σ H Q
def semTB (X : Cx) (scope : Scope) (e : Expr) : TT := fun σ H Q => Blks X scope fun Y => semT Y e σ H Q
theorem pe_semB {scope : Scope} : Blks X scope fun Y => PE Y e (semB X scope e) := fun s H C cl fp => ⟨fun pins s1 σ H1 Q I h => h s H C cl fp pins s1 I⟩
theorem pt_semB {scope : Scope} : Blks X scope fun Y => PT Y e (semTB X scope e) := fun s H C cl fp => ⟨fun pins s1 σ H1 Q I h => h s H C cl fp pins s1 I⟩
/-- a comprehension's parts -/
structure LcR (X : Cx) (e : Expr) (σ : L2.St) (H : Hp) (L : VK) : Prop where
  out : ∃ elt tg iter ifs scope own pos wi gg tt te, e = .ListComp elt [⟨tg, iter, ifs, 0⟩] scope pos ∧ PI X tg iter wi ∧ BlkOk X.N X.env.scope scope own ∧ (Blks X scope fun Y => PG Y tg gg) ∧ (Blks X scope fun Y => PTs Y ifs tt) ∧ (Blks X scope fun Y => PE Y elt te) ∧
    (∀ x, foldedSetIterable iter X.env x = pure x) ∧ ∀ Q : VK, (∀ v H', L v H' → Q v H') → tLc wi gg tt te (own.map (·.2)) σ H Q
theorem LcR.sem {L : VK} (h : LcR X e σ H L) (hc : X.calm = true) (hN : X.N.Nodup) : sem X e σ H L := by
  obtain ⟨elt, tg, iter, ifs, scope, own, pos, wi, gg, tt, te, rfl, h1, h2, h3, h4, h5, h6, h7⟩ := h.out
  exact to_sem (pe_lc hc hN h1 h2 h3 h4 h5 h6) (h7 L fun _ _ z => z)
theorem LcR.mono {L L' : VK} (h : LcR X e σ H L) (m : ∀ v H', L v H' → L' v H') : LcR X e σ H L' := by
  obtain ⟨elt, tg, iter, ifs, scope, own, pos, wi, gg, tt, te, h0, h1, h2, h3, h4, h5, h6, h7⟩ := h.out
  exact ⟨elt, tg, iter, ifs, scope, own, pos, wi, gg, tt, te, h0, h1, h2, h3, h4, h5, h6, fun Q hQ => h7 Q fun v H' l => hQ v H' (m v H' l)⟩
theorem t_lc (gd : Good P k N sc s0 X) {gk : Scope → Scope → Ck1} (h : SndX X g (gk sc s0)) (hk : ∀ sc s0 t e, gk sc s0 t e = true → okHead e = true)
    (hB : ∀ scope, Blks X scope fun Y => SndX Y g (gk (relS scope sc) scope) ∧ SndT Y g (chkT (gk (relS scope sc) scope) 20)) {elt : Tm} {tg : Tg} {ik : IK} {its ifs : List Tm} {own : List Nat} (c : ckLc P N gk sc s0 elt tg ik its ifs own e = true)
    {p : List E × Store} (ga : evs g its ρ S = some p) {ds : List D} (hw : walked p.2 ik p.1 = some ds) {q : List D × Store} (ht : turns g elt tg ifs own ρ ds [] p.2 = some q) (R : Rel X.K F G μ S H) (RE : RelEnv X.K F μ S ρ σ) :
    LcR X e σ H (LiftN X.K F G μ S q.1 q.2) := by
  unfold ckLc at c
  split at c
  · rename_i eE tgE itE ifE scope pos
    obtain ⟨c, c6⟩ := and2 c
    obtain ⟨c, c5⟩ := and2 c
    obtain ⟨c, c4⟩ := and2 c
    obtain ⟨c, c3⟩ := and2 c
    obtain ⟨c1, c2⟩ := and2 c
    have hN : X.N.Nodup := by
      rw [gd.hN]
      exact gd.nd
    have blk : BlkOk X.N X.env.scope scope (own.map fun i => (N.getD i default, i)) := by
      rw [gd.hN, gd.hsc]
      exact blkOk_by c2
    have eown : (own.map fun i => (N.getD i default, i)).map (·.2) = own := by
      rw [List.map_map]
      exact List.map_id own
    obtain ⟨tt, htt, stt⟩ : ∃ tt : TT, (Blks X scope fun Y => PTs Y ifE tt) ∧ ∀ (ρ1 : Env) (S1 : Store) (b : Bool × Store), evT g ifs ρ1 S1 = some b → ∀ (F1 G1 : Hp) (μ1 : Nat → Addr) (σ1 : L2.St) (H1 : Hp), Rel X.K F1 G1 μ1 S1 H1 → RelEnv X.K F1 μ1 S1 ρ1 σ1 → ∀ Q : Bool → Hp → Prop, (∀ b' H', LT X.K F1 G1 μ1 S1 b.1 b.2 b' H' → Q b' H') → tt σ1 H1 Q := by
      unfold chkIfs at c5
      split at c5
      · exact ⟨tYes, fun _ _ _ _ _ => pts_nil, fun ρ1 S1 b hb F1 G1 μ1 σ1 H1 R1 RE1 Q hQ => by
          cases hb
          exact hQ _ _ ⟨rfl, F1, μ1, Ext.refl _ _ _, R1⟩⟩
      · rename_i cc ce _
        refine ⟨semTB X scope ce, fun s H C cl fp => pts_one (pt_semB s H C cl fp), fun ρ1 S1 b hb F1 G1 μ1 σ1 H1 R1 RE1 Q hQ s H C cl fp => ?_⟩
        obtain ⟨p1, g1, hb⟩ := bind_some_out hb
        have hm : isTrueD p1.1 = some b.1 ∧ p1.2 = b.2 := by
          split at hb
          · rename_i m hp
            rw [hp]
            split at hb
            · rename_i hm
              cases hb
              exact ⟨by rw [hm]; rfl, rfl⟩
            · rename_i hm
              cases hb
              exact ⟨by rw [Bool.not_eq_true] at hm; rw [hm]; rfl, rfl⟩
          · cases hb
        have := (hB scope s H C cl fp).2 cc ce c5 ρ1 S1 p1.1 p1.2 b.1 g1 hm.1 F1 G1 μ1 σ1 H1 R1 RE1
        rw [hm.2] at this
        exact semT_mono this.1 hQ
      · cases c5
    refine ⟨eE, tgE, itE, ifE, scope, own.map fun i => (N.getD i default, i), pos, _, _, _, _, rfl, pi_sem, blk, (fun s H C cl fp => show PG _ _ (gT X.K tg) from pg_of (sto_of (good_blk gd scope s H C cl fp)) c3), htt, pe_semB, folded_of (chkI_head c1), fun Q hQ => ?_⟩
    rw [eown]
    refine semI_mono (s_iter (G := G) gd h (hk sc s0) c1 ga hw R RE) fun J H1 ⟨F1, μ1, e1, R1, wk⟩ => ?_
    intro L hL
    have hG : G L = none := R1.freeG hL
    refine ⟨fun i m H' => m = ds.length - i ∧ i ≤ ds.length ∧ LcI X.K F G μ S g elt tg ifs own ρ F1 ds q L i H', ⟨_, rfl, Nat.zero_le _, F1, μ1, p.2, [], [], e1, R1.lay hL, .nil, Sub.refl _, by rw [List.drop_zero]; exact ht⟩, ?_⟩
    rintro i m H2 ⟨rfl, hi, F2, μ2, S2, acc, av, e2, R2, ra, sb, ht2⟩
    obtain ⟨w1, w2⟩ := wk F2 _ μ2 S2 H2 i sb R2
    by_cases hlt : i < ds.length
    · obtain ⟨go, yl⟩ := w1 ds[i] (List.getElem?_eq_getElem hlt)
      rw [List.drop_eq_getElem_cons hlt] at ht2
      obtain ⟨ρ1, b1, ht2⟩ := bind_some_out ht2
      obtain ⟨b, b2, ht2⟩ := bind_some_out ht2
      refine .inr ⟨go, LcI X.K F G μ S g elt tg ifs own ρ F1 ds q L (i + 1), fun H' hH => ⟨ds.length - (i + 1), by omega, rfl, hlt, hH⟩, fun v H3 hy => ?_⟩
      obtain ⟨F3, e3, R3, rv⟩ := yl v H3 hy
      have e23 := e2.trans e3
      refine bind_ok R3 b1 rv ((RE.mono e23).wipe own) fun σ2 RE2 hwp => ⟨(hwp 5 own c4).trans wipe_wipe, ?_⟩
      refine stt ρ1 S2 b b2 F3 _ μ2 σ2 H3 R3 RE2 _ fun b' H4 ⟨eb, F4, μ4, e4, R4⟩ => ?_
      subst eb
      cases hb : b.1 with
      | false =>
        rw [hb] at ht2
        simp only [Bool.false_eq_true, if_false] at ht2 ⊢
        exact ⟨F4, μ4, b.2, acc, av, e23.trans e4, R4, ra.mono (e3.f.trans e4.f), (sb.trans e3.f).trans e4.f, ht2⟩
      | true =>
        rw [hb] at ht2
        simp only [if_true] at ht2 ⊢
        obtain ⟨pe, g1, ht2⟩ := bind_some_out ht2
        obtain ⟨y, hy2, ht2⟩ := bind_some_out ht2
        split at ht2
        · rename_i hz
          intro s H C cl fp
          refine sem_mono ((hB scope s H C cl fp).1 elt eE c6 ρ1 b.2 pe.1 pe.2 g1 F4 _ μ4 σ2 H4 R4 (RE2.mono e4)) fun u H5 ⟨F5, μ5, e5, R5, r5⟩ => ?_
          rw [asD_out hy2] at r5
          have e45 := (e3.trans e4).trans e5
          have ra5 := ra.mono e45.f
          refine ⟨av, R5.gr _ _ upd_same, fits_lt (by rw [← ra.length]; exact hz), ?_⟩
          exact ⟨F5, μ5, pe.2, acc ++ [y], av ++ [u], (e23.trans e4).trans e5, R5.grow, ra5.append (.cons r5 .nil), sb.trans e45.f, ht2⟩
        · cases ht2
    · have ei : i = ds.length := by omega
      refine .inl ⟨w2 (by omega), ?_⟩
      rw [ei, List.drop_length] at ht2
      have ht3 : some (acc, S2) = some q := ht2
      cases ht3
      obtain ⟨r1, r2⟩ := R2.bare hG
      exact hQ _ _ ⟨F2, μ2, _, e2, r1, L, av, if_pos rfl, ra, rfl, r2⟩
  · cases c
theorem s_lc (gd : Good P k N sc s0 X) {gk : Scope → Scope → Ck1} (h : SndX X g (gk sc s0)) (hk : ∀ sc s0 t e, gk sc s0 t e = true → okHead e = true)
    (hB : ∀ scope, Blks X scope fun Y => SndX Y g (gk (relS scope sc) scope) ∧ SndT Y g (chkT (gk (relS scope sc) scope) 20)) {elt : Tm} {tg : Tg} {ik : IK} {its ifs : List Tm} {own : List Nat} (c : ckLc P N gk sc s0 elt tg ik its ifs own e = true)
    {p : List E × Store} (ga : evs g its ρ S = some p) {ds : List D} (hw : walked p.2 ik p.1 = some ds) {q : List D × Store} (ht : turns g elt tg ifs own ρ ds [] p.2 = some q) (R : Rel X.K F G μ S H) (RE : RelEnv X.K F μ S ρ σ) :
    FrX X e σ H F G μ S (.d (.lst q.1)) q.2 := ⟨q.1, rfl, (t_lc gd h hk hB c ga hw ht R RE).sem gd.calm (by
      rw [gd.hN]
      exact gd.nd)⟩
end
end DL
end

section
set_option Elab.async false
set_option autoImplicit false
set_option linter.all false
set_option maxRecDepth 100000
/-! list(range), tuple(zip), sorted(set), dict(list), d[k]. -/
namespace DL
open PySem PySem.Spec PyProof.Rows L2

/-! ### numbers that rise -/
theorem insS_mem {n k : Int} : ∀ {l : List Int}, k ∈ insS n l ↔ k = n ∨ k ∈ l
  | [] => by simp [insS]
  | m :: r => by
    unfold insS
    split
    · simp
    · split
      · rename_i h1 h2
        subst h2
        simp
      · rw [List.mem_cons, insS_mem, List.mem_cons]
        constructor
        · rintro (h | h | h)
          · exact .inr (.inl h)
          · exact .inl h
          · exact .inr (.inr h)
        · rintro (h | h | h)
          · exact .inr (.inl h)
          · exact .inl h
          · exact .inr (.inr h)
theorem insS_rise {n : Int} : ∀ {l : List Int}, l.Pairwise (· < ·) → (insS n l).Pairwise (· < ·)
  | [], _ => by simp [insS]
  | m :: r, h => by
    rw [List.pairwise_cons] at h
    unfold insS
    split
    · rename_i h1
      refine List.pairwise_cons.mpr ⟨fun a ha => ?_, List.pairwise_cons.mpr h⟩
      cases ha with
      | head => exact h1
      | tail _ ha => exact Int.lt_trans h1 (h.1 a ha)
    · split
      · exact List.pairwise_cons.mpr h
      · rename_i h1 h2
        refine List.pairwise_cons.mpr ⟨fun a ha => ?_, insS_rise h.2⟩
        rcases insS_mem.mp ha with rfl | ha
        · omega
        · exact h.1 a ha
theorem sortSet_mem {k : Int} : ∀ {l : List Int}, k ∈ sortSet l ↔ k ∈ l
  | [] => by simp [sortSet]
  | n :: r => by
    unfold sortSet
    rw [insS_mem, sortSet_mem, List.mem_cons]
theorem sortSet_rise : ∀ l : List Int, (sortSet l).Pairwise (· < ·)
  | [] => List.Pairwise.nil
  | n :: r => insS_rise (sortSet_rise r)
theorem rise_eq : ∀ {l m : List Int}, l.Pairwise (· < ·) → m.Pairwise (· < ·) → (∀ k, k ∈ l ↔ k ∈ m) → l = m
  | [], [], _, _, _ => rfl
  | [], b :: m, _, _, h => absurd ((h b).mpr List.mem_cons_self) List.not_mem_nil
  | a :: l, [], _, _, h => absurd ((h a).mp List.mem_cons_self) List.not_mem_nil
  | a :: l, b :: m, h1, h2, h => by
    rw [List.pairwise_cons] at h1 h2
    have e : a = b := by
      have p := (h a).mp List.mem_cons_self
      have q := (h b).mpr List.mem_cons_self
      cases p with
      | head => rfl
      | tail _ p =>
        cases q with
        | head => rfl
        | tail _ q =>
          have := h2.1 a p
          have := h1.1 b q
          omega
    subst e
    rw [rise_eq h1.2 h2.2 fun k => ?_]
    constructor
    · intro hk
      have lt := h1.1 k hk
      cases (h k).mp (List.mem_cons_of_mem _ hk) with
      | head => omega
      | tail _ z => exact z
    · intro hk
      have lt := h2.1 k hk
      cases (h k).mpr (List.mem_cons_of_mem _ hk) with
      | head => omega
      | tail _ z => exact z
/-- sorted(set(t)), t a tuple of ints -/
def tSoS (K : PySem.W.Frag) (ta : TE) : TE := fun σ H Q => ta σ H fun v H1 => ∃ (a : Addr) (ns : List Int), v = .ref a ∧ SqT K H1 a (ns.map V.int) ∧ ns.length < 63 ∧
  ∀ (o : HO) (p q : Addr), H1 p = none → (upd H1 p o) q = none → Q (.ref q) (upd (upd H1 p o) q (.lst ((sortSet ns).map V.int)))
theorem pe_soS {X : Cx} {ea : Expr} {ta : TE} {p p2 pos pos2 : Pos} (hc : X.calm = true) (hg : Gl X "sorted") (hm : X.mg "sorted" = none) (hg2 : Gl X "set") (hm2 : X.mg "set" = none) (ha : PE X ea ta) (na : starEach [ea] X.env = (false, eval ea X.env) :: starEach [] X.env) :
    PE X (.Call (.Name "sorted" p) [.Call (.Name "set" p2) [ea] [] pos2] [] pos) (tSoS X.K ta) := by
  refine ⟨fun pins s σ H Q I h => ?_⟩
  have bo : bootBuiltins ("sorted" : Str) = some (.builtin "sorted") := boots "sorted" (by decide)
  have bs : bootBuiltins ("set" : Str) = some (.type "set") := by decide +kernel
  have hs1 : starEach [.Call (.Name "set" p2) [ea] [] pos2] X.env = (false, eval (.Call (.Name "set" p2) [ea] [] pos2) X.env) :: starEach [] X.env := rfl
  refine Call_ (ld_blt I hg hm bo (PyProof.Rows.callWith_builtin1 (args_cons (Call_ (ld_blt I hg2 hm2 bs (PyProof.Rows.callWith_type1 (args_cons (thn (ha.run pins s σ H _ I h) fun u s1 ⟨v, H1, I1, r1, q1⟩ => args_nil ?_) na) na rfl))) hs1) hs1 rfl))
  obtain ⟨a, ns, rfl, hs, hl, q⟩ := q1
  cases r1
  obtain ⟨its, rv, pt, hz⟩ := I1.tuple hs
  have pt' : s1.heap.IsTuple a its.toArray := pt
  refine L2.call_set_tupI ns (I1.ok.hd hc) pt' rv.ints (by have : scanBound = 64 ∨ True := .inr trivial; unfold scanBound; omega) fun h' tk c hS hcl kk => args_nil ?_
  have hp : H1 s1.heap.objs.size = none := I1.hok.fresh (Nat.le_refl _)
  have J : L2.Inv X pins σ (upd H1 s1.heap.objs.size (SetO X.w s1.heap.objs.size (fun j => decide (j ∈ ns)) c)) { s1 with heap := h', toks := tk } := I1.laid kk (Nat.le_refl _) (setO_new hS)
  refine cr_sortedSet hc pins _ σ _ [.ref s1.heap.objs.size] [.ref s1.heap.objs.size] Q J (.cons rfl .nil) ⟨s1.heap.objs.size, _, c, rfl, upd_same, by omega, fun ms q2 hms hmem hlen hq => ?_⟩
  have e : ms = sortSet ns := rise_eq hms (sortSet_rise ns) fun k => by
    rw [hmem, sortSet_mem]
    simp
  rw [e]
  exact q _ _ q2 hp hq
section
variable {X : Cx} {g : Ev} {ck : Ck1} {ρ : Env} {S S' : Store} {x : E} {F G : Hp} {μ : Nat → Addr} {σ : L2.St} {H : Hp} {P : Prm} {k : Nat} {N : List Str} {sc s0 : Scope} {e : Expr}
theorem rangeD_rep (K : PySem.W.Frag) (F : Hp) (a b : Int) : RepL K F (rangeD a b) (rgV a b) := by
  unfold rangeD rgV
  generalize List.range (b - a).toNat = l
  induction l with
  | nil => exact .nil
  | cons i l ih => exact .cons (.int _) ih
theorem rgOk_of {a b : Int} (h : rgOk a b = true) : RgOk a b := by
  obtain ⟨h, h3⟩ := and2 h
  obtain ⟨h1, h2⟩ := and2 h
  obtain ⟨a1, a2⟩ := small62_of h1
  obtain ⟨b1, b2⟩ := small62_of h2
  have h4 : (b - a).toNat ≤ 10000000 := of_decide_eq_true h3
  exact ⟨a1, a2, b1, b2, by omega⟩
theorem s_rg1 (gd : Good P k N sc s0 X) (h : SndX X g ck) (hk : ∀ t e, ck t e = true → okHead e = true) {a : Tm} (c : ckRg1 P ck sc a e = true) {p : E × Store} (ga : g a ρ S = some p) {j : Int} (hj : p.1 = .d (.int j)) (hr : rgOk 0 j = true) (R : Rel X.K F G μ S H) (RE : RelEnv X.K F μ S ρ σ) :
    FrX X e σ H F G μ S (.d (.lst (rangeD 0 j))) p.2 := by
  unfold ckRg1 at c
  split at c
  · obtain ⟨c, c3⟩ := and2 c
    obtain ⟨c1, c2⟩ := and2 c
    obtain ⟨hn, hm0, hg, hd, hnn⟩ := bi_of c1 gd.hsc gd.bi
    obtain ⟨hn2, hm2, hg2, hd2, hnn2⟩ := bi_of c2 gd.hsc gd.bi
    subst hn hn2
    refine ⟨_, rfl, to_sem (pe_listRg gd.calm hg hm0 (prg_1 hg2 hm2 pe_sem (star_of (hk _ _ c3))) rfl) ?_⟩
    refine sem_mono (h a _ c3 ρ S p.1 p.2 ga F G μ σ H R RE) fun v H1 ⟨F1, μ1, e1, R1, r1⟩ => ?_
    rw [hj] at r1
    cases (show RepP X.K F1 (.int j) v from r1)
    exact ⟨j, rfl, rgOk_of hr, fun q hq => ⟨F1, μ1, H1, e1, R1, q, _, hq, rangeD_rep _ _ _ _, rfl, rfl⟩⟩
  · cases c
theorem s_rg2 (gd : Good P k N sc s0 X) (h : SndX X g ck) (hk : ∀ t e, ck t e = true → okHead e = true) {a b : Tm} (c : ckRg2 P ck sc a b e = true) {p q : E × Store} (ga : g a ρ S = some p) (gb : g b ρ p.2 = some q) {i j : Int} (hi : p.1 = .d (.int i)) (hj : q.1 = .d (.int j)) (hr : rgOk i j = true) (R : Rel X.K F G μ S H) (RE : RelEnv X.K F μ S ρ σ) :
    FrX X e σ H F G μ S (.d (.lst (rangeD i j))) q.2 := by
  unfold ckRg2 at c
  split at c
  · obtain ⟨c, c4⟩ := and2 c
    obtain ⟨c, c3⟩ := and2 c
    obtain ⟨c1, c2⟩ := and2 c
    obtain ⟨hn, hm0, hg, hd, hnn⟩ := bi_of c1 gd.hsc gd.bi
    obtain ⟨hn2, hm2, hg2, hd2, hnn2⟩ := bi_of c2 gd.hsc gd.bi
    subst hn hn2
    refine ⟨_, rfl, to_sem (pe_listRg gd.calm hg hm0 (prg_2 hg2 hm2 pe_sem pe_sem (star_of (hk _ _ c3)) (star_of (hk _ _ c4)) (by rw [star_of (hk _ _ c4)]; rfl)) rfl) ?_⟩
    refine sem_mono (h a _ c3 ρ S p.1 p.2 ga F G μ σ H R RE) fun v H1 ⟨F1, μ1, e1, R1, r1⟩ => ?_
    refine sem_mono (h b _ c4 ρ p.2 q.1 q.2 gb F1 G μ1 σ H1 R1 (RE.mono e1)) fun w H2 ⟨F2, μ2, e2, R2, r2⟩ => ?_
    rw [hi] at r1
    rw [hj] at r2
    cases (show RepP X.K F1 (.int i) v from r1)
    cases (show RepP X.K F2 (.int j) w from r2)
    exact ⟨i, j, rfl, rfl, rgOk_of hr, fun r hr => ⟨F2, μ2, H2, e1.trans e2, R2, r, _, hr, rangeD_rep _ _ _ _, rfl, rfl⟩⟩
  · cases c
theorem s_soS (gd : Good P k N sc s0 X) (h : SndX X g ck) (hk : ∀ t e, ck t e = true → okHead e = true) {a : Tm} (c : ckSoS P ck sc a e = true) {p : E × Store} (ga : g a ρ S = some p) {xs : List D} {ns : List Int} (hx : p.1 = .d (.tup xs)) (hn : intsOf xs = some ns) (hl : ns.length < 63) (R : Rel X.K F G μ S H) (RE : RelEnv X.K F μ S ρ σ) :
    FrX X e σ H F G μ S (.d (.lst ((sortSet ns).map .int))) p.2 := by
  unfold ckSoS at c
  split at c
  · obtain ⟨c, c3⟩ := and2 c
    obtain ⟨c1, c2⟩ := and2 c
    obtain ⟨hn1, hm0, hg, hd, hnn⟩ := bi_of c1 gd.hsc gd.bi
    obtain ⟨hn2, hm2, hg2, hd2, hnn2⟩ := bi_of c2 gd.hsc gd.bi
    subst hn1 hn2
    refine ⟨_, rfl, to_sem (pe_soS gd.calm hg hm0 hg2 hm2 pe_sem (star_of (hk _ _ c3))) ?_⟩
    refine sem_mono (h a _ c3 ρ S p.1 p.2 ga F G μ σ H R RE) fun v H1 ⟨F1, μ1, e1, R1, r1⟩ => ?_
    rw [hx] at r1
    cases (show RepP X.K F1 (.tup xs) v from r1) with
    | @tup b _ vs h1 h2 =>
      obtain ⟨h3, _⟩ := h2.isInts hn
      subst h3
      exact ⟨b, ns, rfl, R1.fr.sqT h1, hl, fun o p q hp hq => ⟨F1, μ1, _, e1, R1.idle hp, q, _, hq, RepL.ofInts _, rfl, rfl⟩⟩
  · cases c
/-! tuple(zip) -/
theorem rel_upds {K : PySem.W.Frag} : ∀ {l : List (Addr × List V)} {F H : Hp}, Rel K F G μ S H → (l.map (·.1)).Nodup → (∀ p ∈ l, H p.1 = none) → ∃ F', Ext F μ S F' μ S ∧ Rel K F' G μ S (upds H l) ∧ ∀ p ∈ l, F' p.1 = some (.tup p.2)
  | [], F, H, R, _, _ => ⟨F, Ext.refl _ _ _, R, fun p hp => nomatch hp⟩
  | p :: r, F, H, R, nd, hn => by
    rw [List.map_cons, List.nodup_cons] at nd
    obtain ⟨F1, e1, R1, h1⟩ := rel_upds (l := r) R nd.2 fun q hq => hn q (List.mem_cons_of_mem _ hq)
    have hp : upds H r p.1 = none := by
      rw [upds_out nd.1]
      exact hn p List.mem_cons_self
    have ex := Ext.shut (o := .tup p.2) (R1.free hp) S μ
    refine ⟨_, e1.trans ex, R1.shut hp, fun q hq => ?_⟩
    cases hq with
    | head => exact upd_same
    | tail _ hq => exact ex.f _ _ (h1 q hq)
theorem prs_rep {K : PySem.W.Frag} {F : Hp} : ∀ {xs ys : List D} {vs ws : List V} {Ts : List Addr}, RepL K F xs vs → RepL K F ys ws → Ts.length = vs.length → vs.length ≤ ws.length → (∀ p ∈ Ts.zip (prsV vs ws), F p.1 = some (.tup p.2)) → RepL K F (zipD xs ys) (Ts.map V.ref)
  | _, _, _, _, [], .nil, _, _, _, _ => by
    unfold zipD
    exact .nil
  | _, _, _, _, _ :: _, .nil, _, hl, _, _ => by cases hl
  | _, _, _, _, [], .cons _ _, _, hl, _, _ => by cases hl
  | _, _, _, _, _ :: _, .cons _ _, .nil, _, hle, _ => by cases hle
  | x :: xs, y :: ys, v :: vs, w :: ws, T :: Ts, .cons h1 r1, .cons h2 r2, hl, hle, hF => by
    have e : zipD (x :: xs) (y :: ys) = .tup [x, y] :: zipD xs ys := by
      conv => lhs; unfold zipD
    rw [e]
    refine .cons (.tup (.inl (.inl (hF (T, [v, w]) List.mem_cons_self))) (.cons h1 (.cons h2 .nil))) (prs_rep r1 r2 (by simpa using hl) (by simpa using hle) fun p hp => hF p (List.mem_cons_of_mem _ hp))
theorem zip_fst_nodup {α β : Type} {l : List α} {r : List β} (h : l.length = r.length) (nd : l.Nodup) : ((l.zip r).map (·.1)).Nodup := by
  rw [zip_map_fst h]
  exact nd
theorem s_tupZ (gd : Good P k N sc s0 X) (h : SndX X g ck) (hk : ∀ t e, ck t e = true → okHead e = true) {a b : Tm} (c : ckTupZ P ck sc a b e = true) {p q : E × Store} (ga : g a ρ S = some p) (gb : g b ρ p.2 = some q) {xs ys : List D} (hx : p.1 = .d (.tup xs)) (hy : q.1 = .d (.tup ys)) (hle : xs.length ≤ ys.length) (R : Rel X.K F G μ S H) (RE : RelEnv X.K F μ S ρ σ) :
    sem X e σ H (Lift X.K F G μ S (.d (.tup (zipD xs ys))) q.2) := by
  unfold ckTupZ at c
  split at c
  · obtain ⟨c, c4⟩ := and2 c
    obtain ⟨c, c3⟩ := and2 c
    obtain ⟨c1, c2⟩ := and2 c
    obtain ⟨hn, hm0, hg, hd, hnn⟩ := bi_of c1 gd.hsc gd.bi
    obtain ⟨hn2, hm2, hg2, hd2, hnn2⟩ := bi_of c2 gd.hsc gd.bi
    subst hn hn2
    refine to_sem (pe_tupZ gd.calm hg hm0 hg2 hm2 (pa_cons pe_sem (pa_cons pe_sem pa_nil (star_of (hk _ _ c4))) (star_of (hk _ _ c3))) (star_of (hk _ _ c3)) (by rw [star_of (hk _ _ c4)]; rfl)) ?_
    refine sem_mono (h a _ c3 ρ S p.1 p.2 ga F G μ σ H R RE) fun v H1 ⟨F1, μ1, e1, R1, r1⟩ => ?_
    refine sem_mono (h b _ c4 ρ p.2 q.1 q.2 gb F1 G μ1 σ H1 R1 (RE.mono e1)) fun w H2 ⟨F2, μ2, e2, R2, r2⟩ => ?_
    rw [hx] at r1
    rw [hy] at r2
    have r1' := RepP.mono e2.f (show RepP X.K F1 (.tup xs) v from r1)
    cases r1' with
    | @tup ad _ vs h1 h2 =>
      cases (show RepP X.K F2 (.tup ys) w from r2) with
      | @tup bd _ ws h3 h4 =>
        refine ⟨ad, bd, vs, ws, rfl, R2.fr.sqT h1, R2.fr.sqT h3, by rw [← h2.length, ← h4.length]; exact hle, fun pp Ts hT nd hno => ?_⟩
        have lle : vs.length ≤ ws.length := by rw [← h2.length, ← h4.length]; exact hle
        have lenP : (prsV vs ws).length = vs.length := by
          unfold prsV
          rw [List.length_zipWith]
          omega
        have fst_ : (((pp, Ts.map V.ref) :: Ts.zip (prsV vs ws)).map (·.1)) = pp :: Ts := by
          rw [List.map_cons, zip_map_fst (by rw [hT, lenP])]
        obtain ⟨F3, e3, R3, hF⟩ := rel_upds (l := (pp, Ts.map V.ref) :: Ts.zip (prsV vs ws)) R2 (by rw [fst_]; exact nd) fun t ht => hno t.1 (by rw [← fst_]; exact List.mem_map_of_mem ht)
        have rl := prs_rep (h2.mono e3.f) (h4.mono e3.f) hT lle fun t ht => hF t (List.mem_cons_of_mem _ ht)
        exact ⟨F3, μ2, (e1.trans e2).trans e3, R3, .tup (.inl (.inl (hF _ List.mem_cons_self))) rl⟩
  · cases c
/-! dicts -/
theorem putK_rep {K : PySem.W.Frag} {F : Hp} {ky : Key} {z : D} {v : V} (hz : RepP K F z v) : ∀ {ks : List (Key × D)} {vs : List (Key × V)}, RepK K F ks vs → (ks.any fun kv => decide (kv.1 = ky)) = (vs.any fun kv => decide (kv.1 = ky)) ∧ RepK K F (ks.map fun kv => if kv.1 = ky then (kv.1, z) else kv) (vs.map fun kv => if kv.1 = ky then (kv.1, v) else kv) ∧ RepK K F (ks ++ [(ky, z)]) (vs ++ [(ky, v)])
  | _, _, .nil => ⟨rfl, .nil, .cons hz .nil⟩
  | _, _, .cons (k := k1) h r => by
    obtain ⟨i1, i2, i3⟩ := putK_rep hz r
    refine ⟨by rw [List.any_cons, List.any_cons, i1], ?_, .cons h i3⟩
    rw [List.map_cons, List.map_cons]
    by_cases e : k1 = ky
    · rw [if_pos e, if_pos e]
      exact .cons hz i2
    · rw [if_neg e, if_neg e]
      exact .cons h i2
theorem put_rep {K : PySem.W.Frag} {F : Hp} {ky : Key} {z : D} {v : V} (hz : RepP K F z v) {ks : List (Key × D)} {vs : List (Key × V)} (h : RepK K F ks vs) : RepK K F (putD ks ky z) (putK vs ky v) := by
  obtain ⟨i1, i2, i3⟩ := putK_rep (ky := ky) hz h
  unfold putD putK
  rw [i1]
  split
  · exact i2
  · exact i3
theorem merge_rep {K : PySem.W.Frag} {F : Hp} {more : List (Key × D)} {mv : List (Key × V)} (r : RepK K F more mv) : ∀ {ks : List (Key × D)} {vs : List (Key × V)}, RepK K F ks vs → RepK K F (mergeD ks more) (mergeK vs mv) := by
  induction more generalizing mv with
  | nil =>
    intro ks vs h
    cases r
    exact h
  | cons p more ih =>
    intro ks vs h
    cases r with
    | cons hz r => exact ih r (put_rep hz h)
theorem val_rep {K : PySem.W.Frag} {F : Hp} {ky : Key} {ks : List (Key × D)} : ∀ {vs : List (Key × V)} {z : D}, RepK K F ks vs → valD ks ky = some z → ∃ v, valV vs ky = some v ∧ RepP K F z v := by
  induction ks with
  | nil =>
    intro vs z r h
    cases h
  | cons p ks ih =>
    intro vs z r h
    cases r with
    | @cons k1 x _ v vs hz r =>
      unfold valD at h
      by_cases e : k1 = ky
      · rw [valV_pos e]
        rw [List.find?_cons_of_pos (by exact decide_eq_true e)] at h
        cases h
        exact ⟨_, rfl, hz⟩
      · rw [valV_neg e]
        rw [List.find?_cons_of_neg (by simpa using e)] at h
        exact ih r h
theorem keyOf_rep {K : PySem.W.Frag} {F : Hp} {x : D} {v : V} {ky : Key} (h : keyOf x = some ky) (r : RepP K F x v) : v = kV ky := by
  cases r <;> first | (cases h; rfl) | cases h
theorem pairs_rep {K : PySem.W.Frag} {F H : Hp} (sb : Sub F H) : ∀ {xs : List D} {vs : List V} {kvs : List (Key × D)}, RepL K F xs vs → pairsOf xs = some kvs → ∃ (ps : List Addr) (mv : List (Key × V)), vs = ps.map V.ref ∧ Paired (fun p kv => SqT K H p [kV kv.1, kv.2]) ps mv ∧ RepK K F kvs mv
  | _, _, _, .nil, h => by
    cases h
    exact ⟨[], [], rfl, .nil, .nil⟩
  | x :: xs, v :: vs, kvs, .cons h1 r, h => by
    obtain ⟨pr, hp, h⟩ := bind_some_out (a := pairOf x) h
    cases hq : pairsOf xs with
    | none =>
      rw [hq] at h
      cases h
    | some kr =>
      rw [hq] at h
      cases h
      obtain ⟨ps, mv, e1, p1, r1⟩ := pairs_rep sb r hq
      unfold pairOf at hp
      split at hp
      · rename_i kd vd
        cases hk : keyOf kd with
        | none =>
          rw [hk] at hp
          cases hp
        | some ky =>
          rw [hk] at hp
          cases hp
          cases h1 with
          | @tup ad _ us a1 a2 =>
            cases a2 with
            | cons b1 b2 =>
              cases b2 with
              | cons b3 b4 =>
                cases b4
                have ek := keyOf_rep hk b1
                subst ek
                exact ⟨ad :: ps, (ky, _) :: mv, by rw [e1]; rfl, .cons (sb.sqT a1) p1, .cons b3 r1⟩
      · cases hp
theorem s_dictL (gd : Good P k N sc s0 X) (h : SndX X g ck) (hk : ∀ t e, ck t e = true → okHead e = true) {a : Tm} (c : ckDiL P ck sc a e = true) {p : E × Store} (ga : g a ρ S = some p) {xs : List D} {kvs : List (Key × D)} (hx : p.1 = .d (.lst xs)) (hn : pairsOf xs = some kvs) (R : Rel X.K F G μ S H) (RE : RelEnv X.K F μ S ρ σ) :
    sem X e σ H (Lift X.K F G μ S (.d (.dct (mergeD [] kvs))) p.2) := by
  unfold ckDiL at c
  split at c
  · obtain ⟨c1, c2⟩ := and2 c
    obtain ⟨hn1, hm0, hg, hd, hnn⟩ := bi_of c1 gd.hsc gd.bi
    subst hn1
    have h0 := hk _ _ c2
    refine to_sem (pe_callTy (call_dictP gd.calm) hg hm0 (bootTs "dict" (by decide)) (pa_cons pe_sem pa_nil (star_of h0)) hnn hd (star_of h0)) ?_
    refine sem_mono (h a _ c2 ρ S p.1 p.2 ga F G μ σ H R RE) fun v H1 ⟨F1, μ1, e1, R1, r1⟩ => ?_
    rw [hx] at r1
    cases (show RepP X.K F1 (.lst xs) v from r1) with
    | @lst ad _ vs h1 h2 =>
      obtain ⟨ps, mv, rfl, pr, rk⟩ := pairs_rep R1.fr h2 hn
      refine ⟨ad, ps, mv, rfl, .of (R1.fr _ _ h1), pr, fun q hq => ?_⟩
      have ex := Ext.shut (o := .dK (mergeK [] mv)) (R1.free hq) p.2 μ1
      exact ⟨_, μ1, e1.trans ex, R1.shut hq, .dct upd_same ((merge_rep rk .nil).mono ex.f)⟩
  · cases c
theorem noSl_of {i : Expr} (h : okHead i = true) : NoSl i := by
  cases i <;> first | (intro _ _; rfl) | (cases h; done)
theorem s_idxD (gd : Good P k N sc s0 X) (h : SndX X g ck) (hk : ∀ t e, ck t e = true → okHead e = true) {a b : Tm} (c : ckIdx ck a b e = true) {p q : E × Store} (ga : g a ρ S = some p) (gb : g b ρ p.2 = some q) {kvs : List (Key × D)} {kd z : D} {ky : Key} (hx : p.1 = .d (.dct kvs)) (hy : q.1 = .d kd) (hky : keyOf kd = some ky) (hz : valD kvs ky = some z)
    (R : Rel X.K F G μ S H) (RE : RelEnv X.K F μ S ρ σ) : sem X e σ H (Lift X.K F G μ S (.d z) q.2) := by
  unfold ckIdx at c
  split at c
  · obtain ⟨c1, c2⟩ := and2 c
    refine to_sem (pe_dget (Nat.lt_of_le_of_lt (by omega) gd.room.units) pe_sem pe_sem (noSl_of (hk _ _ c2))) ?_
    refine sem_mono (h a _ c1 ρ S p.1 p.2 ga F G μ σ H R RE) fun v H1 ⟨F1, μ1, e1, R1, r1⟩ => ?_
    refine sem_mono (h b _ c2 ρ p.2 q.1 q.2 gb F1 G μ1 σ H1 R1 (RE.mono e1)) fun w H2 ⟨F2, μ2, e2, R2, r2⟩ => ?_
    rw [hx] at r1
    rw [hy] at r2
    have r1' := RepP.mono e2.f (show RepP X.K F1 (.dct kvs) v from r1)
    cases r1' with
    | @dct ad _ vs h1 h2 =>
      obtain ⟨u, h3, h4⟩ := val_rep h2 hz
      have ev := keyOf_rep hky (show RepP X.K F2 kd w from r2)
      subst ev
      exact ⟨ad, u, rfl, .inl ⟨vs, ky, .inl (R2.fr _ _ h1), rfl, h3.symm⟩, F2, μ2, e1.trans e2, R2, h4⟩
  · cases c
end
end DL
end

section
set_option autoImplicit false
set_option linter.all false
/-! All expressions, by the fuel. -/
namespace DL
open PySem PySem.Spec PyProof.Rows L2

theorem chkE_head {P : Prm} {N : List Str} : ∀ {m : Nat} {sc s0 : Scope} {t : Tm} {e : Expr}, chkE P N m sc s0 t e = true → okHead e = true
  | 0, _, _, _, _, h => by cases h
  | m + 1, _, _, _, _, h => by
    unfold chkE at h
    exact (and2 h).1
def plainE : Expr → Bool
  | .UnaryOp .Not _ _ => false
  | .BoolOp _ _ _ => false
  | .IfExp _ _ _ _ => false
  | .Compare _ _ _ _ => false
  | _ => true
theorem plainTestE {e : Expr} {env : PySem.Env} (h1 : okHead e = true) (h : plainE e = true) : ∀ whole, isTrue e env whole = (do let v ← whole; standAt e.pos; holding [v] (truthy v)) := by
  intro whole
  cases e with
  | UnaryOp o a p => cases o <;> first | rfl | cases h
  | BoolOp _ _ _ => cases h
  | IfExp _ _ _ _ => cases h
  | Compare _ _ _ _ => cases h
  | _ => rfl
abbrev SndF (X : Cx) (g : Ev) (ck : Ck1) : Prop := ∀ (t : Tm) (e : Expr), isFresh t = true → ck t e = true → ∀ (ρ : Env) (S : Store) (x : E) (S' : Store), g t ρ S = some (x, S') → ∀ (F G : Hp) (μ : Nat → Addr) (σ : L2.St) (H : Hp), Rel X.K F G μ S H → RelEnv X.K F μ S ρ σ → FrX X e σ H F G μ S x S'
section
variable {P : Prm} {k : Nat} {N : List Str}
abbrev AllAt (P : Prm) (k : Nat) (N : List Str) (n : Nat) : Prop := ∀ (m : Nat) (sc s0 : Scope) (X : Cx), Good P k N sc s0 X → SndX X (ev (callD P.T k) n) (chkE P N m sc s0) ∧ SndF X (ev (callD P.T k) n) (chkE P N m sc s0) ∧ ∀ j, SndT X (ev (callD P.T k) n) (chkT (chkE P N m sc s0) j)
theorem stepF {n : Nat} (ih : AllAt P k N n) (m : Nat) (sc s0 : Scope) (X : Cx) (gd : Good P k N sc s0 X) : SndF X (ev (callD P.T k) (n + 1)) (chkE P N m sc s0) := by
  intro t e hf c ρ S x S' he F G μ σ H R RE
  cases m with
  | zero => cases c
  | succ m =>
    unfold chkE at c
    obtain ⟨c0, c⟩ := and2 c
    have h := (ih m sc s0 X gd).1
    have hk : ∀ t e, chkE P N m sc s0 t e = true → okHead e = true := fun _ _ => chkE_head
    unfold ev at he
    cases t with
    | lst as =>
      obtain ⟨p, ga, he⟩ := bind_some_out he
      obtain ⟨ds, hd, he⟩ := bind_some_out he
      obtain ⟨hz, he⟩ := ite_some he
      cases he
      exact s_lst h hk c ga hd hz R RE
    | lc elt tg ik its ifs own =>
      obtain ⟨p, ga, he⟩ := bind_some_out he
      obtain ⟨ds, hw, he⟩ := bind_some_out he
      obtain ⟨q, ht, he⟩ := bind_some_out he
      cases he
      exact s_lc gd (gk := chkE P N m) h (fun _ _ _ _ => chkE_head) (fun scope s H C cl fp => by
        have z := ih m (relS scope sc) scope _ (good_blk gd scope s H C cl fp)
        exact ⟨z.1, z.2.2 20⟩) c ga hw ht R RE
    | o2 o a b =>
      obtain ⟨p, ga, he⟩ := bind_some_out he
      obtain ⟨q, gb, he⟩ := bind_some_out he
      obtain ⟨y, dy, he⟩ := bind_some_out he
      obtain ⟨w, dw, he⟩ := bind_some_out he
      obtain ⟨z, dz, he⟩ := bind_some_out he
      cases he
      exact f_o2 gd h hf c ga gb dy dw dz R RE
    | slL a lo hi =>
      obtain ⟨p, ga, he⟩ := bind_some_out he
      obtain ⟨l, gl, he⟩ := bind_some_out he
      obtain ⟨u, gu, he⟩ := bind_some_out he
      obtain ⟨y, dy, he⟩ := bind_some_out he
      split at he
      · cases he
        exact s_slL h c ga gl gu dy (.inl rfl) R RE
      · cases he
        exact s_slL h c ga gl gu dy (.inr rfl) R RE
      · cases he
    | o1 o a =>
      obtain ⟨p, ga, he⟩ := bind_some_out he
      obtain ⟨y, dy, he⟩ := bind_some_out he
      obtain ⟨z, dz, he⟩ := bind_some_out he
      cases he
      exact f_o1 gd h hk hf c ga dy dz R RE
    | lstRg1 a =>
      obtain ⟨p, ga, he⟩ := bind_some_out he
      obtain ⟨y, dy, he⟩ := bind_some_out he
      obtain ⟨j, dj, he⟩ := bind_some_out he
      obtain ⟨hr, he⟩ := ite_some he
      cases he
      exact s_rg1 gd h hk c ga (by rw [asD_out dy, asI_out dj]) hr R RE
    | lstRg2 a b =>
      obtain ⟨p, ga, he⟩ := bind_some_out he
      obtain ⟨q, gb, he⟩ := bind_some_out he
      obtain ⟨y, dy, he⟩ := bind_some_out he
      obtain ⟨w, dw, he⟩ := bind_some_out he
      obtain ⟨i, di, he⟩ := bind_some_out he
      obtain ⟨j, dj, he⟩ := bind_some_out he
      obtain ⟨hr, he⟩ := ite_some he
      cases he
      exact s_rg2 gd h hk c ga gb (by rw [asD_out dy, asI_out di]) (by rw [asD_out dw, asI_out dj]) hr R RE
    | sortSetT a =>
      obtain ⟨p, ga, he⟩ := bind_some_out he
      obtain ⟨y, dy, he⟩ := bind_some_out he
      obtain ⟨xs, dx, he⟩ := bind_some_out he
      obtain ⟨ns, dn, he⟩ := bind_some_out he
      obtain ⟨hr, he⟩ := ite_some he
      cases he
      exact s_soS gd h hk c ga (by rw [asD_out dy, asT_out dx]) dn (of_decide_eq_true hr) R RE
    | _ => cases hf
theorem stepX {n : Nat} (ih : AllAt P k N n) (m : Nat) (sc s0 : Scope) (X : Cx) (gd : Good P k N sc s0 X) : SndX X (ev (callD P.T k) (n + 1)) (chkE P N m sc s0) := by
  intro t e c ρ S x S' he F G μ σ H R RE
  have fresh : isFresh t = true → sem X e σ H (Lift X.K F G μ S x S') := fun hf => (stepF ih m sc s0 X gd t e hf c ρ S x S' he F G μ σ H R RE).sem
  cases m with
  | zero => cases c
  | succ m =>
    unfold chkE at c
    obtain ⟨c0, c⟩ := and2 c
    obtain ⟨h, hF, hT⟩ := ih m sc s0 X gd
    have hk : ∀ t e, chkE P N m sc s0 t e = true → okHead e = true := fun _ _ => chkE_head
    unfold ev at he
    cases t with
    | var i =>
      simp only at he
      split at he
      · rename_i y hy
        cases he
        exact s_var gd c hy R RE
      · cases he
    | cst d =>
      cases he
      exact s_cst c R
    | glob y d =>
      cases he
      exact s_glob gd c R
    | o2 o a b =>
      obtain ⟨p, ga, he⟩ := bind_some_out he
      obtain ⟨q, gb, he⟩ := bind_some_out he
      obtain ⟨y, dy, he⟩ := bind_some_out he
      obtain ⟨w, dw, he⟩ := bind_some_out he
      obtain ⟨z, dz, he⟩ := bind_some_out he
      cases he
      rcases s_o2 gd h c ga gb dy dw dz R RE with ⟨_, _, _, _, _, r⟩ | r
      · exact r
      · exact r.sem
    | chain o o' a b cc =>
      obtain ⟨p, ga, he⟩ := bind_some_out he
      obtain ⟨q, gb, he⟩ := bind_some_out he
      obtain ⟨y, dy, he⟩ := bind_some_out he
      obtain ⟨w, dw, he⟩ := bind_some_out he
      obtain ⟨z, dz, he⟩ := bind_some_out he
      split at he
      · obtain ⟨r, gc, he⟩ := bind_some_out he
        obtain ⟨y', dy', he⟩ := bind_some_out he
        obtain ⟨w', dw', he⟩ := bind_some_out he
        obtain ⟨u, du, he⟩ := bind_some_out he
        cases he
        exact (s_chain gd h c ga gb dy dw dz (fun e => by cases e) (fun _ => ⟨r, y', w', u, gc, dy', dw', du, rfl, rfl⟩) R RE).sem
      · cases he
        exact (s_chain gd h c ga gb dy dw dz (fun _ => ⟨rfl, rfl⟩) (fun e => by cases e) R RE).sem
      · cases he
    | and a b =>
      obtain ⟨p, ga, he⟩ := bind_some_out he
      obtain ⟨b0, hb, he⟩ := bind_some_out he
      exact s_and h c ga hb he R RE
    | or a b =>
      obtain ⟨p, ga, he⟩ := bind_some_out he
      obtain ⟨b0, hb, he⟩ := bind_some_out he
      exact s_or h c ga hb he R RE
    | not a =>
      obtain ⟨p, ga, he⟩ := bind_some_out he
      obtain ⟨b0, hb, he⟩ := bind_some_out he
      cases he
      exact s_not h c ga hb R RE
    | ite cc a b =>
      obtain ⟨p, ga, he⟩ := bind_some_out he
      obtain ⟨b0, hb, he⟩ := bind_some_out he
      exact s_ite h (hT 20) c ga hb he R RE
    | o1 o a =>
      obtain ⟨p, ga, he⟩ := bind_some_out he
      obtain ⟨y, dy, he⟩ := bind_some_out he
      obtain ⟨z, dz, he⟩ := bind_some_out he
      cases he
      exact s_o1 gd h hk c ga dy dz R RE
    | max2 a b =>
      obtain ⟨p, ga, he⟩ := bind_some_out he
      obtain ⟨q, gb, he⟩ := bind_some_out he
      obtain ⟨y, dy, he⟩ := bind_some_out he
      obtain ⟨w, dw, he⟩ := bind_some_out he
      obtain ⟨i, di, he⟩ := bind_some_out he
      obtain ⟨j, dj, he⟩ := bind_some_out he
      cases he
      exact s_m2 gd h hk (.inl rfl) c ga gb (by rw [asD_out dy, asI_out di]) (by rw [asD_out dw, asI_out dj]) ⟨fun _ => rfl, fun z => absurd z (by decide)⟩ R RE
    | min2 a b =>
      obtain ⟨p, ga, he⟩ := bind_some_out he
      obtain ⟨q, gb, he⟩ := bind_some_out he
      obtain ⟨y, dy, he⟩ := bind_some_out he
      obtain ⟨w, dw, he⟩ := bind_some_out he
      obtain ⟨i, di, he⟩ := bind_some_out he
      obtain ⟨j, dj, he⟩ := bind_some_out he
      cases he
      exact s_m2 gd h hk (.inr rfl) c ga gb (by rw [asD_out dy, asI_out di]) (by rw [asD_out dw, asI_out dj]) ⟨fun z => absurd z (by decide), fun _ => rfl⟩ R RE
    | isa ty a =>
      obtain ⟨p, ga, he⟩ := bind_some_out he
      obtain ⟨y, dy, he⟩ := bind_some_out he
      cases he
      exact s_isa gd h hk c ga (by rw [asD_out dy]; rfl) R RE
    | isN a =>
      obtain ⟨p, ga, he⟩ := bind_some_out he
      cases he
      exact (s_isN h c ga R RE).sem
    | notN a =>
      obtain ⟨p, ga, he⟩ := bind_some_out he
      cases he
      exact (s_notN h c ga R RE).sem
    | isB b a =>
      obtain ⟨p, ga, he⟩ := bind_some_out he
      obtain ⟨b0, hb, he⟩ := bind_some_out he
      cases he
      exact (s_isB h c ga (isTrueD_out hb) R RE).sem
    | notB b a =>
      obtain ⟨p, ga, he⟩ := bind_some_out he
      obtain ⟨b0, hb, he⟩ := bind_some_out he
      cases he
      exact (s_notB h c ga (isTrueD_out hb) R RE).sem
    | call f as =>
      obtain ⟨p, ga, he⟩ := bind_some_out he
      exact s_call gd h hk c ga he R RE
    | callK f as =>
      obtain ⟨p, ga, he⟩ := bind_some_out he
      exact s_callK gd h c ga he R RE
    | tup as =>
      obtain ⟨p, ga, he⟩ := bind_some_out he
      obtain ⟨ds, hd, he⟩ := bind_some_out he
      obtain ⟨hz, he⟩ := ite_some he
      cases he
      exact s_tup h hk c ga hd hz R RE
    | lst as => exact fresh rfl
    | idxL a b =>
      obtain ⟨p, ga, he⟩ := bind_some_out he
      obtain ⟨q, gb, he⟩ := bind_some_out he
      obtain ⟨y, dy, he⟩ := bind_some_out he
      obtain ⟨w, dw, he⟩ := bind_some_out he
      obtain ⟨i, di, he⟩ := bind_some_out he
      split at he
      · obtain ⟨z, dz, he⟩ := bind_some_out he
        cases he
        exact s_idxL h hk c ga gb dy (by rw [asD_out dw, asI_out di]) ⟨_, .inl rfl, dz⟩ R RE
      · obtain ⟨z, dz, he⟩ := bind_some_out he
        cases he
        exact s_idxL h hk c ga gb dy (by rw [asD_out dw, asI_out di]) ⟨_, .inr rfl, dz⟩ R RE
      · cases he
    | idxT a b =>
      obtain ⟨p, ga, he⟩ := bind_some_out he
      obtain ⟨q, gb, he⟩ := bind_some_out he
      obtain ⟨y, dy, he⟩ := bind_some_out he
      obtain ⟨w, dw, he⟩ := bind_some_out he
      obtain ⟨i, di, he⟩ := bind_some_out he
      split at he
      · obtain ⟨z, dz, he⟩ := bind_some_out he
        cases he
        exact s_idxT h hk c ga gb (asD_out dy) (by rw [asD_out dw, asI_out di]) dz R RE
      · cases he
    | slL a lo hi => exact fresh rfl
    | slT a lo hi =>
      obtain ⟨p, ga, he⟩ := bind_some_out he
      obtain ⟨l, gl, he⟩ := bind_some_out he
      obtain ⟨u, gu, he⟩ := bind_some_out he
      obtain ⟨y, dy, he⟩ := bind_some_out he
      split at he
      · cases he
        exact s_slT h c ga gl gu (asD_out dy) R RE
      · cases he
    | lc elt tg ik its ifs own => exact fresh rfl
    | app a b =>
      obtain ⟨p, ga, he⟩ := bind_some_out he
      obtain ⟨y0, d0, he⟩ := bind_some_out he
      obtain ⟨q, gb, he⟩ := bind_some_out he
      obtain ⟨y, dy, he⟩ := bind_some_out he
      split at he
      · rename_i mm hm
        split at he
        · rename_i xs hx
          split at he
          · rename_i hl
            cases he
            exact s_app h hk c ga d0 gb hm (asD_out dy) hx hl R RE
          · cases he
        · cases he
      · cases he
    | ext a b =>
      obtain ⟨p, ga, he⟩ := bind_some_out he
      obtain ⟨y0, d0, he⟩ := bind_some_out he
      obtain ⟨q, gb, he⟩ := bind_some_out he
      obtain ⟨y, dy, he⟩ := bind_some_out he
      split at he
      · rename_i mm ys hm
        split at he
        · rename_i xs hx
          split at he
          · rename_i hl
            cases he
            exact s_ext h hk c ga d0 gb hm (asD_out dy) hx hl R RE
          · cases he
        · cases he
      · cases he
    | popAt a b =>
      obtain ⟨p, ga, he⟩ := bind_some_out he
      obtain ⟨y0, d0, he⟩ := bind_some_out he
      obtain ⟨q, gb, he⟩ := bind_some_out he
      obtain ⟨y, dy, he⟩ := bind_some_out he
      obtain ⟨i, di, he⟩ := bind_some_out he
      split at he
      · rename_i mm hm
        split at he
        · rename_i xs hx
          split at he
          · rename_i hl
            obtain ⟨z, hz, he⟩ := bind_some_out he
            cases he
            exact s_popAt h hk c ga d0 gb hm (by rw [asD_out dy, asI_out di]) hx hl hz R RE
          · cases he
        · cases he
      · cases he
    | new a =>
      obtain ⟨c1, c2⟩ := and2 c
      obtain ⟨p, ga, he⟩ := bind_some_out he
      split at he
      · rename_i xs hp
        cases he
        have z := hF a e c1 c2 ρ S p.1 p.2 ga F G μ σ H R RE
        rw [hp] at z
        exact z.open_
      · cases he
    | lstRg1 a => exact fresh rfl
    | lstRg2 a b => exact fresh rfl
    | sortSetT a => exact fresh rfl
    | tupZip a b =>
      obtain ⟨p, ga, he⟩ := bind_some_out he
      obtain ⟨q, gb, he⟩ := bind_some_out he
      obtain ⟨y, dy, he⟩ := bind_some_out he
      obtain ⟨w, dw, he⟩ := bind_some_out he
      obtain ⟨xs, dx, he⟩ := bind_some_out he
      obtain ⟨ys, dys, he⟩ := bind_some_out he
      obtain ⟨hr, he⟩ := ite_some he
      cases he
      exact s_tupZ gd h hk c ga gb (by rw [asD_out dy, asT_out dx]) (by rw [asD_out dw, asT_out dys]) (of_decide_eq_true hr) R RE
    | dictL a =>
      obtain ⟨p, ga, he⟩ := bind_some_out he
      obtain ⟨y, dy, he⟩ := bind_some_out he
      obtain ⟨xs, dx, he⟩ := bind_some_out he
      obtain ⟨kvs, dk, he⟩ := bind_some_out he
      cases he
      exact s_dictL gd h hk c ga (by rw [asD_out dy, asL_out dx]) dk R RE
    | idxD a b =>
      obtain ⟨p, ga, he⟩ := bind_some_out he
      obtain ⟨q, gb, he⟩ := bind_some_out he
      obtain ⟨y, dy, he⟩ := bind_some_out he
      obtain ⟨w, dw, he⟩ := bind_some_out he
      obtain ⟨ky, dk, he⟩ := bind_some_out he
      split at he
      · obtain ⟨z, dz, he⟩ := bind_some_out he
        cases he
        exact s_idxD gd h hk c ga gb (asD_out dy) (asD_out dw) dk dz R RE
      · cases he
    | dead => cases he
/-- a comparison, both ways -/
theorem stepB {n : Nat} (ih : AllAt P k N n) (m : Nat) (sc s0 : Scope) (X : Cx) (gd : Good P k N sc s0 X) {t : Tm} {e : Expr} (c : chkE P N m sc s0 t e = true) {a0 : Expr} {ops : List CmpOp} {es : List Expr} {pos : Pos} (hc : e = .Compare a0 ops es pos) {ρ : Env} {S : Store} {b : Bool} {S' : Store} (he : ev (callD P.T k) (n + 1) t ρ S = some (.d (.bl b), S'))
    {F G : Hp} {μ : Nat → Addr} {σ : L2.St} {H : Hp} (R : Rel X.K F G μ S H) (RE : RelEnv X.K F μ S ρ σ) : Both X e σ H (Lift X.K F G μ S (.d (.bl b)) S') := by
  subst hc
  cases m with
  | zero => cases c
  | succ m =>
    unfold chkE at c
    obtain ⟨c0, c⟩ := and2 c
    obtain ⟨h, hF, hT⟩ := ih m sc s0 X gd
    unfold ev at he
    cases t with
    | o2 o a b =>
      obtain ⟨p, ga, he⟩ := bind_some_out he
      obtain ⟨q, gb, he⟩ := bind_some_out he
      obtain ⟨y, dy, he⟩ := bind_some_out he
      obtain ⟨w, dw, he⟩ := bind_some_out he
      obtain ⟨z, dz, he⟩ := bind_some_out he
      cases he
      rcases s_o2 gd h c ga gb dy dw dz R RE with ⟨_, _, _, _, e1, r⟩ | r
      · cases e1
      · exact r
    | chain o o' a b cc =>
      obtain ⟨p, ga, he⟩ := bind_some_out he
      obtain ⟨q, gb, he⟩ := bind_some_out he
      obtain ⟨y, dy, he⟩ := bind_some_out he
      obtain ⟨w, dw, he⟩ := bind_some_out he
      obtain ⟨z, dz, he⟩ := bind_some_out he
      split at he
      · obtain ⟨r, gc, he⟩ := bind_some_out he
        obtain ⟨y', dy', he⟩ := bind_some_out he
        obtain ⟨w', dw', he⟩ := bind_some_out he
        obtain ⟨u, du, he⟩ := bind_some_out he
        cases he
        exact s_chain gd h c ga gb dy dw dz (fun e => by cases e) (fun _ => ⟨r, y', w', _, gc, dy', dw', du, rfl, rfl⟩) R RE
      · cases he
        exact s_chain gd h c ga gb dy dw dz (fun _ => ⟨rfl, rfl⟩) (fun e => by cases e) R RE
      · cases he
    | isN a =>
      obtain ⟨p, ga, he⟩ := bind_some_out he
      cases he
      exact s_isN h c ga R RE
    | notN a =>
      obtain ⟨p, ga, he⟩ := bind_some_out he
      cases he
      exact s_notN h c ga R RE
    | isB b a =>
      obtain ⟨p, ga, he⟩ := bind_some_out he
      obtain ⟨b0, hb, he⟩ := bind_some_out he
      cases he
      exact s_isB h c ga (isTrueD_out hb) R RE
    | notB b a =>
      obtain ⟨p, ga, he⟩ := bind_some_out he
      obtain ⟨b0, hb, he⟩ := bind_some_out he
      cases he
      exact s_notB h c ga (isTrueD_out hb) R RE
    | new a =>
      obtain ⟨p, ga, he⟩ := bind_some_out he
      split at he
      · cases he
      · cases he
    | dead => cases he
    | _ => cases c
theorem stepT {n : Nat} (ih : AllAt P k N n) (m : Nat) (sc s0 : Scope) (X : Cx) (gd : Good P k N sc s0 X) (j : Nat) : SndT X (ev (callD P.T k) (n + 1)) (chkT (chkE P N m sc s0) j) := by
  intro t e c ρ S x S' b he hb F G μ σ H R RE
  have sub := fun j => (ih m sc s0 X gd).2.2 j
  unfold chkT at c
  split at c
  · cases c
  · rename_i jj a b2 ea eb es pos
    obtain ⟨c1, c2⟩ := and2 c
    unfold ev at he
    obtain ⟨p, ga, he⟩ := bind_some_out he
    obtain ⟨b0, h0, he⟩ := bind_some_out he
    have rest : ∃ u : TT, PW X (.BoolOp .And (eb :: es) pos) u ∧ ∀ (F1 : Hp) (μ1 : Nat → Addr) (H1 : Hp), b0 = true → Ext F μ S F1 μ1 p.2 → Rel X.K F1 G μ1 p.2 H1 → u σ H1 (LT X.K F G μ S b S') := by
      cases es with
      | nil => exact ⟨semT X eb, pw_and1 pt_sem, fun F1 μ1 H1 e0 e1 R1 => by
          subst e0
          exact semT_mono (sub jj b2 eb c2 ρ p.2 x S' b he hb F1 G μ1 σ H1 R1 (RE.mono e1)).1 fun v H2 ⟨e2, F2, μ2, e3, R2⟩ => ⟨e2, F2, μ2, e1.trans e3, R2⟩⟩
      | cons ec es => exact ⟨semW X (.BoolOp .And (eb :: ec :: es) pos), pw_sem, fun F1 μ1 H1 e0 e1 R1 => by
          subst e0
          exact semW_mono ((sub jj b2 (.BoolOp .And (eb :: ec :: es) pos) c2 ρ p.2 x S' b he hb F1 G μ1 σ H1 R1 (RE.mono e1)).2 rfl) fun v H2 ⟨e2, F2, μ2, e3, R2⟩ => ⟨e2, F2, μ2, e1.trans e3, R2⟩⟩
    obtain ⟨u, pu, su⟩ := rest
    have main : tAnd (semT X ea) u σ H (LT X.K F G μ S b S') := by
      refine semT_mono (sub jj a ea c1 ρ S p.1 p.2 b0 ga h0 F G μ σ H R RE).1 fun v H1 ⟨ev, F1, μ1, e1, R1⟩ => ?_
      subst ev
      cases v with
      | true => exact su F1 μ1 H1 rfl e1 R1
      | false =>
        cases he
        cases hb
        exact ⟨rfl, F1, μ1, e1, R1⟩
    exact ⟨to_semT (pw_and pt_sem pu).pt main, fun _ => to_semW (pw_and pt_sem pu) main⟩
  · rename_i jj a b2 ea eb es pos
    obtain ⟨c1, c2⟩ := and2 c
    unfold ev at he
    obtain ⟨p, ga, he⟩ := bind_some_out he
    obtain ⟨b0, h0, he⟩ := bind_some_out he
    have rest : ∃ u : TT, PW X (.BoolOp .Or (eb :: es) pos) u ∧ ∀ (F1 : Hp) (μ1 : Nat → Addr) (H1 : Hp), b0 = false → Ext F μ S F1 μ1 p.2 → Rel X.K F1 G μ1 p.2 H1 → u σ H1 (LT X.K F G μ S b S') := by
      cases es with
      | nil => exact ⟨semT X eb, pw_or1 pt_sem, fun F1 μ1 H1 e0 e1 R1 => by
          subst e0
          exact semT_mono (sub jj b2 eb c2 ρ p.2 x S' b he hb F1 G μ1 σ H1 R1 (RE.mono e1)).1 fun v H2 ⟨e2, F2, μ2, e3, R2⟩ => ⟨e2, F2, μ2, e1.trans e3, R2⟩⟩
      | cons ec es => exact ⟨semW X (.BoolOp .Or (eb :: ec :: es) pos), pw_sem, fun F1 μ1 H1 e0 e1 R1 => by
          subst e0
          exact semW_mono ((sub jj b2 (.BoolOp .Or (eb :: ec :: es) pos) c2 ρ p.2 x S' b he hb F1 G μ1 σ H1 R1 (RE.mono e1)).2 rfl) fun v H2 ⟨e2, F2, μ2, e3, R2⟩ => ⟨e2, F2, μ2, e1.trans e3, R2⟩⟩
    obtain ⟨u, pu, su⟩ := rest
    have main : tOr (semT X ea) u σ H (LT X.K F G μ S b S') := by
      refine semT_mono (sub jj a ea c1 ρ S p.1 p.2 b0 ga h0 F G μ σ H R RE).1 fun v H1 ⟨ev, F1, μ1, e1, R1⟩ => ?_
      subst ev
      cases v with
      | false => exact su F1 μ1 H1 rfl e1 R1
      | true =>
        cases he
        cases hb
        exact ⟨rfl, F1, μ1, e1, R1⟩
    exact ⟨to_semT (pw_or pt_sem pu).pt main, fun _ => to_semW (pw_or pt_sem pu) main⟩
  · rename_i jj a ea pos
    unfold ev at he
    obtain ⟨p, ga, he⟩ := bind_some_out he
    obtain ⟨b0, h0, he⟩ := bind_some_out he
    cases he
    cases hb
    refine ⟨to_semT (pt_not pt_sem) ?_, fun z => by cases z⟩
    exact semT_mono (sub jj a ea c ρ S p.1 p.2 b0 ga h0 F G μ σ H R RE).1 fun v H1 ⟨ev, F1, μ1, e1, R1⟩ => ⟨by rw [ev], F1, μ1, e1, R1⟩
  · cases c
  · cases c
  · cases c
  · rename_i n1 n2 n3 n4 n5 n6
    have ex := isTrueD_out hb
    subst ex
    have hv := stepX ih m sc s0 X gd t e c ρ S _ S' he F G μ σ H R RE
    have hok := chkE_head c
    have fin : ∀ v H', Lift X.K F G μ S (.d (.bl b)) S' v H' → ∃ c, v = .bl c ∧ LT X.K F G μ S b S' c H' := fun v H' ⟨F1, μ1, e1, R1, r1⟩ => by
      cases (show RepP X.K F1 (.bl b) v from r1)
      exact ⟨b, rfl, rfl, F1, μ1, e1, R1⟩
    have plain : plainE e = true → isBop e = false → semT X e σ H (LT X.K F G μ S b S') ∧ (isBop e = true → semW X e σ H (LT X.K F G μ S b S')) := fun hp hn =>
      ⟨to_semT (pt_val pe_sem (plainTestE hok hp)) (sem_mono hv fin), fun z => by rw [hn] at z; cases z⟩
    cases e with
    | Compare a0 ops es pos => exact ⟨(stepB ih m sc s0 X gd c rfl he R RE).test fin, fun z => by cases z⟩
    | BoolOp op es pos => exact (n1 _ _ _ rfl).elim
    | IfExp _ _ _ _ => exact (n2 _ _ _ _ rfl).elim
    | UnaryOp o a p => cases o with
      | Not => exact (n3 _ _ rfl).elim
      | _ => exact plain rfl rfl
    | _ => exact plain rfl rfl
theorem all_at : ∀ n, AllAt P k N n
  | 0 => fun m sc s0 X gd => ⟨fun t e c ρ S x S' he => (nomatch he), fun t e hf c ρ S x S' he => (nomatch he), fun j t e c ρ S x S' b he => (nomatch he)⟩
  | n + 1 => fun m sc s0 X gd => ⟨stepX (all_at n) m sc s0 X gd, stepF (all_at n) m sc s0 X gd, stepT (all_at n) m sc s0 X gd⟩
end
end DL
end

section
set_option autoImplicit false
set_option linter.all false
/-! Statements. -/
namespace DL
open PySem PySem.Spec PyProof.Rows L2

/-- what the tongue says of a statement's end is what is wanted -/
def Got (K : PySem.W.Frag) (F G : Hp) (μ : Nat → Addr) (S : Store) (o : Out) (S' : Store) (D : Ends) : Prop := match o with
  | .nx ρ1 => ∀ F' μ' σ' H', Ext F μ S F' μ' S' → Rel K F' G μ' S' H' → RelEnv K F' μ' S' ρ1 σ' → D.nx σ' H'
  | .ret x => ∀ v H', Lift K F G μ S x S' v H' → D.rt v H'
theorem Got.trans {K : PySem.W.Frag} {F F1 G : Hp} {μ μ1 : Nat → Addr} {S S1 S' : Store} {o : Out} {D : Ends} (e : Ext F μ S F1 μ1 S1) (h : Got K F G μ S o S' D) : Got K F1 G μ1 S1 o S' D := by
  cases o with
  | nx ρ1 => exact fun F' μ' σ' H' e2 R RE => h F' μ' σ' H' (e.trans e2) R RE
  | ret x => exact fun v H' l => h v H' (l.trans e)
abbrev SndS (X : Cx) (g : Ex) (ck : CkS) : Prop := ∀ (s : Stm) (st : Stmt), ck s st = true → ∀ (ρ : Env) (S : Store) (o : Out) (S' : Store), g s ρ S = some (o, S') → ∀ (F G : Hp) (μ : Nat → Addr) (σ : L2.St) (H : Hp), Rel X.K F G μ S H → RelEnv X.K F μ S ρ σ → ∀ D : Ends, Got X.K F G μ S o S' D → semS X st D σ H
/-- a frz only closes a list -/
abbrev FrzOk (g : Ex) : Prop := ∀ (i : Nat) (ρ : Env) (S : Store) (p : Out × Store), g (.frz i) ρ S = some p → ∃ m xs, ρ[i]? = some (some (.r m)) ∧ S[m]? = some (some xs) ∧ p = (.nx (ρ.set i (some (.d (.lst xs)))), S.set m none)
theorem frzOk {C : Call} : ∀ n, FrzOk (ex C n)
  | 0, _, _, _, _, h => by cases h
  | n + 1, i, ρ, S, p, h => by
    unfold ex at h
    simp only at h
    split at h
    · rename_i m hm
      split at h
      · rename_i xs hx
        cases h
        exact ⟨m, xs, hm, hx, rfl⟩
      · cases h
    · cases h
theorem set_self {α : Type} : ∀ {l : List α} {i : Nat} {x : α}, l[i]? = some x → l.set i x = l
  | [], _, _, h => by simp at h
  | a :: l, 0, x, h => by
    simp at h
    rw [h]
    rfl
  | a :: l, i + 1, x, h => by
    have h' : l[i]? = some x := by simpa using h
    rw [List.set_cons_succ, set_self h']
/-- two statements at once -/
abbrev SndG (X : Cx) (g : Ex) (ck : Stm → Stmt → Stmt → Bool) : Prop := ∀ (s : Stm) (st st2 : Stmt), ck s st st2 = true → ∀ (ρ : Env) (S : Store) (o : Out) (S' : Store), g s ρ S = some (o, S') → ∀ (F G : Hp) (μ : Nat → Addr) (σ : L2.St) (H : Hp), Rel X.K F G μ S H → RelEnv X.K F μ S ρ σ → ∃ ρ1, o = .nx ρ1 ∧
  ∀ (es : List Stmt) (D : Ends), (∀ F' μ' σ' H', Ext F μ S F' μ' S' → Rel X.K F' G μ' S' H' → RelEnv X.K F' μ' S' ρ1 σ' → semSs X es D σ' H') → semSs X (st :: st2 :: es) D σ H
section
variable {X : Cx} {P : Prm} {k : Nat} {N : List Str} {sc : Scope} {e : Expr} {g : Ex} {ck : CkS} {ck2 : Stm → Stmt → Stmt → Bool}
theorem sndL (h : SndS X g ck) (h2 : SndG X g ck2) (hf : FrzOk g) : ∀ (ss : List Stm) (es : List Stmt), chkL ck ck2 ss es = true → ∀ (ρ : Env) (S : Store) (o : Out) (S' : Store), exs g ss ρ S = some (o, S') → ∀ (F G : Hp) (μ : Nat → Addr) (σ : L2.St) (H : Hp), Rel X.K F G μ S H → RelEnv X.K F μ S ρ σ → ∀ D : Ends, Got X.K F G μ S o S' D → semSs X es D σ H := by
  intro ss
  induction ss with
  | nil =>
    intro es c ρ S o S' he F G μ σ H R RE D q
    cases es with
    | nil =>
      cases he
      exact to_semSs pss_nil (q F μ σ H (Ext.refl _ _ _) R RE)
    | cons _ _ => cases c
  | cons s ss ih =>
    intro es c ρ S o S' he F G μ σ H R RE D q
    obtain ⟨p, hp, he⟩ := bind_some_out (a := g s ρ S) he
    have frz : ∀ i, s = .frz i → semSs X es D σ H := fun i ei => by
      subst ei
      obtain ⟨m, xs, h1, h2, rfl⟩ := hf i ρ S p hp
      obtain ⟨F', e1, R1, r1⟩ := R.frz h2
      obtain ⟨v, hv, rv⟩ := RE.at_ i _ h1
      have RE1 : RelEnv X.K F' μ (S.set m none) (ρ.set i (some (.d (.lst xs)))) σ := by
        have z := (RE.mono e1).set (x := .d (.lst xs)) (v := v) (by rw [rv.2]; exact r1) i
        rw [set_self hv] at z
        exact z
      exact ih es c _ _ o S' he F' G μ σ H R1 RE1 D (q.trans e1)
    have grid : ∀ i a v, s = .grid i a v → semSs X es D σ H := fun i a v ei => by
      subst ei
      match es, c with
      | e1 :: e2 :: es, c =>
        obtain ⟨c1, c2⟩ := and2 c
        obtain ⟨ρ1, ho, hq⟩ := h2 _ e1 e2 c1 ρ S p.1 p.2 hp F G μ σ H R RE
        obtain ⟨p1, p2⟩ := p
        cases (show p1 = _ from ho)
        exact hq es D fun F' μ' σ' H' e1 R1 RE1 => ih es c2 ρ1 p2 o S' he F' G μ' σ' H' R1 RE1 D (q.trans e1)
      | [], c => cases c
      | [_], c => cases c
    have norm : (∀ i, s ≠ .frz i) → (∀ i a v, s ≠ .grid i a v) → semSs X es D σ H := fun hn hn2 => by
      cases es with
      | nil => cases s <;> first | (cases c; done) | exact absurd rfl (hn _) | exact absurd rfl (hn2 _ _ _)
      | cons e es =>
        have c' : ck s e = true ∧ chkL ck ck2 ss es = true := by
          cases s <;> first | exact absurd rfl (hn _) | exact absurd rfl (hn2 _ _ _) | exact and2 c
        refine to_semSs (pss_cons ps_sem pss_sem) ?_
        refine h s e c'.1 ρ S p.1 p.2 hp F G μ σ H R RE _ ?_
        obtain ⟨p1, p2⟩ := p
        cases p1 with
        | nx ρ1 => exact fun F' μ' σ' H' e1 R1 RE1 => ih es c'.2 ρ1 p2 o S' he F' G μ' σ' H' R1 RE1 D (q.trans e1)
        | ret x =>
          cases he
          exact q
    cases s with
    | frz i => exact frz i rfl
    | grid i a v => exact grid i a v rfl
    | _ => exact norm (fun i z => by cases z) fun i a v z => by cases z
/-- a comprehension stored under a local name -/
theorem lcAsg (gd : Good P k N sc sc X) {n m : Nat} {t : Tm} {elt : Expr} {gs : List Comprehension} {scope : Scope} {pos : Pos} (c : chkE P N m sc sc t (.ListComp elt gs scope pos) = true) {ρ : Env} {S : Store} {x : E} {S' : Store} (he : ev (callD P.T k) n t ρ S = some (x, S'))
    {F G : Hp} {μ : Nat → Addr} {σ : L2.St} {H : Hp} (R : Rel X.K F G μ S H) (RE : RelEnv X.K F μ S ρ σ) : LcR X (.ListComp elt gs scope pos) σ H (Lift X.K F G μ S x S') := by
  have lcs : ∀ {n m : Nat} {el : Tm} {tg : Tg} {ik : IK} {its ifs : List Tm} {own : List Nat}, chkE P N m sc sc (.lc el tg ik its ifs own) (.ListComp elt gs scope pos) = true → ∀ {x : E} {S' : Store}, ev (callD P.T k) n (.lc el tg ik its ifs own) ρ S = some (x, S') → ∃ xs, x = .d (.lst xs) ∧ LcR X (.ListComp elt gs scope pos) σ H (LiftN X.K F G μ S xs S') := by
    intro n m el tg ik its ifs own c x S' he
    cases n with
    | zero => cases he
    | succ n =>
      cases m with
      | zero => cases c
      | succ m =>
        unfold chkE at c
        obtain ⟨c0, c⟩ := and2 c
        unfold ev at he
        obtain ⟨p, ga, he⟩ := bind_some_out he
        obtain ⟨ds, hw, he⟩ := bind_some_out he
        obtain ⟨q, ht, he⟩ := bind_some_out he
        cases he
        exact ⟨_, rfl, t_lc gd (gk := chkE P N m) (all_at n m sc sc X gd).1 (fun _ _ _ _ => chkE_head) (fun scope s H C cl fp => by
          have z := all_at (P := P) (k := k) (N := N) n m (relS scope sc) scope _ (good_blk gd scope s H C cl fp)
          exact ⟨z.1, z.2.2 20⟩) c ga hw ht R RE⟩
  cases m with
  | zero => cases c
  | succ m =>
    have c' := c
    unfold chkE at c'
    obtain ⟨c0, c'⟩ := and2 c'
    cases t with
    | lc el tg ik its ifs own =>
      obtain ⟨xs, rfl, r⟩ := lcs c he
      exact r.mono fun v H' l => l.lift
    | new a =>
      obtain ⟨c1, c2⟩ := and2 c'
      cases n with
      | zero => cases he
      | succ n =>
        unfold ev at he
        obtain ⟨p, ga, he⟩ := bind_some_out he
        have al : ∃ el tg ik its ifs own, a = .lc el tg ik its ifs own := by
          cases m with
          | zero => cases c2
          | succ m =>
            unfold chkE at c2
            obtain ⟨_, c3⟩ := and2 c2
            cases a <;> first | exact ⟨_, _, _, _, _, _, rfl⟩ | (cases c1; done) | (cases c3; done)
        obtain ⟨el, tg, ik, its, ifs, own, rfl⟩ := al
        obtain ⟨p1, p2⟩ := p
        obtain ⟨xs, rfl, r⟩ := lcs c2 ga
        cases he
        exact r.mono fun v H' l => l.open_
    | dead =>
      cases n with
      | zero => cases he
      | succ n => cases he
    | _ => cases c'
theorem swaps_lc {elt : Expr} {gs : List Comprehension} {scope : Scope} {pos : Pos} {tg : Expr} {l : Nat} {env : PySem.Env} : ∃ b, swapsWith (.ListComp elt gs scope pos) (some tg) l env = pure b := by
  unfold swapsWith
  cases tg <;> exact ⟨_, rfl⟩
theorem asg_LcR (gd : Good P k N sc sc X) {i : Nat} {x : Str} {px pos : Pos} {ve : Expr} {σ : L2.St} {H : Hp} {L : VK} (c1 : N[i]? = some x) (c2 : stoC sc sc x = true) (r : LcR X ve σ H L) (D : Ends) (q : ∀ v H', L v H' → D.nx (σ.set i (some v)) H') : semS X (.Assign [.Name x px] ve pos) D σ H := by
  obtain ⟨l1, l2⟩ := loc_of (sto_of gd) c2
  have hN : X.N.Nodup := by
    rw [gd.hN]
    exact gd.nd
  have hi : X.N[i]? = some x := by
    rw [gd.hN]
    exact c1
  by_cases hs : swapsWith ve (some (.Name x px)) pos.line X.env = pure false
  · exact to_semS (ps_set hN hi l1 pe_sem hs l2) (sem_mono (r.sem gd.calm hN) q)
  · obtain ⟨elt, tg, it, ifs, scope, own, p2, wi, gg, tt, te, rfl, h1, h2, h3, h4, h5, h6, h7⟩ := r.out
    obtain ⟨b, hb⟩ := swaps_lc (elt := elt) (gs := [⟨tg, it, ifs, 0⟩]) (scope := scope) (pos := p2) (tg := .Name x px) (l := pos.line) (env := X.env)
    cases b with
    | false => exact absurd hb hs
    | true =>
      have hloc : X.env.scope.names.lookup x = some .local := by
        have hk : (X.env.blockKind == .function && X.env.kindOf x == some .local && px.line == p2.line && !(scope.names.any fun (n, k) => n == x && (k == .local || k == .cell))) = true := by
          have z : (pure (X.env.blockKind == .function && X.env.kindOf x == some .local && px.line == p2.line && !(scope.names.any fun (n, k) => n == x && (k == .local || k == .cell))) : Sem Bool) = pure true := hb
          cases w : (X.env.blockKind == .function && X.env.kindOf x == some .local && px.line == p2.line && !(scope.names.any fun (n, k) => n == x && (k == .local || k == .cell))) with
          | true => rfl
          | false =>
            rw [w] at z
            exact absurd (show swapsWith (.ListComp elt [⟨tg, it, ifs, 0⟩] scope p2) (some (.Name x px)) pos.line X.env = pure false from by
              rw [hb, ← z]) hs
        obtain ⟨hk, _⟩ := and2 hk
        obtain ⟨hk, _⟩ := and2 hk
        obtain ⟨_, hk⟩ := and2 hk
        exact eq_of_beq hk
      exact to_semS (ps_setLc gd.calm hN hi hloc hb h1 h2 h3 h4 h5 h6) (h7 _ q)
theorem st_asg (gd : Good P k N sc sc X) {i : Nat} {x : Str} {px pos : Pos} {t : Tm} {ve : Expr} {m n : Nat} (c1 : N[i]? = some x) (c2 : stoC sc sc x = true) (c3 : chkE P N m sc sc t ve = true) {ρ : Env} {S : Store} {y : E} {S' : Store} (he : ev (callD P.T k) n t ρ S = some (y, S'))
    {F G : Hp} {μ : Nat → Addr} {σ : L2.St} {H : Hp} (R : Rel X.K F G μ S H) (RE : RelEnv X.K F μ S ρ σ) (D : Ends) (q : Got X.K F G μ S (.nx (ρ.set i (some y))) S' D) : semS X (.Assign [.Name x px] ve pos) D σ H := by
  obtain ⟨l1, l2⟩ := loc_of (sto_of gd) c2
  have hN : X.N.Nodup := by
    rw [gd.hN]
    exact gd.nd
  have hi : X.N[i]? = some x := by
    rw [gd.hN]
    exact c1
  have fin : ∀ v H', Lift X.K F G μ S y S' v H' → gName i v σ H' D.nx := fun v H' ⟨F1, μ1, e1, R1, r1⟩ => q F1 μ1 _ H' e1 R1 ((RE.mono e1).set r1 i)
  by_cases hs : swapsWith ve (some (.Name x px)) pos.line X.env = pure false
  · exact to_semS (ps_set hN hi l1 pe_sem hs l2) (sem_mono ((all_at n m sc sc X gd).1 t ve c3 ρ S y S' he F G μ σ H R RE) fin)
  · cases ve with
    | ListComp elt gs scope p2 =>
      obtain ⟨b, hb⟩ := swaps_lc (elt := elt) (gs := gs) (scope := scope) (pos := p2) (tg := .Name x px) (l := pos.line) (env := X.env)
      cases b with
      | false => exact absurd hb hs
      | true =>
        obtain ⟨el, tg, it, ifs, scp, own, p3, wi, gg, tt, te, e0, h1, h2, h3, h4, h5, h6, h7⟩ := (lcAsg gd c3 he R RE).out
        cases e0
        have hloc : X.env.scope.names.lookup x = some .local := by
          have hk : (X.env.blockKind == .function && X.env.kindOf x == some .local && px.line == p2.line && !(scope.names.any fun (n, k) => n == x && (k == .local || k == .cell))) = true := by
            have z : (pure (X.env.blockKind == .function && X.env.kindOf x == some .local && px.line == p2.line && !(scope.names.any fun (n, k) => n == x && (k == .local || k == .cell))) : Sem Bool) = pure true := hb
            cases w : (X.env.blockKind == .function && X.env.kindOf x == some .local && px.line == p2.line && !(scope.names.any fun (n, k) => n == x && (k == .local || k == .cell))) with
            | true => rfl
            | false =>
              rw [w] at z
              exact absurd (show swapsWith (.ListComp elt [⟨tg, it, ifs, 0⟩] scope p2) (some (.Name x px)) pos.line X.env = pure false from by
                rw [hb, ← z]) hs
          obtain ⟨hk, _⟩ := and2 hk
          obtain ⟨hk, _⟩ := and2 hk
          obtain ⟨_, hk⟩ := and2 hk
          exact eq_of_beq hk
        exact to_semS (ps_setLc gd.calm hN hi hloc hb h1 h2 h3 h4 h5 h6) (h7 _ fin)
    | SetComp _ _ _ _ => exact absurd (chkE_head c3) (by simp [okHead])
    | DictComp _ _ _ _ _ => exact absurd (chkE_head c3) (by simp [okHead])
    | _ => exact absurd rfl hs
end
end DL
end

section
set_option autoImplicit false
set_option linter.all false
/-! Statements, second part; all of them by the fuel. -/
namespace DL
open PySem PySem.Spec PyProof.Rows L2

theorem isLoc_iff {sc : Scope} {x : Str} (h : isLoc sc x = true) : sc.names.lookup x = some .local := by
  unfold isLoc at h
  split at h
  · assumption
  · cases h
theorem isLoc_not {sc : Scope} {x : Str} (h : isLoc sc x = false) : sc.names.lookup x ≠ some .local := by
  intro e
  unfold isLoc at h
  rw [e] at h
  cases h
/-- the names of the stores that may be swapped -/
def swF (env : PySem.Env) (line : Nat) : Expr → Option Str
  | .Name id pos => if env.kindOf id == some .local && pos.line == line then some id else none
  | _ => none
def swNames (env : PySem.Env) (line : Nat) (ts : List Expr) : List Str := ts.filterMap (swF env line)
theorem swNames_le {env : PySem.Env} {line : Nat} (ts : List Expr) : (swNames env line ts).length ≤ ts.length := List.length_filterMap_le _ _
theorem swF_non {env : PySem.Env} {line : Nat} {t : Expr} : nonLoc env.scope t = true → swF env line t = none := by
  intro h
  cases t with
  | Name x p =>
    have h' : isLoc env.scope x = false := not_t h
    have n : (env.kindOf x == some .local) = false := by
      refine beq_eq_false_iff_ne.mpr ?_
      exact isLoc_not h'
    unfold swF
    simp only [n, Bool.false_and, Bool.false_eq_true, if_false]
  | _ => rfl
theorem swNames_lt {env : PySem.Env} {line : Nat} : ∀ {ts : List Expr}, ts.any (nonLoc env.scope) = true → (swNames env line ts).length < ts.length
  | [], h => by cases h
  | t :: ts, h => by
    have le := swNames_le (env := env) (line := line) ts
    rw [List.any_cons, Bool.or_eq_true] at h
    have cons : swNames env line (t :: ts) = (match swF env line t with | none => swNames env line ts | some a => a :: swNames env line ts) := by
      unfold swNames
      rw [List.filterMap_cons]
      cases swF env line t <;> rfl
    rcases h with h | h
    · rw [cons, swF_non h, List.length_cons]
      simp only
      omega
    · have ih := swNames_lt (line := line) h
      have u : (swNames env line (t :: ts)).length ≤ (swNames env line ts).length + 1 := by
        rw [cons]
        split
        · omega
        · rw [List.length_cons]
          exact Nat.le_refl _
      rw [List.length_cons]
      omega
def isStarE : Expr → Bool
  | .Starred _ _ => true
  | _ => false
theorem noStar {a : Expr} (h : okHead a = true) : isStarE a = false := by
  cases a <;> first | rfl | (cases h; done)
theorem swapped_none {es : List Expr} {k : Nat} {p : Pos} {ve : Expr} {env : PySem.Env} (h : noSwap env.scope es ve = true) : swappedStores [.Tuple es k p] ve env = pure none := by
  cases ve with
  | Tuple vs k2 p2 =>
    have hlt := swNames_lt (line := (es.head?.map (·.pos.line)).getD 0) h
    unfold swappedStores
    simp only
    split
    · rfl
    · split
      · rfl
      · have e : ((swNames env ((es.head?.map (·.pos.line)).getD 0) es).length != es.length || (swNames env ((es.head?.map (·.pos.line)).getD 0) es).eraseDups.length != (swNames env ((es.head?.map (·.pos.line)).getD 0) es).length) = true := by
          rw [Bool.or_eq_true]
          left
          exact bne_iff_ne.mpr (by omega)
        exact if_pos e
  | _ => rfl
section
variable {X : Cx} {P : Prm} {k : Nat} {N : List Str} {sc : Scope} {n m : Nat} {ρ : Env} {S S' : Store} {F G : Hp} {μ : Nat → Addr} {σ : L2.St} {H : Hp}
theorem st_asgT (gd : Good P k N sc sc X) {ts : List Tg} {es : List Expr} {kk : Nat} {p pos : Pos} {t : Tm} {ve : Expr} (c1 : chkG N sc sc (.tp ts) (.Tuple es kk p) = true) (c2 : chkE P N m sc sc t ve = true) (c3 : notComp ve = true) (c4 : noSwap sc es ve = true) {y : E} (he : ev (callD P.T k) n t ρ S = some (y, S')) {d : D} (hd : asD y = some d) {ρ1 : Env} (hb : bindT (.tp ts) d ρ = some ρ1)
    (R : Rel X.K F G μ S H) (RE : RelEnv X.K F μ S ρ σ) (D : Ends) (q : Got X.K F G μ S (.nx ρ1) S' D) : semS X (.Assign [.Tuple es kk p] ve pos) D σ H := by
  refine to_semS (ps_asg pe_sem (pg_of (sto_of gd) c1) (show swapsWith ve (some (.Tuple es kk p)) pos.line X.env = pure false from swaps_of c3) (swapped_none (by rw [gd.hsc]; exact c4)) rfl) ?_
  refine sem_mono ((all_at n m sc sc X gd).1 t ve c2 ρ S y S' he F G μ σ H R RE) fun v H1 ⟨F1, μ1, e1, R1, r1⟩ => ?_
  rw [asD_out hd] at r1
  exact bind_ok R1 hb r1 (RE.mono e1) fun σ1 RE1 _ => q F1 μ1 σ1 H1 e1 R1 RE1
theorem st_setI (gd : Good P k N sc sc X) {o i t : Tm} {eo ei ve : Expr} {sp pos : Pos} (c1 : chkE P N m sc sc o eo = true) (c2 : chkE P N m sc sc i ei = true) (c3 : chkE P N m sc sc t ve = true) {p q r : E × Store} (hp : ev (callD P.T k) n t ρ S = some p) (hq : ev (callD P.T k) n o ρ p.2 = some q) (hr : ev (callD P.T k) n i ρ q.2 = some r)
    {x : D} (hx : asD p.1 = some x) {kk : Int} (hi : r.1 = .d (.int kk)) {mm : Nat} (hm : q.1 = .r mm) {xs : List D} (hs : r.2[mm]? = some (some xs)) {j : Nat} (hj : place xs.length kk = some j)
    (R : Rel X.K F G μ S H) (RE : RelEnv X.K F μ S ρ σ) (D : Ends) (g : Got X.K F G μ S (.nx ρ) (r.2.set mm (some (xs.set j x))) D) : semS X (.Assign [.Subscript eo ei sp] ve pos) D σ H := by
  have sw : ∀ l, swapsWithSole [.Subscript eo ei sp] ve l X.env = pure false := fun l => by cases ve <;> rfl
  have sw2 : swappedStores [.Subscript eo ei sp] ve X.env = pure none := by cases ve <;> rfl
  refine to_semS (ps_asg pe_sem (pg_sub pe_sem pe_sem set_list (fun v => by
    have h0 := chkE_head c2
    cases ei <;> first | rfl | (cases h0; done))) (sw _) sw2 rfl) ?_
  have A := (all_at (P := P) (k := k) (N := N) n m sc sc X gd).1
  refine sem_mono (A t ve c3 ρ S p.1 p.2 hp F G μ σ H R RE) fun v H1 ⟨F1, μ1, e1, R1, r1⟩ => ?_
  refine sem_mono (A o eo c1 ρ p.2 q.1 q.2 hq F1 G μ1 σ H1 R1 (RE.mono e1)) fun w H2 ⟨F2, μ2, e2, R2, r2⟩ => ?_
  refine sem_mono (A i ei c2 ρ q.2 r.1 r.2 hr F2 G μ2 σ H2 R2 (RE.mono (e1.trans e2))) fun u H3 ⟨F3, μ3, e3, R3, r3⟩ => ?_
  rw [hi] at r3
  cases (show RepP X.K F3 (.int kk) u from r3)
  rw [hm] at r2
  have r2' := r2.mono e3
  rw [asD_out hx] at r1
  have r1' : RepP X.K F3 x v := RepP.mono (e2.trans e3).f r1
  obtain ⟨vs, h1, h2⟩ := R3.st mm xs hs
  refine ⟨μ3 mm, vs, kk, j, r2'.2, rfl, h1, by rw [← h2.length]; exact hj, ?_⟩
  have e123 := (e1.trans e2).trans e3
  exact g F3 μ3 σ _ (e123.trans (Ext.set F3 μ3 r.2 mm _)) (R3.write hs (h2.set r1' j)) ((RE.mono e123).mono (Ext.set F3 μ3 r.2 mm _))
theorem beq_f {α : Type} [BEq α] [LawfulBEq α] {a b : α} (h : (!(a == b)) = true) : a ≠ b := fun e => by
  rw [e, beq_self_eq_true] at h
  cases h
theorem sw2_of {x y : Str} {px py pt pt2 : Pos} {kt k2 : Nat} {a b : Expr} {env : PySem.Env} (c : parC env.scope x y px py a b = true) (hk : env.scope.kind = .function) (ha : okHead a = true) (hb : okHead b = true) :
    swappedStores [.Tuple [.Name x px, .Name y py] kt pt] (.Tuple [a, b] k2 pt2) env = pure (some [x, y]) := by
  obtain ⟨c, c6⟩ := and2 c
  obtain ⟨c, c5⟩ := and2 c
  obtain ⟨c, c4⟩ := and2 c
  obtain ⟨c, c3⟩ := and2 c
  obtain ⟨c1, c2⟩ := and2 c
  have bk : env.blockKind = .function := by
    unfold Env.blockKind
    rw [hk]
    rfl
  have kx : env.kindOf x = some .local := isLoc_iff c1
  have ky : env.kindOf y = some .local := isLoc_iff c2
  have el : py.line = px.line := (eq_of_beq c3).symm
  have nxy : x ≠ y := beq_f c4
  have hn : swNames env px.line [.Name x px, .Name y py] = [x, y] := by
    simp [swNames, List.filterMap, swF, kx, ky, el]
  have ed : ([x, y].eraseDups.length != 2) = false := by
    have h2 : ¬ (y == x) = true := fun h => nxy (eq_of_beq h).symm
    simp [List.eraseDups_cons, h2]
  unfold swappedStores
  refine (if_neg ?_).trans ?_
  · simp [bk]
  refine (if_neg ?_).trans ?_
  · show ¬ ((isStarE a || (isStarE b || false)) = true)
    rw [noStar ha, noStar hb]
    exact Bool.false_ne_true
  refine (if_neg ?_).trans ?_
  · show ¬ (((swNames env px.line [.Name x px, .Name y py]).length != 2 || (swNames env px.line [.Name x px, .Name y py]).eraseDups.length != (swNames env px.line [.Name x px, .Name y py]).length) = true)
    rw [hn]
    show ¬ ((false || ([x, y].eraseDups.length != 2)) = true)
    rw [ed]
    exact Bool.false_ne_true
  refine (if_neg ?_).trans ?_
  · rw [not_t c5]
    exact Bool.false_ne_true
  refine (if_neg ?_).trans ?_
  · rw [not_t c6]
    exact Bool.false_ne_true
  show pure (some (swNames env px.line [.Name x px, .Name y py])) = _
  rw [hn]
theorem sw3_of {x y z : Str} {px py pz pt pt2 : Pos} {kt k2 : Nat} {a b d : Expr} {env : PySem.Env} (c : par3C env.scope x y z px py pz a b d = true) (hk : env.scope.kind = .function) (ha : okHead a = true) (hb : okHead b = true) (hd : okHead d = true) :
    swappedStores [.Tuple [.Name x px, .Name y py, .Name z pz] kt pt] (.Tuple [a, b, d] k2 pt2) env = pure (some [x, y, z]) := by
  obtain ⟨c, c0⟩ := and2 c
  obtain ⟨c, c9⟩ := and2 c
  obtain ⟨c, c8⟩ := and2 c
  obtain ⟨c, c7⟩ := and2 c
  obtain ⟨c, c6⟩ := and2 c
  obtain ⟨c, c5⟩ := and2 c
  obtain ⟨c, c4⟩ := and2 c
  obtain ⟨c, c3⟩ := and2 c
  obtain ⟨c1, c2⟩ := and2 c
  have bk : env.blockKind = .function := by
    unfold Env.blockKind
    rw [hk]
    rfl
  have kx : env.kindOf x = some .local := isLoc_iff c1
  have ky : env.kindOf y = some .local := isLoc_iff c2
  have kz : env.kindOf z = some .local := isLoc_iff c3
  have el : py.line = px.line := (eq_of_beq c4).symm
  have el2 : pz.line = px.line := (eq_of_beq c5).symm
  have n1 : x ≠ y := beq_f c6
  have n2 : x ≠ z := beq_f c7
  have n3 : y ≠ z := beq_f c8
  have hn : swNames env px.line [.Name x px, .Name y py, .Name z pz] = [x, y, z] := by
    simp [swNames, List.filterMap, swF, kx, ky, kz, el, el2]
  have ed : ([x, y, z].eraseDups.length != 3) = false := by
    have h1 : ¬ (y == x) = true := fun h => n1 (eq_of_beq h).symm
    have h2 : ¬ (z == x) = true := fun h => n2 (eq_of_beq h).symm
    have h3 : ¬ (z == y) = true := fun h => n3 (eq_of_beq h).symm
    simp [List.eraseDups_cons, h1, h2, h3]
  unfold swappedStores
  refine (if_neg ?_).trans ?_
  · simp [bk]
  refine (if_neg ?_).trans ?_
  · show ¬ ((isStarE a || (isStarE b || (isStarE d || false))) = true)
    rw [noStar ha, noStar hb, noStar hd]
    exact Bool.false_ne_true
  refine (if_neg ?_).trans ?_
  · show ¬ (((swNames env px.line [.Name x px, .Name y py, .Name z pz]).length != 3 || (swNames env px.line [.Name x px, .Name y py, .Name z pz]).eraseDups.length != (swNames env px.line [.Name x px, .Name y py, .Name z pz]).length) = true)
    rw [hn]
    show ¬ ((false || ([x, y, z].eraseDups.length != 3)) = true)
    rw [ed]
    exact Bool.false_ne_true
  refine (if_neg ?_).trans ?_
  · rw [not_t c9]
    exact Bool.false_ne_true
  refine (if_neg ?_).trans ?_
  · rw [not_t c0]
    exact Bool.false_ne_true
  show pure (some (swNames env px.line [.Name x px, .Name y py, .Name z pz])) = _
  rw [hn]
end
end DL
end

section
set_option autoImplicit false
set_option linter.all false
/-! x = [[..] .. for ..], then x[0][0] = v: the first row stays open till the store. -/
namespace DL
open PySem PySem.Spec PyProof.Rows L2

section
variable {K : PySem.W.Frag} {F G H : Hp} {μ : Nat → Addr} {S : Store} {a b : Addr}
theorem upd_comm {H : Hp} {a b : Addr} {o p : HO} (h : a ≠ b) : upd (upd H a o) b p = upd (upd H b p) a o := by
  funext c
  by_cases hb : c = b
  · subst hb
    rw [upd_same, upd_ne h.symm, upd_same]
  · by_cases ha : c = a
    · subst ha
      rw [upd_ne hb, upd_same, upd_same]
    · rw [upd_ne hb, upd_ne ha, upd_ne ha, upd_ne hb]
/-- what others held is shut -/
theorem Rel.shutG {xs : List D} {vs : List V} (r : Rel K F (upd G a (.lst vs)) μ S H) (hG : G a = none) (h : RepL K F xs vs) : ∃ F', Ext F μ S F' μ S ∧ Rel K F' G μ S H ∧ RepP K F' (.lst xs) (.ref a) := by
  have fa : F a = none := r.gf a _ upd_same
  have sf : Sub F (upd F a (.lst vs)) := fun c u e => by
    rw [upd_ne (ne_of_none e fa)]
    exact e
  have hm : ∀ n zs, S[n]? = some (some zs) → μ n ≠ a := fun n zs e z => by
    have := r.ng n zs e
    rw [z, upd_same] at this
    cases this
  refine ⟨upd F a (.lst vs), ⟨sf, fun _ _ => rfl, Nat.le_refl _⟩, ⟨fun c u e => ?_, fun c u e => ?_, fun c u e => ?_, fun n zs e => ?_, fun n zs e => ?_, fun n zs e => ?_, r.inj⟩, .lst upd_same (h.mono sf)⟩
  · by_cases hc : c = a
    · subst hc
      rw [upd_same] at e
      cases e
      exact r.gr _ _ upd_same
    · rw [upd_ne hc] at e
      exact r.fr _ _ e
  · exact r.gr _ _ (by rw [upd_ne (ne_of_none e hG)]; exact e)
  · rw [upd_ne (ne_of_none e hG)]
    exact r.gf _ _ (by rw [upd_ne (ne_of_none e hG)]; exact e)
  · obtain ⟨ws, h1, h2⟩ := r.st n zs e
    exact ⟨ws, h1, h2.mono sf⟩
  · rw [upd_ne (hm n zs e)]
    exact r.nf n zs e
  · have := r.ng n zs e
    rw [upd_ne (hm n zs e)] at this
    exact this
end
def LcG (K : PySem.W.Frag) (F G : Hp) (μ : Nat → Addr) (S : Store) (g : Ev) (elt : Tm) (tg : Tg) (own : List Nat) (ρ : Env) (F1 : Hp) (ds : List D) (q : List D × Store) (L : Addr) (i : Nat) (H' : Hp) : Prop :=
  ∃ F2 μ2 S2 r0 v0 y0 acc av, Ext F μ S F2 μ2 S2 ∧ Rel K F2 (upd (upd G r0 (.lst v0)) L (.lst (.ref r0 :: av))) μ2 S2 H' ∧ RepL K F2 y0 v0 ∧ RepL K F2 acc av ∧ Sub F1 F2 ∧ G r0 = none ∧ r0 ≠ L ∧ turns g elt tg [] own ρ (ds.drop i) (.lst y0 :: acc) S2 = some q
def LcZ (K : PySem.W.Frag) (F G : Hp) (μ : Nat → Addr) (S : Store) (g : Ev) (elt : Tm) (tg : Tg) (own : List Nat) (ρ : Env) (F1 : Hp) (ds : List D) (q : List D × Store) (L : Addr) (H' : Hp) : Prop :=
  ∃ F2 μ2 S2, Ext F μ S F2 μ2 S2 ∧ Rel K F2 (upd G L (.lst [])) μ2 S2 H' ∧ Sub F1 F2 ∧ turns g elt tg [] own ρ ds [] S2 = some q
/-- behind the comprehension -/
def EndG (K : PySem.W.Frag) (F G : Hp) (μ : Nat → Addr) (S : Store) (rows : List D) (S' : Store) : VK := fun v H' => ∃ F2 μ2 L r0 v0 y0 acc av, v = .ref L ∧ rows = .lst y0 :: acc ∧ Ext F μ S F2 μ2 S' ∧ Rel K F2 (upd (upd G r0 (.lst v0)) L (.lst (.ref r0 :: av))) μ2 S' H' ∧ RepL K F2 y0 v0 ∧ RepL K F2 acc av ∧ G r0 = none ∧ G L = none ∧ r0 ≠ L
section
variable {X : Cx} {g : Ev} {ρ : Env} {S S' : Store} {x : E} {F G : Hp} {μ : Nat → Addr} {σ : L2.St} {H : Hp} {P : Prm} {k : Nat} {N : List Str} {sc s0 : Scope} {e : Expr}
theorem t_grid (gd : Good P k N sc s0 X) {gk : Scope → Scope → Ck1} (h : SndX X g (gk sc s0)) (hk : ∀ sc s0 t e, gk sc s0 t e = true → okHead e = true)
    (hB : ∀ scope, Blks X scope fun Y => SndX Y g (gk (relS scope sc) scope) ∧ SndF Y g (gk (relS scope sc) scope)) {elt : Tm} {tg : Tg} {ik : IK} {its : List Tm} {own : List Nat} (hfr : isFresh elt = true) (c : ckLc P N gk sc s0 elt tg ik its [] own e = true)
    {p : List E × Store} (ga : evs g its ρ S = some p) {ds : List D} (hw : walked p.2 ik p.1 = some ds) {q : List D × Store} (ht : turns g elt tg [] own ρ ds [] p.2 = some q) (hne : ds ≠ []) (R : Rel X.K F G μ S H) (RE : RelEnv X.K F μ S ρ σ) :
    LcR X e σ H (EndG X.K F G μ S q.1 q.2) := by
  unfold ckLc at c
  split at c
  · rename_i eE tgE itE ifE scope pos
    obtain ⟨c, c6⟩ := and2 c
    obtain ⟨c, c5⟩ := and2 c
    obtain ⟨c, c4⟩ := and2 c
    obtain ⟨c, c3⟩ := and2 c
    obtain ⟨c1, c2⟩ := and2 c
    have hN : X.N.Nodup := by
      rw [gd.hN]
      exact gd.nd
    have blk : BlkOk X.N X.env.scope scope (own.map fun i => (N.getD i default, i)) := by
      rw [gd.hN, gd.hsc]
      exact blkOk_by c2
    have eown : (own.map fun i => (N.getD i default, i)).map (·.2) = own := by
      rw [List.map_map]
      exact List.map_id own
    have eif : ifE = [] := by
      cases ifE with
      | nil => rfl
      | cons a b => cases c5
    subst eif
    refine ⟨eE, tgE, itE, [], scope, own.map fun i => (N.getD i default, i), pos, _, _, _, _, rfl, pi_sem, blk, (fun s H C cl fp => show PG _ _ (gT X.K tg) from pg_of (sto_of (good_blk gd scope s H C cl fp)) c3), (fun _ _ _ _ _ => pts_nil), pe_semB, folded_of (chkI_head c1), fun Q hQ => ?_⟩
    rw [eown]
    refine semI_mono (s_iter (G := G) gd h (hk sc s0) c1 ga hw R RE) fun J H1 ⟨F1, μ1, e1, R1, wk⟩ => ?_
    intro L hL
    have hG : G L = none := R1.freeG hL
    refine ⟨fun i m H' => m = ds.length - i ∧ i ≤ ds.length ∧ ((i = 0 ∧ LcZ X.K F G μ S g elt tg own ρ F1 ds q L H') ∨ (0 < i ∧ LcG X.K F G μ S g elt tg own ρ F1 ds q L i H')), ⟨_, rfl, Nat.zero_le _, .inl ⟨rfl, F1, μ1, p.2, e1, R1.lay hL, Sub.refl _, ht⟩⟩, ?_⟩
    rintro i m H2 ⟨rfl, hi, hI⟩
    rcases hI with ⟨rfl, F2, μ2, S2, e2, R2, sb, ht2⟩ | ⟨hpos, F2, μ2, S2, r0, v0, y0, acc, av, e2, R2, ry, ra, sb, g0, nL, ht2⟩
    · obtain ⟨w1, w2⟩ := wk F2 _ μ2 S2 H2 0 sb R2
      cases ds with
      | nil => exact absurd rfl hne
      | cons d0 dr =>
        obtain ⟨go, yl⟩ := w1 d0 rfl
        obtain ⟨ρ1, b1, ht2⟩ := bind_some_out ht2
        obtain ⟨b, b2, ht2⟩ := bind_some_out ht2
        cases b2
        refine .inr ⟨go, LcG X.K F G μ S g elt tg own ρ F1 (d0 :: dr) q L 1, fun H' hH => ⟨(d0 :: dr).length - 1, by rw [List.length_cons]; omega, rfl, by rw [List.length_cons]; omega, .inr ⟨Nat.succ_pos _, hH⟩⟩, fun v H3 hy => ?_⟩
        obtain ⟨F3, e3, R3, rv⟩ := yl v H3 hy
        have e23 := e2.trans e3
        refine bind_ok R3 b1 rv ((RE.mono e23).wipe own) fun σ2 RE2 hwp => ⟨(hwp 5 own c4).trans wipe_wipe, ?_⟩
        unfold tYes
        simp only [if_true] at ht2 ⊢
        obtain ⟨pe, g1, ht2⟩ := bind_some_out ht2
        obtain ⟨y, hy2, ht2⟩ := bind_some_out ht2
        split at ht2
        · rename_i hz
          intro s H C cl fp
          obtain ⟨pe1, pe2⟩ := pe
          obtain ⟨y0, ey, hfx⟩ := (hB scope s H C cl fp).2 elt eE hfr c6 ρ1 S2 pe1 pe2 g1 F3 _ μ2 σ2 H3 R3 RE2
          subst ey
          cases hy2
          refine sem_mono hfx fun u H5 ⟨F5, μ5, H0, e5, R5, r0, v0, hr0, rl, eu, eH⟩ => ?_
          subst eu eH
          have nL : r0 ≠ L := fun z => by
            have := R5.gr L _ upd_same
            rw [← z, hr0] at this
            cases this
          have g0 : G r0 = none := by
            have := R5.freeG hr0
            rw [upd_ne nL] at this
            exact this
          have RL := R5.lay (o := .lst v0) hr0
          rw [upd_comm nL.symm] at RL
          refine ⟨[], by rw [upd_ne nL.symm]; exact R5.gr _ _ upd_same, by show 0 < sizeLine; rw [sizeLine_eq]; omega, ?_⟩
          exact ⟨F5, μ5, pe2, r0, v0, y0, [], [], e23.trans e5, RL.grow, rl, .nil, (sb.trans e3.f).trans e5.f, g0, nL, ht2⟩
        · cases ht2
    · obtain ⟨w1, w2⟩ := wk F2 _ μ2 S2 H2 i sb R2
      by_cases hlt : i < ds.length
      · obtain ⟨go, yl⟩ := w1 ds[i] (List.getElem?_eq_getElem hlt)
        rw [List.drop_eq_getElem_cons hlt] at ht2
        obtain ⟨ρ1, b1, ht2⟩ := bind_some_out ht2
        obtain ⟨b, b2, ht2⟩ := bind_some_out ht2
        cases b2
        refine .inr ⟨go, LcG X.K F G μ S g elt tg own ρ F1 ds q L (i + 1), fun H' hH => ⟨ds.length - (i + 1), by omega, rfl, hlt, .inr ⟨Nat.succ_pos _, hH⟩⟩, fun v H3 hy => ?_⟩
        obtain ⟨F3, e3, R3, rv⟩ := yl v H3 hy
        have e23 := e2.trans e3
        refine bind_ok R3 b1 rv ((RE.mono e23).wipe own) fun σ2 RE2 hwp => ⟨(hwp 5 own c4).trans wipe_wipe, ?_⟩
        unfold tYes
        simp only [if_true] at ht2 ⊢
        obtain ⟨pe, g1, ht2⟩ := bind_some_out ht2
        obtain ⟨y, hy2, ht2⟩ := bind_some_out ht2
        split at ht2
        · rename_i hz
          intro s H C cl fp
          refine sem_mono ((hB scope s H C cl fp).1 elt eE c6 ρ1 S2 pe.1 pe.2 g1 F3 _ μ2 σ2 H3 R3 RE2) fun u H5 ⟨F5, μ5, e5, R5, r5⟩ => ?_
          rw [asD_out hy2] at r5
          have e35 := e3.trans e5
          refine ⟨.ref r0 :: av, R5.gr _ _ upd_same, fits_lt (by rw [List.length_cons, ← ra.length]; exact hz), ?_⟩
          exact ⟨F5, μ5, pe.2, r0, v0, y0, acc ++ [y], av ++ [u], e23.trans e5, R5.grow, ry.mono e35.f, (ra.mono e35.f).append (.cons r5 .nil), sb.trans e35.f, g0, nL, ht2⟩
        · cases ht2
      · have ei : i = ds.length := by omega
        refine .inl ⟨w2 ei.symm, ?_⟩
        rw [ei, List.drop_length] at ht2
        have ht3 : some (D.lst y0 :: acc, S2) = some q := ht2
        cases ht3
        exact hQ _ _ ⟨F2, μ2, L, r0, v0, y0, acc, av, rfl, rfl, e2, R2, ry, ra, g0, hG, nL⟩
  · cases c
end
end DL
end

section
set_option autoImplicit false
set_option linter.all false
/-! The two statements of a grid. -/
namespace DL
open PySem PySem.Spec PyProof.Rows L2

section
variable {X : Cx} {P : Prm} {k : Nat} {N : List Str} {sc : Scope}
theorem cst_pe {v : D} {c : Const} {j : Nat} {pos : Pos} (h : cstIs v c = true) : ∃ xv : V, PE X (.Constant c j pos) (tC xv) ∧ ∀ F, RepP X.K F v xv := by
  unfold cstIs at h
  split at h
  · exact ⟨_, pe_non, fun _ => .non⟩
  · rw [eq_of_beq h]
    exact ⟨_, pe_bl, fun _ => .bl _⟩
  · rw [of_decide_eq_true h]
    exact ⟨_, pe_int, fun _ => .int _⟩
  · rw [of_decide_eq_true h]
    exact ⟨_, pe_str, fun _ => .str _⟩
  · cases h
theorem gridLc_out {a : Tm} (h : isGridLc a = true) : ∃ elt tg ik its own, a = .lc elt tg ik its [] own ∧ isFresh elt = true := by
  cases a with
  | lc elt tg ik its ifs own =>
    cases ifs with
    | nil => exact ⟨elt, tg, ik, its, own, rfl, h⟩
    | cons _ _ => cases h
  | _ => cases h
theorem sndG (gd : Good P k N sc sc X) : ∀ n, SndG X (ex (callD P.T k) n) (chkG2 P N sc (chkE P N fuelK sc sc))
  | 0 => fun s st st2 c ρ S o S' he => by cases he
  | n + 1 => fun s st st2 c ρ S o S' he F G μ σ H R RE => by
    unfold chkG2 at c
    split at c
    · rename_i i a v x px ve pos y py z1 j1 p1 sp1 z2 j2 p2 sp2 cc j3 p3 pos2
      obtain ⟨c, c10⟩ := and2 c
      obtain ⟨c, c9⟩ := and2 c
      obtain ⟨c, c8⟩ := and2 c
      obtain ⟨c, c7⟩ := and2 c
      obtain ⟨c, c6⟩ := and2 c
      obtain ⟨c, c5⟩ := and2 c
      obtain ⟨c, c4⟩ := and2 c
      obtain ⟨c, c3⟩ := and2 c
      obtain ⟨c1, c2⟩ := and2 c
      have ey := of_decide_eq_true c2
      have ez1 := of_decide_eq_true c6
      have ez2 := of_decide_eq_true c7
      subst ey ez1 ez2
      unfold ex at he
      obtain ⟨pp, hp, he⟩ := bind_some_out he
      obtain ⟨elt, tg, ik, its, own, ea, c9⟩ := gridLc_out c9
      subst ea
      · have c10' : chkE P N (59 + 1) sc sc (.lc elt tg ik its [] own) ve = true := c10
        unfold chkE at c10'
        obtain ⟨c0, c11⟩ := and2 c10'
        have hp' : ev (callD P.T k) (39 + 1) (.lc elt tg ik its [] own) ρ S = some pp := hp
        unfold ev at hp'
        obtain ⟨pe, ga, hp'⟩ := bind_some_out hp'
        obtain ⟨ds, hw, hp'⟩ := bind_some_out hp'
        obtain ⟨q, ht, hp'⟩ := bind_some_out hp'
        cases hp'
        simp only at he
        split at he
        · rename_i y1 ys r hq1
          have hrows : q.1 = .lst (y1 :: ys) :: r := by
            injection hq1 with hq2
            injection hq2 with hq3
          split at he
          · rename_i hil
            cases he
            have hne : ds ≠ [] := fun z => by
              subst z
              have ht2 : some (([] : List D), pe.2) = some q := ht
              cases ht2
              cases hrows
            have lc := t_grid (gk := chkE P N 59) gd (all_at 39 59 sc sc X gd).1 (fun _ _ _ _ => chkE_head) (fun scope s H C cl fp => by
              have z := all_at (P := P) (k := k) (N := N) 39 59 (relS scope sc) scope _ (good_blk gd scope s H C cl fp)
              exact ⟨z.1, z.2.1⟩) c9 c11 ga hw ht hne R RE
            refine ⟨_, rfl, fun es D hq => to_semSs (pss_cons ps_sem (pss_cons ps_sem pss_sem)) ?_⟩
            refine asg_LcR gd (of_decide_eq_true c1) c3 lc _ fun vv H' ⟨F2, μ2, L, r0, v0, y0, acc, av, ev, erows, e2, R2, ry, ra, g0, gL, nL⟩ => ?_
            subst ev
            rw [hrows] at erows
            cases erows
            cases ry with
            | @cons _ _ w0 ws rw0 rws =>
              obtain ⟨xv, hpe, hrep⟩ := cst_pe (X := X) (j := j3) (pos := p3) c8
              obtain ⟨k1, k2, k3⟩ := okName_of c5
              have hiN : X.N[i]? = some y := by
                rw [gd.hN]
                exact of_decide_eq_true c1
              have sw : ∀ l, swapsWithSole [.Subscript (.Subscript (.Name y py) (.Constant (.int 0) j1 p1) sp1) (.Constant (.int 0) j2 p2) sp2] (.Constant cc j3 p3) l X.env = pure false := fun l => rfl
              refine to_semS (ps_asg hpe (pg_sub (pe_ix ix_list (pe_var hiN (by rw [gd.hsc]; exact vis_of c4) k1 k2) pe_int (fun _ _ => rfl)) pe_int set_list (fun v => rfl)) (sw _) rfl rfl) ?_
              have hlen : i < σ.length := by
                rw [← RE.len]
                exact hil
              refine ⟨.ref L, List.getElem?_set_self hlen, L, .ref r0 :: av, 0, .ref r0, rfl, rfl, .of (R2.gr _ _ upd_same), atI_nat (j := 0) rfl, r0, w0 :: ws, 0, 0, rfl, rfl, R2.gr _ _ (by rw [upd_ne nL]; exact upd_same), (by unfold ixN; rw [if_pos (by decide), if_pos (by rw [List.length_cons]; omega)]; rfl), ?_⟩
              rw [upd_comm nL] at R2
              have R3 := R2.grow (o' := .lst (xv :: ws))
              obtain ⟨F3, e3, R4, q3⟩ := R3.shutG (by rw [upd_ne nL]; exact g0) (xs := v :: ys) (.cons (hrep F2) rws)
              obtain ⟨F4, e4, R5, q4⟩ := R4.shutG gL (xs := .lst (v :: ys) :: r) (.cons q3 (ra.mono e3.f))
              have eAll := (e2.trans e3).trans e4
              exact hq F4 μ2 _ _ eAll R5 ((RE.mono eAll).set (x := .d (.lst (.lst (v :: ys) :: r))) q4 i)
          · cases he
        · cases he
    · cases c
end
end DL
end

section
set_option autoImplicit false
set_option linter.all false
/-! All statements, by the fuel. -/
namespace DL
open PySem PySem.Spec PyProof.Rows L2

section
variable {X : Cx} {P : Prm} {k : Nat} {N : List Str} {sc : Scope} {n m : Nat} {ρ : Env} {S S' : Store} {F G : Hp} {μ : Nat → Addr} {σ : L2.St} {H : Hp}
theorem st_par (gd : Good P k N sc sc X) {i j : Nat} {x y : Str} {px py pt pt2 pos : Pos} {kt k2 : Nat} {a b : Tm} {ea eb : Expr} (c1 : N[i]? = some x) (c2 : N[j]? = some y) (c3 : i ≠ j) (c4 : parC sc x y px py ea eb = true) (c5 : chkE P N m sc sc a ea = true) (c6 : chkE P N m sc sc b eb = true) {p q : E × Store} (hp : ev (callD P.T k) n a ρ S = some p) (hq : ev (callD P.T k) n b ρ p.2 = some q)
    (R : Rel X.K F G μ S H) (RE : RelEnv X.K F μ S ρ σ) (D : Ends) (g : Got X.K F G μ S (.nx ((ρ.set i (some p.1)).set j (some q.1))) q.2 D) : semS X (.Assign [.Tuple [.Name x px, .Name y py] kt pt] (.Tuple [ea, eb] k2 pt2) pos) D σ H := by
  have A := (all_at (P := P) (k := k) (N := N) n m sc sc X gd).1
  have ha := chkE_head c5
  have hb := chkE_head c6
  rw [← gd.hsc] at c4
  intro pins s I
  have c4' := c4
  obtain ⟨c4', _⟩ := and2 c4'
  obtain ⟨c4', _⟩ := and2 c4'
  obtain ⟨c4', _⟩ := and2 c4'
  obtain ⟨c4', _⟩ := and2 c4'
  obtain ⟨l1, l2⟩ := and2 c4'
  refine (ps_par gd.calm (by rw [gd.hN]; exact gd.nd) (by rw [gd.hN]; exact c1) (by rw [gd.hN]; exact c2) c3 (isLoc_iff l1) (isLoc_iff l2) (pa_cons pe_sem (pa_cons pe_sem pa_nil (star_of hb)) (star_of ha)) (sw2_of c4 I.ok.kind ha hb)).run pins s σ H D I ?_
  refine sem_mono (A a ea c5 ρ S p.1 p.2 hp F G μ σ H R RE) fun v H1 ⟨F1, μ1, e1, R1, r1⟩ => ?_
  refine sem_mono (A b eb c6 ρ p.2 q.1 q.2 hq F1 G μ1 σ H1 R1 (RE.mono e1)) fun w H2 ⟨F2, μ2, e2, R2, r2⟩ => ?_
  have e12 := e1.trans e2
  exact ⟨v, w, rfl, g F2 μ2 _ H2 e12 R2 (((RE.mono e12).set (r1.mono e2) i).set r2 j)⟩
theorem st_par3 (gd : Good P k N sc sc X) {i j l : Nat} {x y z : Str} {px py pz pt pt2 pos : Pos} {kt k2 : Nat} {a b d : Tm} {ea eb ed : Expr} (c1 : N[i]? = some x) (c2 : N[j]? = some y) (c3 : N[l]? = some z) (c4 : i ≠ j) (c5 : i ≠ l) (c6 : j ≠ l) (c7 : par3C sc x y z px py pz ea eb ed = true) (c8 : chkE P N m sc sc a ea = true) (c9 : chkE P N m sc sc b eb = true) (c0 : chkE P N m sc sc d ed = true) {p q r : E × Store} (hp : ev (callD P.T k) n a ρ S = some p) (hq : ev (callD P.T k) n b ρ p.2 = some q) (hr : ev (callD P.T k) n d ρ q.2 = some r)
    (R : Rel X.K F G μ S H) (RE : RelEnv X.K F μ S ρ σ) (D : Ends) (g : Got X.K F G μ S (.nx (((ρ.set i (some p.1)).set j (some q.1)).set l (some r.1))) r.2 D) : semS X (.Assign [.Tuple [.Name x px, .Name y py, .Name z pz] kt pt] (.Tuple [ea, eb, ed] k2 pt2) pos) D σ H := by
  have A := (all_at (P := P) (k := k) (N := N) n m sc sc X gd).1
  have ha := chkE_head c8
  have hb := chkE_head c9
  have hd := chkE_head c0
  rw [← gd.hsc] at c7
  intro pins s I
  have c7' := c7
  obtain ⟨c7', _⟩ := and2 c7'
  obtain ⟨c7', _⟩ := and2 c7'
  obtain ⟨c7', _⟩ := and2 c7'
  obtain ⟨c7', _⟩ := and2 c7'
  obtain ⟨c7', _⟩ := and2 c7'
  obtain ⟨c7', _⟩ := and2 c7'
  obtain ⟨c7', _⟩ := and2 c7'
  obtain ⟨c7', l3⟩ := and2 c7'
  obtain ⟨l1, l2⟩ := and2 c7'
  refine (ps_par3 gd.calm (by rw [gd.hN]; exact gd.nd) (by rw [gd.hN]; exact c1) (by rw [gd.hN]; exact c2) (by rw [gd.hN]; exact c3) c4 c5 c6 (isLoc_iff l1) (isLoc_iff l2) (isLoc_iff l3) (pa_cons pe_sem (pa_cons pe_sem (pa_cons pe_sem pa_nil (star_of hd)) (star_of hb)) (star_of ha)) (sw3_of c7 I.ok.kind ha hb hd)).run pins s σ H D I ?_
  refine sem_mono (A a ea c8 ρ S p.1 p.2 hp F G μ σ H R RE) fun v H1 ⟨F1, μ1, e1, R1, r1⟩ => ?_
  refine sem_mono (A b eb c9 ρ p.2 q.1 q.2 hq F1 G μ1 σ H1 R1 (RE.mono e1)) fun w H2 ⟨F2, μ2, e2, R2, r2⟩ => ?_
  have e12 := e1.trans e2
  refine sem_mono (A d ed c0 ρ q.2 r.1 r.2 hr F2 G μ2 σ H2 R2 (RE.mono e12)) fun u H3 ⟨F3, μ3, e3, R3, r3⟩ => ?_
  have e123 := e12.trans e3
  exact ⟨v, w, u, rfl, g F3 μ3 _ H3 e123 R3 ((((RE.mono e123).set (r1.mono (e2.trans e3)) i).set (r2.mono e3) j).set r3 l)⟩
theorem st_if (gd : Good P k N sc sc X) {c : Tm} {a b : List Stm} {ec : Expr} {ea eb : List Stmt} {pos : Pos} {g : Ex} {ck : CkS} {ck2 : Stm → Stmt → Stmt → Bool} (h : SndS X g ck) (h2 : SndG X g ck2) (hf : FrzOk g) (c1 : chkT (chkE P N m sc sc) 20 c ec = true) (c2 : chkL ck ck2 a ea = true) (c3 : chkL ck ck2 b eb = true) {p : E × Store} (hp : ev (callD P.T k) n c ρ S = some p) {b0 : Bool} (hb : isTrueD p.1 = some b0) {o : Out} (he : (if b0 = true then exs g a ρ p.2 else exs g b ρ p.2) = some (o, S'))
    (R : Rel X.K F G μ S H) (RE : RelEnv X.K F μ S ρ σ) (D : Ends) (q : Got X.K F G μ S o S' D) : semS X (.If ec ea eb pos) D σ H := by
  refine to_semS (ps_if pt_sem pss_sem pss_sem) ?_
  refine semT_mono ((all_at n m sc sc X gd).2.2 20 c ec c1 ρ S p.1 p.2 b0 hp hb F G μ σ H R RE).1 fun v H1 ⟨ev, F1, μ1, e1, R1⟩ => ?_
  subst ev
  cases v with
  | true => exact sndL h h2 hf a ea c2 ρ p.2 o S' he F1 G μ1 σ H1 R1 (RE.mono e1) D (q.trans e1)
  | false => exact sndL h h2 hf b eb c3 ρ p.2 o S' he F1 G μ1 σ H1 R1 (RE.mono e1) D (q.trans e1)
theorem st_for (gd : Good P k N sc sc X) {t : Tg} {ik : IK} {its : List Tm} {body : List Stm} {tgE itE : Expr} {bE : List Stmt} {pos : Pos} {g : Ex} {ck : CkS} {ck2 : Stm → Stmt → Stmt → Bool} (h : SndS X g ck) (h2 : SndG X g ck2) (hf : FrzOk g) (c1 : chkI P (chkE P N m sc sc) sc tgE ik its itE = true) (c2 : chkG N sc sc t tgE = true) (c3 : chkL ck ck2 body bE = true) {p : List E × Store} (hp : evs (ev (callD P.T k) n) its ρ S = some p) {ds : List D} (hw : walked p.2 ik p.1 = some ds) {o : Out} (he : forL g t body ds ρ p.2 = some (o, S'))
    (R : Rel X.K F G μ S H) (RE : RelEnv X.K F μ S ρ σ) (D : Ends) (q : Got X.K F G μ S o S' D) : semS X (.For tgE itE bE [] pos) D σ H := by
  refine to_semS (ps_for gd.pass gd.calm pi_sem (pg_of (sto_of gd) c2) pss_sem (folded_of (chkI_head c1))) ?_
  refine semI_mono (s_iter (G := G) gd (all_at n m sc sc X gd).1 (fun _ _ => chkE_head) c1 hp hw R RE) fun J H1 ⟨F1, μ1, e1, R1, wk⟩ => ?_
  refine ⟨fun i mm σ2 H2 => mm = ds.length - i ∧ i ≤ ds.length ∧ ∃ F2 μ2 S2 ρ2, Ext F μ S F2 μ2 S2 ∧ Rel X.K F2 G μ2 S2 H2 ∧ RelEnv X.K F2 μ2 S2 ρ2 σ2 ∧ Sub F1 F2 ∧ forL g t body (ds.drop i) ρ2 S2 = some (o, S'), ⟨_, rfl, Nat.zero_le _, F1, μ1, p.2, ρ, e1, R1, RE.mono e1, Sub.refl _, by rw [List.drop_zero]; exact he⟩, ?_⟩
  rintro i mm σ2 H2 ⟨rfl, hi, F2, μ2, S2, ρ2, e2, R2, RE2, sb, ht⟩
  obtain ⟨w1, w2⟩ := wk F2 _ μ2 S2 H2 i sb R2
  by_cases hlt : i < ds.length
  · obtain ⟨go, yl⟩ := w1 ds[i] (List.getElem?_eq_getElem hlt)
    rw [List.drop_eq_getElem_cons hlt] at ht
    obtain ⟨ρ3, b1, ht⟩ := bind_some_out ht
    obtain ⟨r, hr, ht⟩ := bind_some_out ht
    refine .inr ⟨go, fun σ' H' => ∃ F3 μ3 S3 ρ4, Ext F μ S F3 μ3 S3 ∧ Rel X.K F3 G μ3 S3 H' ∧ RelEnv X.K F3 μ3 S3 ρ4 σ' ∧ Sub F1 F3 ∧ forL g t body (ds.drop (i + 1)) ρ4 S3 = some (o, S'), fun σ' H' hN => ⟨ds.length - (i + 1), by omega, rfl, hlt, hN⟩, fun v H3 hy => ?_⟩
    obtain ⟨F3, e3, R3, rv⟩ := yl v H3 hy
    have e23 := e2.trans e3
    refine bind_ok R3 b1 rv (RE2.mono e3) fun σ3 RE3 _ => ?_
    refine sndL h h2 hf body bE c3 ρ3 S2 r.1 r.2 hr F3 G μ2 σ3 H3 R3 RE3 _ ?_
    obtain ⟨r1, r2⟩ := r
    cases r1 with
    | nx ρ4 => exact fun F4 μ4 σ4 H4 e4 R4 RE4 => ⟨F4, μ4, r2, ρ4, e23.trans e4, R4, RE4, (sb.trans e3.f).trans e4.f, ht⟩
    | ret x =>
      have ht2 : some (Out.ret x, r2) = some (o, S') := ht
      cases ht2
      exact fun v H4 l => q v H4 (l.trans e23)
  · have ei : i = ds.length := by omega
    refine .inl ⟨w2 (by omega), ?_⟩
    rw [ei, List.drop_length] at ht
    have ht2 : some (Out.nx ρ2, S2) = some (o, S') := ht
    cases ht2
    exact q F2 μ2 σ2 H2 e2 R2 RE2
theorem st_while (gd : Good P k N sc sc X) {c : Tm} {body : List Stm} {ec : Expr} {bE : List Stmt} {pos : Pos} {g : Ex} {ck : CkS} {ck2 : Stm → Stmt → Stmt → Bool} (h : SndS X g ck) (h2 : SndG X g ck2) (hf : FrzOk g) (c1 : chkT (chkE P N m sc sc) 20 c ec = true) (c3 : chkL ck ck2 body bE = true) {w : Nat} {o : Out} (he : whileL (ev (callD P.T k) n) g c body w ρ S = some (o, S'))
    (R : Rel X.K F G μ S H) (RE : RelEnv X.K F μ S ρ σ) (D : Ends) (q : Got X.K F G μ S o S' D) : semS X (.While ec bE [] pos) D σ H := by
  refine to_semS (ps_while gd.pass pt_sem pss_sem) ?_
  refine ⟨fun w σ2 H2 => ∃ F2 μ2 S2 ρ2, Ext F μ S F2 μ2 S2 ∧ Rel X.K F2 G μ2 S2 H2 ∧ RelEnv X.K F2 μ2 S2 ρ2 σ2 ∧ whileL (ev (callD P.T k) n) g c body w ρ2 S2 = some (o, S'), ⟨w, F, μ, S, ρ, Ext.refl _ _ _, R, RE, he⟩, ?_⟩
  rintro w σ2 H2 ⟨F2, μ2, S2, ρ2, e2, R2, RE2, he⟩
  cases w with
  | zero => cases he
  | succ w =>
    obtain ⟨p, hp, he⟩ := bind_some_out (a := ev (callD P.T k) n c ρ2 S2) he
    obtain ⟨b0, hb, he⟩ := bind_some_out he
    refine semT_mono ((all_at n m sc sc X gd).2.2 20 c ec c1 ρ2 S2 p.1 p.2 b0 hp hb F2 G μ2 σ2 H2 R2 RE2).1 fun v H3 ⟨ev, F3, μ3, e3, R3⟩ => ?_
    subst ev
    have e23 := e2.trans e3
    cases v with
    | true =>
      obtain ⟨r, hr, he⟩ := bind_some_out (a := exs g body ρ2 p.2) he
      rw [if_pos rfl]
      refine ⟨fun σ' H' => ∃ F4 μ4 S4 ρ4, Ext F μ S F4 μ4 S4 ∧ Rel X.K F4 G μ4 S4 H' ∧ RelEnv X.K F4 μ4 S4 ρ4 σ' ∧ whileL (DL.ev (callD P.T k) n) g c body w ρ4 S4 = some (o, S'), fun σ' H' hN => ⟨w, Nat.lt_succ_self _, hN⟩, ?_⟩
      refine sndL h h2 hf body bE c3 ρ2 p.2 r.1 r.2 hr F3 G μ3 σ2 H3 R3 (RE2.mono e3) _ ?_
      obtain ⟨r1, r2⟩ := r
      cases r1 with
      | nx ρ4 => exact fun F4 μ4 σ4 H4 e4 R4 RE4 => ⟨F4, μ4, r2, ρ4, e23.trans e4, R4, RE4, he⟩
      | ret x =>
        have ht2 : some (Out.ret x, r2) = some (o, S') := he
        cases ht2
        exact fun v H4 l => q v H4 (l.trans e23)
    | false =>
      have ht2 : some (Out.nx ρ2, p.2) = some (o, S') := he
      cases ht2
      rw [if_neg Bool.false_ne_true]
      exact q F3 μ3 σ2 H3 e23 R3 (RE2.mono e3)
theorem nm_ne {i j : Nat} (h : (!(i == j)) = true) : i ≠ j := beq_f h
theorem stepS (gd : Good P k N sc sc X) {n : Nat} (ih : ∀ m, SndS X (ex (callD P.T k) n) (chkS P N sc m)) (m : Nat) : SndS X (ex (callD P.T k) (n + 1)) (chkS P N sc m) := by
  intro s st c ρ S o S' he F G μ σ H R RE D q
  cases m with
  | zero => cases c
  | succ m =>
    have h := ih m
    have hf := frzOk (C := callD P.T k) n
    unfold ex at he
    unfold chkS at c
    split at c
    · obtain ⟨c, c3⟩ := and2 c
      obtain ⟨c1, c2⟩ := and2 c
      obtain ⟨p, hp, he⟩ := bind_some_out he
      simp only at he
      split at he
      · cases he
        exact st_asg gd (of_decide_eq_true c1) c2 c3 hp R RE D q
      · cases he
    · obtain ⟨c, c4⟩ := and2 c
      obtain ⟨c, c3⟩ := and2 c
      obtain ⟨c1, c2⟩ := and2 c
      obtain ⟨p, hp, he⟩ := bind_some_out he
      simp only at he
      obtain ⟨d, hd, he⟩ := bind_some_out he
      obtain ⟨ρ1, hb, he⟩ := bind_some_out he
      cases he
      exact st_asgT gd c1 c2 c3 c4 hp hd hb R RE D q
    · obtain ⟨c, c6⟩ := and2 c
      obtain ⟨c, c5⟩ := and2 c
      obtain ⟨c, c4⟩ := and2 c
      obtain ⟨c, c3⟩ := and2 c
      obtain ⟨c1, c2⟩ := and2 c
      obtain ⟨p, hp, he⟩ := bind_some_out he
      obtain ⟨r, hr, he⟩ := bind_some_out he
      split at he
      · cases he
        exact st_par gd (of_decide_eq_true c1) (of_decide_eq_true c2) (nm_ne c3) c4 c5 c6 hp hr R RE D q
      · cases he
    · obtain ⟨c, c10⟩ := and2 c
      obtain ⟨c, c9⟩ := and2 c
      obtain ⟨c, c8⟩ := and2 c
      obtain ⟨c, c7⟩ := and2 c
      obtain ⟨c, c6⟩ := and2 c
      obtain ⟨c, c5⟩ := and2 c
      obtain ⟨c, c4⟩ := and2 c
      obtain ⟨c, c3⟩ := and2 c
      obtain ⟨c1, c2⟩ := and2 c
      obtain ⟨p, hp, he⟩ := bind_some_out he
      obtain ⟨r, hr, he⟩ := bind_some_out he
      obtain ⟨r3, hr3, he⟩ := bind_some_out he
      split at he
      · cases he
        exact st_par3 gd (of_decide_eq_true c1) (of_decide_eq_true c2) (of_decide_eq_true c3) (nm_ne c4) (nm_ne c5) (nm_ne c6) c7 c8 c9 c10 hp hr hr3 R RE D q
      · cases he
    · obtain ⟨c, c3⟩ := and2 c
      obtain ⟨c1, c2⟩ := and2 c
      obtain ⟨p, hp, he⟩ := bind_some_out he
      obtain ⟨q1, hq, he⟩ := bind_some_out he
      obtain ⟨r, hr, he⟩ := bind_some_out he
      obtain ⟨x, hx, he⟩ := bind_some_out he
      obtain ⟨y, hy, he⟩ := bind_some_out he
      obtain ⟨kk, hk, he⟩ := bind_some_out he
      split at he
      · rename_i mm hm
        split at he
        · rename_i xs hs
          obtain ⟨j, hj, he⟩ := bind_some_out he
          cases he
          exact st_setI gd c1 c2 c3 hp hq hr hx (by rw [asD_out hy, asI_out hk]) hm hs hj R RE D q
        · cases he
      · cases he
    · obtain ⟨c1, c2⟩ := and2 c
      obtain ⟨p, hp, he⟩ := bind_some_out he
      cases he
      exact to_semS (ps_expr pe_sem (swaps_of c2)) (sem_mono ((all_at fuelE fuelK sc sc X gd).1 _ _ c1 ρ S p.1 p.2 hp F G μ σ H R RE) fun v H1 ⟨F1, μ1, e1, R1, r1⟩ => q F1 μ1 σ H1 e1 R1 (RE.mono e1))
    · obtain ⟨c, c3⟩ := and2 c
      obtain ⟨c1, c2⟩ := and2 c
      obtain ⟨p, hp, he⟩ := bind_some_out he
      obtain ⟨b0, hb, he⟩ := bind_some_out he
      exact st_if gd h (sndG gd n) hf c1 c2 c3 hp hb he R RE D q
    · obtain ⟨c, c3⟩ := and2 c
      obtain ⟨c1, c2⟩ := and2 c
      obtain ⟨p, hp, he⟩ := bind_some_out he
      obtain ⟨ds, hw, he⟩ := bind_some_out he
      exact st_for gd h (sndG gd n) hf c1 c2 c3 hp hw he R RE D q
    · obtain ⟨c1, c2⟩ := and2 c
      exact st_while gd h (sndG gd n) hf c1 c2 he R RE D q
    · obtain ⟨p, hp, he⟩ := bind_some_out he
      cases he
      exact to_semS (ps_ret pe_sem) (sem_mono ((all_at fuelE fuelK sc sc X gd).1 _ _ c ρ S p.1 p.2 hp F G μ σ H R RE) fun v H1 l => q v H1 l)
    · cases he
      exact to_semS ps_pass (q F μ σ H (Ext.refl _ _ _) R RE)
    · cases he
    · cases c
theorem all_st (gd : Good P k N sc sc X) : ∀ n m, SndS X (ex (callD P.T k) n) (chkS P N sc m)
  | 0, m => fun s st c ρ S o S' he => by cases he
  | n + 1, m => stepS gd (all_st gd n) m
end
end DL
end

section
set_option autoImplicit false
set_option linter.all false
/-! Defs keep their promises; the law's end. -/
namespace DL
open PySem PySem.Spec PyProof.Rows L2

theorem deeper_guards {A : Around} {env : PySem.Env} (h : A.guards = some []) : (A.deeper env).guards = some [] := by
  first
    | exact h
    | simpa [Around.deeper, Around.under] using h
section
variable {P : Program} {w : World} {K : PySem.W.Frag} {mg : Str → Option Value} {base : Heap}
/-- a def of the text at its object -/
structure DefAt (K : PySem.W.Frag) (mg : Str → Option Value) (fn : Fn) (st : Stmt) : Prop where
  at_ : ∃ fa fd, Fun K fn.name fn.name st fa fd ∧ mg fn.name = some (.ref fa)
  sc : FnScope fn.N fn.ps (defScope st)
  bp : ∀ (kV doc pm : Value) (an : Option Addr) (cdv ct : Value) (us : List Value), us.length = fn.ps.length → bindArgs (PySem.W.fnOf fn.name fn.name (defArgs st) (defBody st) (defScope st) .none kV doc pm an cdv ct) ⟨us, []⟩ = pure (fn.ps.zip us)
  bk : ∀ (kV doc pm : Value) (an : Option Addr) (cdv ct : Value) (us : List Value), us.length = fn.ps.length → bindArgs (PySem.W.fnOf fn.name fn.name (defArgs st) (defBody st) (defScope st) .none kV doc pm an cdv ct) ⟨[], fn.ps.zip us⟩ = pure (fn.ps.zip us)
theorem DefAt.fnF {fn : Fn} {st : Stmt} (d : DefAt K mg fn st) : ∃ fa fd, Fun K fn.name fn.name st fa fd ∧ FnF K mg fn fa fd := by
  obtain ⟨fa, fd, F, hm⟩ := d.at_
  obtain ⟨oc, od, kV, doc, pm, an, cdv, ct, osl, e, lk, hcd⟩ := F.ex
  refine ⟨fa, fd, F, hm, F.kp, fun us hl => ?_, fun us hl => ?_⟩
  · rw [e]
    exact d.bp kV doc pm an cdv ct us hl
  · rw [e]
    exact d.bk kV doc pm an cdv ct us hl
theorem gok_of {k : Nat} {fn : Fn} {st : Stmt} {fa : Addr} {fd : FuncData} {sp : Sp} (F : Fun K fn.name fn.name st fa fd) (SC : FnScope fn.N fn.ps (defScope st)) (len : ∀ vs H Q E, sp vs H Q E → vs.length = fn.ps.length)
    (hbody : ∀ (cdv : Value) (A : Around) (outer : List PySem.Env) (s : Shared) (H : Hp) (vs : List V) (Q : VK), Room k (A.deeper (envOfC fn.name (defScope st) s.heap.objs.size fa cdv)) → A.guards = some [] → Mod K mg base → sp vs H Q E0 →
      semSs (cxOf CX0 P w K mg base fn.N fn.name (defScope st) fa cdv A outer s H E0).nox (defBody st) { nx := fun _ H' => Q .non H', rt := Q } (L2.start fn.N vs) H) : GOk P w K mg base (k + 1) fa fd fn.ps sp := by
  obtain ⟨oc, od, kV, doc, pm, an, cdv, ct, osl, e, lk, hcd⟩ := F.ex
  subst e
  refine ⟨len, fun A outer s H ar us vs Q hgu hroom env0 hbi rvs hsp => ?_⟩
  have hvl := len _ _ _ _ hsp
  have KIn : K.In s.heap := env0.mod.kin.keeps fun b o e => (env0.bs b o e).1
  have noLim : s.heap.NoLimit := env0.mod.nolimit.keeps fun b o e => (env0.bs b o e).1
  refine codeAny_call_function hroom.depth (KIn _ _ lk) rfl SC.co SC.gen rfl (PySem.W.codeRec_of KIn hcd) (hbi _ _ _ _ ?_)
  refine wpAny_newFunctionEnv_cells SC.kind (fun ⟨n, v⟩ hy => ?_) fun env he s1 x => ?_
  · rcases SC.par n (List.of_mem_zip hy).1 with q | q
    · exact .inl q
    · exact .inr ⟨q, PySem.W.cellsFrom_some _ _ _ (.inl q)⟩
  · subst he
    refine ⟨noLim.keeps x.toInCall.keep, codeAny_func ?_⟩
    have body := hbody cdv A outer s H vs Q (hroom.deeper _) hgu env0.mod hsp
    have I0 : Inv (cxOf CX0 P w K mg base fn.N fn.name (defScope st) fa cdv A outer s H E0) [] (L2.start fn.N vs) H s1 := inv_start SC hroom.hd env0 hvl rvs x
    refine wpAny_mono ((PSs.nox pss_sem).run [] s1 (L2.start fn.N vs) H _ I0 body) (fun fl s' hs => ?_) fun e s' hs => hs
    have out : ∀ {σ' : L2.St} {H' : Hp} {v : V} {u : Value}, Inv (cxOf CX0 P w K mg base fn.N fn.name (defScope st) fa cdv A outer s H E0) [] σ' H' s' → RelV v u → Q v H' → CE outer P w H s Q u s' :=
      fun {σ' H' v u} J rv q => ⟨v, H', J.os, J.bare, J.base, J.hok, rv, q⟩
    cases fl with
    | ret u =>
      obtain ⟨v, σ', H', J, rv, q⟩ := hs
      exact out J rv q
    | next =>
      obtain ⟨σ', H', J, q⟩ := hs
      exact out (v := V.non) (u := Value.none) J rfl q
    | brk =>
      obtain ⟨_, _, _, q⟩ := hs
      exact False.elim q
    | cont =>
      obtain ⟨_, _, _, q⟩ := hs
      exact False.elim q
theorem start_env {F : Hp} {μ : Nat → Addr} {S : Store} {N : List Str} {xs : List E} {vs : List V} (h : RepEs K F μ S xs vs) : RelEnv K F μ S (xs.map some ++ List.replicate (N.length - xs.length) none) (L2.start N vs) := by
  unfold L2.start
  refine ⟨by rw [List.length_append, List.length_append, List.length_map, List.length_map, List.length_replicate, List.length_replicate, h.length], fun i x hx => ?_⟩
  by_cases hi : i < xs.length
  · rw [List.getElem?_append_left (by rw [List.length_map]; exact hi), List.getElem?_map, Option.map_eq_some_iff] at hx
    obtain ⟨y, h1, h2⟩ := hx
    cases h2
    obtain ⟨v, h3, h4⟩ := h.get h1
    refine ⟨v, ?_, h4⟩
    rw [List.getElem?_append_left (by rw [List.length_map, ← h.length]; exact hi), List.getElem?_map, h3]
    rfl
  · rw [List.getElem?_append_right (by rw [List.length_map]; omega), List.getElem?_replicate] at hx
    split at hx <;> cases hx
/-- behind the callee: an own list that is handed out goes to the caller -/
theorem finish_ok {F F' G H' : Hp} {μ μ' : Nat → Addr} {S S1 S2 : Store} {x y : E} {v : V} (e : Ext F μ S F' μ' S1) (R : Rel K F' G μ' S1 H') (r : RepE K F' μ' S1 x v) (hf : finish S.length S1 x = some (y, S2)) : Lift K F G μ S y S2 v H' := by
  cases x with
  | d d =>
    cases hf
    have ex : Ext F μ S F' μ' (S1.take S.length) := ⟨e.f, e.m, by rw [List.length_take, Nat.min_eq_left e.l]; exact Nat.le_refl _⟩
    exact ⟨F', μ', ex, R.take _, r⟩
  | r m =>
    unfold finish at hf
    simp only at hf
    split at hf
    · rename_i hm
      cases hf
      have ex : Ext F μ S F' μ' (S1.take S.length) := ⟨e.f, e.m, by rw [List.length_take, Nat.min_eq_left e.l]; exact Nat.le_refl _⟩
      exact ⟨F', μ', ex, R.take _, by rw [List.length_take, Nat.min_eq_left e.l]; exact hm, r.2⟩
    · rename_i hm
      split at hf
      · rename_i xs hx
        cases hf
        have hl : (S1.take S.length).length = S.length := by rw [List.length_take, Nat.min_eq_left e.l]
        have RT := R.take S.length
        obtain ⟨vs, h1, h2⟩ := R.st m xs hx
        have old : ∀ n zs, (S1.take S.length)[n]? = some (some zs) → n < S.length ∧ S1[n]? = some (some zs) := fun n zs h => by
          have hn : n < S.length := by
            have := (List.getElem?_eq_some_iff.mp h).1
            omega
          rw [List.getElem?_take_of_lt hn] at h
          exact ⟨hn, h⟩
        refine ⟨F', put μ' S.length (μ' m), ⟨e.f, fun n hn => by rw [put_ne (Nat.ne_of_lt hn)]; exact e.m n hn, by rw [List.length_append, hl]; omega⟩, ⟨R.fr, R.gr, R.gf, fun n zs h => ?_, fun n zs h => ?_, fun n zs h => ?_, fun n n2 zs zs2 h h' em => ?_⟩, ?_⟩
        · rcases snoc_cases h with ⟨hn, h⟩ | ⟨hn, h⟩
          · rw [put_ne (by omega)]
            exact RT.st n zs h
          · cases h
            rw [hn, hl, put_same]
            exact ⟨vs, h1, h2⟩
        · rcases snoc_cases h with ⟨hn, h⟩ | ⟨hn, h⟩
          · rw [put_ne (by omega)]
            exact RT.nf n zs h
          · rw [hn, hl, put_same]
            exact R.nf m xs hx
        · rcases snoc_cases h with ⟨hn, h⟩ | ⟨hn, h⟩
          · rw [put_ne (by omega)]
            exact RT.ng n zs h
          · rw [hn, hl, put_same]
            exact R.ng m xs hx
        · rcases snoc_cases h with ⟨hn, h⟩ | ⟨hn, h⟩
          · rcases snoc_cases h' with ⟨hn2, h'⟩ | ⟨hn2, h'⟩
            · rw [put_ne (by omega), put_ne (by omega)] at em
              exact RT.inj n n2 zs zs2 h h' em
            · rw [put_ne (by omega), hn2, hl, put_same] at em
              obtain ⟨o1, o2⟩ := old n zs h
              have := R.inj n m zs xs o2 hx em
              omega
          · rcases snoc_cases h' with ⟨hn2, h'⟩ | ⟨hn2, h'⟩
            · rw [hn, hl, put_same, put_ne (by omega)] at em
              obtain ⟨o1, o2⟩ := old n2 zs2 h'
              have := R.inj m n2 xs zs2 hx o2 em
              omega
            · rw [hn, hn2]
        · refine ⟨by rw [List.length_append, hl, List.length_singleton]; omega, ?_⟩
          rw [put_same]
          exact r.2
      · cases hf
/-- all defs of the table -/
structure Tab (K : PySem.W.Frag) (mg : Str → Option Value) (Pr : Prm) (sts : List Stmt) : Prop where
  ok : ∀ (f : Nat) (fn : Fn), Pr.T[f]? = some fn → ∃ st, DefAt K mg fn st ∧ chkF Pr fn st = true
  bi : ∀ x, Pr.bi.contains x = true → mg x = none
  cst : ∀ p, p ∈ Pr.cs → isLeaf p.2 = true → ∃ u v, mg p.1 = some u ∧ RelV v u ∧ ∀ F, RepP K F p.2 v
theorem spD_len {T : List Fn} {n k f : Nat} {vs : List V} {H : Hp} {Q : VK} {E : XK} (h : spD K T n k f vs H Q E) : vs.length = n := by
  obtain ⟨F, G, μ, S, xs, x, S', R, rs, hl, _⟩ := h
  rw [← rs.length]
  exact hl
theorem fns_step {Pr : Prm} {sts : List Stmt} {k : Nat} (tb : Tab K mg Pr sts) (ih : FnsOk P w K mg base Pr.T k) : FnsOk P w K mg base Pr.T (k + 1) := by
  intro f fn hf
  obtain ⟨st, d, hc⟩ := tb.ok f fn hf
  obtain ⟨fa, fd, F, ff⟩ := d.fnF
  refine ⟨fa, fd, ff, gok_of F d.sc (fun vs H Q E h => spD_len h) fun cdv A outer s H vs Q hr hgu hmod hsp => ?_⟩
  obtain ⟨F0, G, μ, S, xs, x, S', R, rs, hl, he, hq⟩ := hsp
  have gd : Good Pr k fn.N (defScope st) (defScope st) (cxOf CX0 P w K mg base fn.N fn.name (defScope st) fa cdv A outer s H E0).nox :=
    { hN := rfl, nd := d.sc.nd, hsc := rfl, own := fun _ _ => rfl, calm := rfl, room := hr, gd := deeper_guards hgu, pass := .never, bi := tb.bi, fns := ih, cst := tb.cst }
  unfold callD at he
  simp only [hf] at he
  rw [if_pos hl] at he
  obtain ⟨p, hp, he⟩ := bind_some_out he
  refine sndL (all_st gd fuelS fuelK) (sndG gd fuelS) (frzOk fuelS) fn.body (defBody st) hc _ S p.1 p.2 hp F0 G μ _ H R (start_env rs) _ ?_
  obtain ⟨p1, p2⟩ := p
  cases p1 with
  | nx ρ1 =>
    have he2 : some (E.d D.non, p2.take S.length) = some (x, S') := he
    cases he2
    exact fun F' μ' σ' H' e R1 RE1 => hq _ _ (finish_ok e R1 (x := .d .non) .non rfl)
  | ret y =>
    exact fun v H' ⟨F', μ', e, R1, r1⟩ => hq _ _ (finish_ok e R1 r1 he)
theorem fns_all {Pr : Prm} {sts : List Stmt} (tb : Tab K mg Pr sts) (h0 : ∀ (f : Nat) (fn : Fn), Pr.T[f]? = some fn → ∃ fa fd, FnF K mg fn fa fd) : ∀ k, FnsOk P w K mg base Pr.T k
  | 0 => fun f fn hf => by
    obtain ⟨fa, fd, ff⟩ := h0 f fn hf
    exact ⟨fa, fd, ff, fun vs H Q E h => spD_len h, fun A outer s H ar us vs Q hgu hroom env0 hbi rvs hsp => by
      obtain ⟨F0, G, μ, S, xs, x, S', R, rs, hl, he, hq⟩ := hsp
      cases he⟩
  | k + 1 => fns_step tb (fns_all tb h0 k)
end
end DL
end

section
set_option autoImplicit false
set_option linter.all false
/-! The law's end. -/
namespace DL
open PySem PySem.Spec PyProof.Rows PySem.W L2

section
variable {P : Program} {w : World} {K : PySem.W.Frag} {mg mb : Str → Option Value}
theorem rel0 (H : Hp) : Rel K H (fun _ => none) (fun _ => 0) [] H :=
  ⟨Sub.refl H, fun a o e => (nomatch e), fun a o e => (nomatch e), fun n xs e => (by simp at e), fun n xs e => (by simp at e), fun n xs e => (by simp at e), fun n m xs ys e => (by simp at e)⟩
/-- the call of the law at its script -/
theorem call_end {k f : Nat} {fa a : Addr} {T : List Fn} {x : Str} {s1 : Shared} {vs : List Value} {ns : List Int}
    (KX : K.In s1.heap) (hNs : s1.heap.Ns mainGlobals mg) (hB : s1.heap.Ns builtinsNs mb) (hBB : ∀ x : Str, x ≠ "__name__" → mb x = bootBuiltins x) (hL : s1.heap.NoLimit) (hgens : s1.gens = #[])
    (hObj : s1.heap.get? a = some { cls := .type "list", data := .seq vs.toArray }) (hInts : IntsAre vs ns) (hlen : ns.length ≤ sizeLine) (hroom : Room k callerA)
    (FF : ∀ base : Heap, ∃ fd : FuncData, GOk P w K mg base k fa fd [x] (spD K T 1 k f) ∧ bindArgs fd ⟨[.ref a], []⟩ = pure [(x, .ref a)])
    (main : callD T k f [.d (.scr (ns.map D.int))] [] = some (.d (.bl true), [])) :
    codeAny (model P w) callerA (.call (.ref fa) ⟨[.ref a], []⟩) (fun r s' => r = .ok (.ret (.bool true)) ∧ OldK s1.heap s'.heap ∧ s'.os = s1.os ∧ AllBare s'.gens) s1 := by
  have rvals := vals_ints hInts
  have lens := hInts.length
  have from_ : ∀ H : Hp, Only H → SqL K H a (ns.map V.int) → HOk P w H s1.heap → (∀ b, H b ≠ none → b = a) → (H a ≠ none → K.lookup a = none) →
      codeAny (model P w) callerA (.call (.ref fa) ⟨[.ref a], []⟩) (fun r s' => r = .ok (.ret (.bool true)) ∧ OldK s1.heap s'.heap ∧ s'.os = s1.os ∧ AllBare s'.gens) s1 := by
    intro H only hS ok alone hK
    have lone : ∀ {b : Addr} {u : HO}, H b = some u → b = a := fun e => alone _ (by rw [e]; simp)
    have stay : ∀ {b : Addr} {o : Obj}, s1.heap.get? b = some o → H b = none → (hidT s1.heap H).get? b = some o := fun e n => hidT_get e n
    have dicts : ∀ {b : Addr} {o : Obj} {es : Array DictEntry} {ep : Nat}, s1.heap.get? b = some o → o.data = .dict es ep → H b = none := fun {b o es ep} e d => by
      cases q : H b with
      | none => rfl
      | some u =>
        have eb := lone q
        subst eb
        rw [hObj] at e
        cases e
        cases (show Data.seq vs.toArray _ = Data.dict es ep from d)
    have nss : ∀ {b : Addr} {m : Str → Option Value}, s1.heap.Ns b m → (hidT s1.heap H).Ns b m := fun {b m} ⟨o, es, ep, e, d, r⟩ => ⟨o, es, ep, stay e (dicts e d), d, r⟩
    have kin : K.In (hidT s1.heap H) := fun b o e => stay (KX b o e) (by
      cases q : H b with
      | none => rfl
      | some u =>
        have eb := lone q
        subst eb
        rw [hK (by rw [q]; simp)] at e
        cases e)
    have hMod : Mod K mg (hidT s1.heap H) := ⟨kin, nss hNs, ⟨mb, nss hB, hBB⟩, let ⟨mc, h1, h2⟩ := hL; ⟨mc, nss h1, h2⟩⟩
    have env0 : Env0 P w K mg (hidT s1.heap H) callerA [] s1 H := ⟨rfl, hMod, fun b o e => of_hidT e, Nat.le_of_eq (hidT_size _ _), trivial, (fun b hb => by cases hb), ok, .of_eq hgens⟩
    have hsp : spD K T 1 k f [.ref a] H (fun v _ => v = .bl true) E0 := ⟨H, fun _ => none, fun _ => 0, [], [.d (.scr (ns.map D.int))], _, _, rel0 H, .cons (.scr hS (RepL.ofInts ns)) .nil, rfl, main, fun v H' ⟨F', μ', e, R, r⟩ => by
      cases (show RepP K F' (.bl true) v from r)
      rfl⟩
    obtain ⟨fd, gk, hbi⟩ := FF (hidT s1.heap H)
    refine codeAny_mono (gk.run callerA [] s1 H ⟨[.ref a], []⟩ [.ref a] [.ref a] _ rfl hroom env0 (.of_eq hbi) (.cons rfl .nil) hsp) fun r s' h => ?_
    cases r with
    | error e => exact False.elim h
    | ok fl =>
      cases fl with
      | next => exact False.elim h
      | brk => exact False.elim h
      | cont => exact False.elim h
      | ret u =>
        obtain ⟨v, H', osE, bareE, un, okE, rE, vE⟩ := h
        have vT : v = .bl true := vE
        subst vT
        cases (show u = Value.bool true from rE)
        refine ⟨rfl, OldK.of_keep fun b o e => ?_, osE, bareE⟩
        cases q : H b with
        | none => exact un.keep b o e q (by intro z; cases z) (by simp)
        | some u =>
          rcases only b with z | ⟨ob, xs, z⟩
          · rw [q] at z
            cases z
          · obtain ⟨e1, _⟩ := ok b _ z
            obtain ⟨e2, _⟩ := okE b _ (un.frzs b ob _ z)
            rw [e] at e1
            cases e1
            exact e2
  cases hk : K.lookup a with
  | some o =>
    have e := KX a o hk
    rw [hObj] at e
    cases e
    exact from_ (fun _ => none) (fun _ => .inl rfl) (.inr ⟨_, vs.toArray, _, hk, rfl, rfl, rfl, by rw [List.size_toArray, lens]; exact hlen, by simpa using rvals⟩) (fun b u z => by cases (show (none : Option HO) = some u from z)) (fun b z => absurd rfl z) fun z => absurd rfl z
  | none =>
    have at_a : (fun b => if b = a then some (HO.frz { cls := .type "list", data := .seq vs.toArray } (.lst (ns.map V.int))) else none) a = some (HO.frz { cls := .type "list", data := .seq vs.toArray } (.lst (ns.map V.int))) := if_pos rfl
    refine from_ (fun b => if b = a then some (.frz { cls := .type "list", data := .seq vs.toArray } (.lst (ns.map V.int))) else none) (fun b => ?_) (.inl (.inr ⟨_, at_a⟩)) (fun b u z => ?_) (fun b z => ?_) fun _ => hk
    · by_cases hb : b = a
      · exact .inr ⟨_, _, if_pos hb⟩
      · exact .inl (if_neg hb)
    · by_cases hb : b = a
      · subst hb
        have z1 := at_a.symm.trans z
        cases z1
        exact ⟨hObj, by rw [List.length_map]; exact hlen, vs, _, rvals, hObj⟩
      · cases ((if_neg hb).symm.trans z)
    · by_cases hb : b = a
      · exact hb
      · exact absurd (if_neg hb) z
end
/-- the goal that the head leaves, from the tongue's answer -/
theorem walk_D {l : PySem.W.OpenLaw} {q : Program} {loose : List Str} {XP : (Str → Option Value) → Heap → Prop} {YP : World → Heap → Prop} {d : DefRec} {K : Params → PySem.W.Frag} {Pr : Prm} {sts : List Stmt} {k f : Nat} {fn : Fn}
    (hn : l.most = some 63) (hdf : d.params.defaults = []) (hroom : Room k callerA) (hf : Pr.T[f]? = some fn) (hnm : fn.name = d.name) (hps : fn.ps = [("script" : Str)])
    (hY : ∀ (w : World) (h : Heap), YP w h → (K w.params).In h)
    (tab : ∀ (w : World) (mg : Str → Option Value) (h : Heap), (K w.params).In h → h.Ns mainGlobals mg → Tab (K w.params) mg Pr sts)
    (main : ∀ ns : List Int, ns.length ≤ 63 → (∀ z ∈ ns, Builtin.Int.intBits z ≤ 1048576) → callD Pr.T k f [.d (.scr (ns.map D.int))] [] = some (.d (.bl true), [])) :
    PySem.W.WalkO q loose XP YP l.row.toRowW d [] (fun f vs => PySem.call f vs) := by
  refine Att.attach_callB hn hdf fun w s0 s1 mg mb fa o pm cd doc a vs ns G Y ho hd hcd hmg hobj hints hlen hbits hg => ?_
  have KX := hY w _ Y
  have tb := tab w mg _ KX G.T.g
  have h0 : ∀ (f : Nat) (fn : Fn), Pr.T[f]? = some fn → ∃ fa fd, FnF (K w.params) mg fn fa fd := fun f fn hf => by
    obtain ⟨st, dd, _⟩ := tb.ok f fn hf
    obtain ⟨fa, fd, _, ff⟩ := dd.fnF
    exact ⟨fa, fd, ff⟩
  refine call_end (x := "script") (T := Pr.T) (k := k) (f := f) KX G.T.g G.T.b G.T.builtins G.T.nolimit hg hobj hints (Nat.le_trans hlen (by rw [sizeLine_eq]; omega)) hroom (fun base => ?_) (main ns hlen hbits)
  obtain ⟨fa2, fd2, ff2, gk⟩ := fns_all (P := l.prog) (w := w) (base := base) tb h0 k f fn hf
  have z := ff2.mg
  rw [hnm, hmg] at z
  cases z
  have e1 : fn.ps.length = 1 := by rw [hps]; rfl
  rw [e1] at gk
  have hb2 := ff2.bp [.ref a] (by rw [hps]; rfl)
  rw [hps] at hb2 gk
  exact ⟨fd2, gk, hb2⟩
end DL
end

section
set_option autoImplicit false
set_option linter.all false
set_option maxRecDepth 100000
namespace K54
open PySem L2 DL
def top (i : Nat) : Stmt := PySem.Challenge.pw_enoughvoices_k54_whole_one_voice_joins.main.body.getD i (.Pass ⟨0, 0, 0, 0⟩)
/-- is_integer -/
def f0 : Fn := ⟨"is_integer", ["value"], ["value"], [
  .ret (.and (.isa .int (.var 0)) (.not (.isa .bool (.var 0))))]⟩
/-- is_between -/
def f1 : Fn := ⟨"is_between", ["value", "least", "most"], ["value", "least", "most"], [
  .ret (.and (.call 0 [.var 0]) (.chain .le .le (.var 1) (.var 0) (.var 2)))]⟩
/-- common -/
def f2 : Fn := ⟨"common", ["one", "other"], ["one", "other"], [
  .while_ (.o2 .ne (.var 1) (.cst (.int 0))) [.par 0 1 (.var 1) (.o2 .mod (.var 0) (.var 1))],
  .ret (.o1 .abs (.var 0))]⟩
/-- reduced -/
def f3 : Fn := ⟨"reduced", ["top", "low"], ["top", "low", "factor"], [
  .asg (.nm 2) (.ite (.o2 .gt (.var 1) (.cst (.int 0))) (.call 2 [.var 0, .var 1]) (.o2 .sub (.cst (.int 0)) (.call 2 [.var 0, .var 1]))),
  .ret (.tup [.o2 .fdiv (.var 0) (.var 2), .o2 .fdiv (.var 1) (.var 2)])]⟩
/-- is_fraction -/
def f4 : Fn := ⟨"is_fraction", ["value"], ["value"], [
  .ife (.or (.not (.isa .tuple (.var 0))) (.or (.o2 .ne (.o1 .len (.var 0)) (.cst (.int 2))) (.or (.not (.call 0 [.idxT (.var 0) (.cst (.int 0))])) (.not (.call 0 [.idxT (.var 0) (.cst (.int 1))]))))) [.ret (.cst (.bl false))] [],
  .ret (.and (.o2 .gt (.idxT (.var 0) (.cst (.int 1))) (.cst (.int 0))) (.o2 .eq (.call 2 [.idxT (.var 0) (.cst (.int 0)), .idxT (.var 0) (.cst (.int 1))]) (.cst (.int 1))))]⟩
/-- rows_by -/
def f5 : Fn := ⟨"rows_by", ["many"], ["many", "product", "number", "size"], [
  .asg (.nm 1) (.new (.lst [.cst (.int 1)])),
  .for_ (.nm 2) .rng2 [.cst (.int 1), .o2 .add (.var 0) (.cst (.int 1))] [.expr (.app (.var 1) (.o2 .mul (.idxL (.var 1) (.o1 .neg (.cst (.int 1)))) (.var 2)))],
  .frz 1,
  .ret (.lc (.o2 .mul (.idxL (.var 1) (.var 3)) (.idxL (.var 1) (.o2 .sub (.o2 .sub (.var 0) (.cst (.int 1))) (.var 3)))) (.nm 3) .rng1 [.var 0] [] [3])]⟩
/-- all_rows -/
def f6 : Fn := ⟨"all_rows", ["many"], ["many", "found", "number"], [
  .asg (.nm 1) (.cst (.int 1)),
  .for_ (.nm 2) .rng2 [.cst (.int 1), .o2 .add (.var 0) (.cst (.int 1))] [.asg (.nm 1) (.o2 .mul (.var 1) (.var 2))],
  .ret (.var 1)]⟩
/-- counted -/
def f7 : Fn := ⟨"counted", ["weights", "quota"], ["weights", "quota", "rows", "weight", "size", "row"], [
  .grid 2 (.lc (.o2 .repL (.lst [.cst (.int 0)]) (.var 1)) (.nm 4) .rng1 [.o2 .add (.o1 .len (.var 0)) (.cst (.int 1))] [] [4]) (.int 1),
  .for_ (.nm 3) .tup [.var 0] [.asg (.nm 2) (.lc (.ite (.o2 .eq (.var 4) (.cst (.int 0))) (.var 5) (.call 8 [.var 5, .idxL (.var 2) (.o2 .sub (.var 4) (.cst (.int 1))), .var 3])) (.tp [(.nm 4), (.nm 5)]) .enumL [.var 2] [] [4, 5])],
  .ret (.var 2)]⟩
/-- shifted -/
def f8 : Fn := ⟨"shifted", ["row", "less", "weight"], ["row", "less", "weight", "at", "count"], [
  .ret (.lc (.o2 .add (.var 4) (.ite (.o2 .ge (.var 3) (.var 2)) (.idxL (.var 1) (.o2 .sub (.var 3) (.var 2))) (.cst (.int 0)))) (.tp [(.nm 3), (.nm 4)]) .enumL [.var 0] [] [3, 4])]⟩
/-- taken_out -/
def f9 : Fn := ⟨"taken_out", ["rows", "weight"], ["rows", "weight", "found", "row", "less", "at", "count"], [
  .asg (.nm 2) (.new (.lst [.idxL (.var 0) (.cst (.int 0))])),
  .for_ (.nm 3) .lst [.slL (.var 0) (some (.cst (.int 1))) (some (.o1 .neg (.cst (.int 1))))] [.asg (.nm 4) (.idxL (.var 2) (.o1 .neg (.cst (.int 1)))), .expr (.app (.var 2) (.lc (.o2 .sub (.var 6) (.ite (.o2 .ge (.var 5) (.var 1)) (.idxL (.var 4) (.o2 .sub (.var 5) (.var 1))) (.cst (.int 0)))) (.tp [(.nm 5), (.nm 6)]) .enumL [.var 3] [] [5, 6]))],
  .frz 2,
  .ret (.var 2)]⟩
/-- share_of -/
def f10 : Fn := ⟨"share_of", ["rows", "weight", "quota"], ["rows", "weight", "quota", "many", "low", "total", "way", "row"], [
  .asg (.nm 3) (.o2 .sub (.o1 .len (.var 0)) (.cst (.int 1))),
  .asg (.nm 4) (.max2 (.cst (.int 0)) (.o2 .sub (.var 2) (.var 1))),
  .asg (.nm 5) (.o1 .sum (.lc (.o2 .mul (.var 6) (.o1 .sum (.slL (.var 7) (some (.var 4)) none))) (.tp [(.nm 6), (.nm 7)]) .zipLL [.call 5 [.var 3], .call 9 [.var 0, .var 1]] [] [6, 7])),
  .ret (.call 3 [.var 5, .call 6 [.var 3]])]⟩
/-- great -/
def f11 : Fn := ⟨"great", ["weights", "quota"], ["weights", "quota", "rows", "known", "weight"], [
  .ife (.or (.not (.isa .tuple (.var 0))) (.not (.chain .lt .le (.cst (.int 0)) (.o1 .len (.var 0)) (.glob "MOST_GREAT" (.int 40))))) [.raise] [],
  .ife (.or (.not (.o1 .all (.lc (.call 1 [.var 4, .cst (.int 0), .glob "MOST_GREAT_WEIGHT" (.int 999)]) (.nm 4) .tup [.var 0] [] [4]))) (.o2 .gt (.o1 .sumT (.var 0)) (.glob "MOST_TOGETHER" (.int 4000)))) [.raise] [],
  .ife (.not (.call 1 [.var 1, .cst (.int 1), .glob "MOST_TOGETHER" (.int 4000)])) [.raise] [],
  .asg (.nm 2) (.call 7 [.var 0, .var 1]),
  .asg (.nm 3) (.dictL (.lc (.tup [.var 4, .call 10 [.var 2, .var 4, .var 1]]) (.nm 4) .lst [.sortSetT (.var 0)] [] [4])),
  .ret (.o1 .tupleL (.lc (.idxD (.var 3) (.var 4)) (.nm 4) .tup [.var 0] [] [4]))]⟩
/-- joins -/
def f12 : Fn := ⟨"joins", ["weights", "weight", "part"], ["weights", "weight", "part", "before", "behind", "one"], [
  .ife (.or (.not (.isa .tuple (.var 0))) (.not (.chain .lt .le (.cst (.int 0)) (.o1 .len (.var 0)) (.glob "MOST_WEIGHTS" (.int 20))))) [.raise] [],
  .ife (.or (.not (.o1 .all (.lc (.call 1 [.var 5, .cst (.int 0), .glob "MOST_WEIGHT" (.int 100)]) (.nm 5) .tup [.var 0] [] [5]))) (.o2 .eq (.o1 .sumT (.var 0)) (.cst (.int 0)))) [.raise] [],
  .ife (.not (.call 1 [.var 1, .cst (.int 0), .glob "MOST_WEIGHT" (.int 100)])) [.raise] [],
  .ife (.or (.not (.call 4 [.var 2])) (.not (.chain .le .lt (.cst (.int 0)) (.idxT (.var 2) (.cst (.int 0))) (.idxT (.var 2) (.cst (.int 1)))))) [.raise] [],
  .asg (.nm 3) (.call 11 [.var 0, .call 13 [.o1 .sumT (.var 0), .var 2]]),
  .asg (.nm 4) (.call 11 [.o2 .catT (.var 0) (.tup [.var 1]), .call 13 [.o2 .add (.o1 .sumT (.var 0)) (.var 1), .var 2]]),
  .ret (.tupZip (.var 3) (.var 4))]⟩
/-- quota_by -/
def f13 : Fn := ⟨"quota_by", ["total", "part"], ["total", "part"], [
  .ret (.o2 .add (.o2 .fdiv (.o2 .mul (.var 0) (.idxT (.var 1) (.cst (.int 0)))) (.idxT (.var 1) (.cst (.int 1)))) (.cst (.int 1)))]⟩
/-- _law_pot -/
def f14 : Fn := ⟨"_law_pot", ["script", "place"], ["script", "place", "cell", "own", "small"], [
  .asg (.nm 2) (.ite (.o2 .lt (.var 1) (.o1 .len (.var 0))) (.idxL (.var 0) (.var 1)) (.o2 .add (.o2 .add (.o2 .mod (.o1 .sum (.slL (.var 0) none (some (.cst (.int 1))))) (.cst (.int 1000003))) (.o2 .mul (.cst (.int 9279)) (.var 1))) (.cst (.int 6595)))),
  .asg (.nm 3) (.o2 .mul (.o2 .mod (.o1 .int (.o1 .abs (.var 2))) (.o2 .pow (.o2 .pow (.cst (.int 10)) (.cst (.int 60))) (.cst (.int 5)))) (.o1 .int (.o2 .ge (.o1 .abs (.var 2)) (.o2 .pow (.cst (.int 10)) (.cst (.int 18)))))),
  .asg (.nm 4) (.o2 .mod (.o1 .int (.var 2)) (.cst (.int 2305843009213693951))),
  .ret (.new (.lst [.var 3, .o2 .mod (.o1 .int (.o2 .add (.o2 .add (.o2 .mul (.var 4) (.cst (.int 73529))) (.o2 .mul (.o2 .mul (.cst (.int 6647)) (.var 1)) (.var 1))) (.cst (.int 2267)))) (.cst (.int 2305843009213693921)), .cst (.int 0)]))]⟩
/-- _law_take -/
def f15 : Fn := ⟨"_law_take", ["pot", "upto"], ["pot", "upto", "prime", "blend", "digit"], [
  .ife (.o2 .gt (.idxL (.var 0) (.cst (.int 0))) (.cst (.int 0))) [.asg (.nm 4) (.o2 .mod (.o1 .int (.idxL (.var 0) (.cst (.int 0)))) (.var 1)), .setI (.var 0) (.cst (.int 0)) (.o2 .fdiv (.idxL (.var 0) (.cst (.int 0))) (.var 1)), .ret (.var 4)] [],
  .setI (.var 0) (.cst (.int 2)) (.o2 .add (.idxL (.var 0) (.cst (.int 2))) (.cst (.int 1))),
  .asg (.nm 2) (.idxL (.lst [.cst (.int 2147483647), .cst (.int 2147483629), .cst (.int 2147483587), .cst (.int 2147483579), .cst (.int 2147483563)]) (.o2 .mod (.o1 .int (.idxL (.var 0) (.cst (.int 2)))) (.cst (.int 5)))),
  .asg (.nm 3) (.o2 .mod (.o1 .int (.o2 .pow (.o1 .int (.o2 .add (.o2 .add (.idxL (.var 0) (.cst (.int 1))) (.o2 .mul (.o2 .mul (.cst (.int 99290)) (.idxL (.var 0) (.cst (.int 2)))) (.idxL (.var 0) (.cst (.int 2))))) (.cst (.int 2267)))) (.cst (.int 3)))) (.var 2)),
  .asg (.nm 3) (.o2 .mod (.o1 .int (.o2 .mul (.var 3) (.o2 .add (.o2 .mod (.o1 .int (.var 3)) (.cst (.int 15596))) (.o2 .mul (.cst (.int 62)) (.idxL (.var 0) (.cst (.int 2))))))) (.cst (.int 2305843009213693907))),
  .ret (.o2 .mod (.o1 .int (.o2 .fdiv (.var 3) (.cst (.int 128)))) (.var 1))]⟩
/-- _law_of -/
def f16 : Fn := ⟨"_law_of", ["pot", "some"], ["pot", "some"], [
  .ret (.idxL (.var 1) (.call 15 [.var 0, .o1 .len (.var 1)]))]⟩
/-- _law_cells -/
def f17 : Fn := ⟨"_law_cells", ["script", "limit"], ["script", "limit"], [
  .ret (.lstRg1 (.max2 (.cst (.int 1)) (.min2 (.var 1) (.o1 .len (.var 0)))))]⟩
/-- _law_held -/
def f18 : Fn := ⟨"_law_held", ["weights", "bits"], ["weights", "bits", "at", "weight"], [
  .ret (.lc (.var 3) (.tp [(.nm 2), (.nm 3)]) .enumT [.var 0] [.o2 .eq (.o2 .band (.o2 .shr (.var 1) (.var 2)) (.cst (.int 1))) (.cst (.int 1))] [2, 3])]⟩
/-- _law_size -/
def f19 : Fn := ⟨"_law_size", ["bits"], ["bits", "at"], [
  .ret (.o1 .len (.lc (.var 1) (.nm 1) .rng1 [.cst (.int 12)] [.o2 .eq (.o2 .band (.o2 .shr (.var 0) (.var 1)) (.cst (.int 1))) (.cst (.int 1))] [1]))]⟩
/-- _law_common -/
def f20 : Fn := ⟨"_law_common", ["one", "other"], ["one", "other"], [
  .while_ (.o2 .ne (.var 1) (.cst (.int 0))) [.par 0 1 (.var 1) (.o2 .mod (.var 0) (.var 1))],
  .ret (.o1 .abs (.var 0))]⟩
/-- _law_part -/
def f21 : Fn := ⟨"_law_part", ["top", "low"], ["top", "low", "factor"], [
  .asg (.nm 2) (.call 20 [.var 0, .var 1]),
  .ret (.tup [.o1 .int (.o2 .fdiv (.var 0) (.var 2)), .o1 .int (.o2 .fdiv (.var 1) (.var 2))])]⟩
/-- _law_plus -/
def f22 : Fn := ⟨"_law_plus", ["one", "other"], ["one", "other"], [
  .ret (.call 21 [.o2 .add (.o2 .mul (.idxT (.var 0) (.cst (.int 0))) (.idxT (.var 1) (.cst (.int 1)))) (.o2 .mul (.idxT (.var 1) (.cst (.int 0))) (.idxT (.var 0) (.cst (.int 1)))), .o2 .mul (.idxT (.var 0) (.cst (.int 1))) (.idxT (.var 1) (.cst (.int 1)))])]⟩
/-- _law_swings -/
def f23 : Fn := ⟨"_law_swings", ["won", "at", "many"], ["won", "at", "many", "bits"], [
  .ret (.lc (.var 3) (.nm 3) .rng1 [.o1 .len (.var 0)] [.and (.o2 .eq (.o2 .band (.o2 .shr (.var 3) (.var 1)) (.cst (.int 1))) (.cst (.int 0))) (.and (.idxL (.var 0) (.o2 .add (.var 3) (.o2 .shl (.cst (.int 1)) (.var 1)))) (.not (.idxL (.var 0) (.var 3))))] [3])]⟩
/-- _law_product -/
def f24 : Fn := ⟨"_law_product", ["many"], ["many", "found", "number"], [
  .asg (.nm 1) (.cst (.int 1)),
  .for_ (.nm 2) .rng2 [.cst (.int 1), .o2 .add (.var 0) (.cst (.int 1))] [.asg (.nm 1) (.o2 .mul (.var 1) (.var 2))],
  .ret (.var 1)]⟩
/-- _law_pivots -/
def f25 : Fn := ⟨"_law_pivots", ["won", "many"], ["won", "many", "found", "at", "rows", "bits", "size"], [
  .asg (.nm 2) (.new (.lst [])),
  .for_ (.nm 3) .rng1 [.var 1] [.asg (.nm 4) (.lc (.call 19 [.var 5]) (.nm 5) .lst [.call 23 [.var 0, .var 3, .var 1]] [] [5]), .expr (.app (.var 2) (.o1 .sum (.lc (.o2 .mul (.call 24 [.var 6]) (.call 24 [.o2 .sub (.o2 .sub (.var 1) (.cst (.int 1))) (.var 6)])) (.nm 6) .lst [.var 4] [] [6])))],
  .frz 2,
  .ret (.var 2)]⟩
/-- _law_needed -/
def f26 : Fn := ⟨"_law_needed", ["won", "many"], ["won", "many", "found", "bits", "is_won", "some", "at"], [
  .asg (.nm 2) (.new (.lst [])),
  .for_ (.tp [(.nm 3), (.nm 4)]) .enumL [.var 0] [.asg (.nm 5) (.lc (.var 6) (.nm 6) .rng1 [.var 1] [.and (.var 4) (.and (.o2 .eq (.o2 .band (.o2 .shr (.var 3) (.var 6)) (.cst (.int 1))) (.cst (.int 1))) (.not (.idxL (.var 0) (.o2 .sub (.var 3) (.o2 .shl (.cst (.int 1)) (.var 6))))))] [6]), .expr (.ext (.var 2) (.ite (.o2 .ne (.var 5) (.lst [])) (.lst [.tup [.var 3, .var 5]]) (.lst [])))],
  .frz 2,
  .ret (.var 2)]⟩
/-- _law_shares -/
def f27 : Fn := ⟨"_law_shares", ["won", "many", "kind"], ["won", "many", "kind", "counts", "rows", "total", "row", "low", "at", "bits", "some", "top", "its", "count"], [
  .asg (.nm 3) (.call 25 [.var 0, .var 1]),
  .ife (.o2 .eq (.o1 .sum (.var 3)) (.cst (.int 0))) [.ret (.dead)] [],
  .ife (.o2 .eq (.var 2) (.cst (.str "pivot"))) [.ret (.o1 .tupleL (.lc (.call 21 [.var 13, .call 24 [.var 1]]) (.nm 13) .lst [.var 3] [] [13]))] [],
  .asg (.nm 4) (.lc (.var 10) (.tp [(.nm 9), (.nm 10)]) .lst [.call 26 [.var 0, .var 1]] [.or (.o2 .eq (.var 2) (.cst (.str "needed"))) (.o2 .eq (.o1 .len (.var 10)) (.call 19 [.var 9]))] [9, 10]),
  .asg (.nm 5) (.new (.o2 .repL (.lst [.tup [.cst (.int 0), .cst (.int 1)]]) (.var 1))),
  .for_ (.nm 6) .lst [.var 4] [.for_ (.nm 8) .lst [.var 6] [.setI (.var 5) (.var 8) (.call 22 [.idxL (.var 5) (.var 8), .tup [.cst (.int 1), .ite (.o2 .eq (.var 2) (.cst (.str "member"))) (.cst (.int 1)) (.o1 .len (.var 6))]])]],
  .frz 5,
  .asg (.nm 7) (.ite (.o2 .eq (.var 2) (.cst (.str "member"))) (.o1 .sum (.lc (.o1 .len (.var 6)) (.nm 6) .lst [.var 4] [] [6])) (.o1 .len (.var 4))),
  .ret (.o1 .tupleL (.lc (.call 21 [.var 11, .o2 .mul (.var 12) (.var 7)]) (.tp [(.nm 11), (.nm 12)]) .lst [.var 5] [] [11, 12]))]⟩
/-- _law_quota -/
def f28 : Fn := ⟨"_law_quota", ["total", "part"], ["total", "part", "number"], [
  .ret (.idxL (.lc (.var 2) (.nm 2) .rng1 [.o2 .add (.var 0) (.cst (.int 1))] [.o2 .gt (.o2 .mul (.var 2) (.idxT (.var 1) (.cst (.int 1)))) (.o2 .mul (.var 0) (.idxT (.var 1) (.cst (.int 0))))] [2]) (.cst (.int 0)))]⟩
/-- _law_by_lots -/
def f29 : Fn := ⟨"_law_by_lots", ["weights", "quota"], ["weights", "quota", "many", "won", "bits"], [
  .asg (.nm 2) (.o1 .len (.var 0)),
  .asg (.nm 3) (.lc (.o2 .ge (.o1 .sum (.call 18 [.var 0, .var 4])) (.var 1)) (.nm 4) .rng1 [.o2 .shl (.cst (.int 1)) (.var 2)] [] [4]),
  .ret (.call 27 [.var 3, .var 2, .cst (.str "pivot")])]⟩
/-- _law_fraction -/
def f30 : Fn := ⟨"_law_fraction", ["pot"], ["pot", "low"], [
  .asg (.nm 1) (.o2 .add (.cst (.int 2)) (.call 15 [.var 0, .cst (.int 9)])),
  .ret (.call 21 [.call 16 [.var 0, .lst [.cst (.int 0), .o2 .fdiv (.var 1) (.cst (.int 2)), .o2 .sub (.var 1) (.cst (.int 1)), .call 15 [.var 0, .var 1]]], .var 1])]⟩
/-- _law_are_few_right -/
def f31 : Fn := ⟨"_law_are_few_right", ["pot"], ["pot", "weights", "weight", "part", "before", "behind", "told", "at"], [
  .asg (.nm 1) (.o1 .tupleL (.lc (.o1 .int (.call 15 [.var 0, .call 16 [.var 0, .lst [.cst (.int 2), .cst (.int 6), .cst (.int 30)]]])) (.nm 7) .rng1 [.o2 .add (.cst (.int 1)) (.call 15 [.var 0, .cst (.int 7)])] [] [7])),
  .par3 1 2 3 (.ite (.o2 .gt (.o1 .sumT (.var 1)) (.cst (.int 0))) (.var 1) (.tup [.cst (.int 1)])) (.o1 .int (.call 15 [.var 0, .cst (.int 20)])) (.call 30 [.var 0]),
  .asg (.nm 4) (.call 29 [.var 1, .call 28 [.o1 .sumT (.var 1), .var 3]]),
  .asg (.nm 5) (.call 29 [.o2 .catT (.var 1) (.tup [.var 2]), .call 28 [.o2 .add (.o1 .sumT (.var 1)) (.var 2), .var 3]]),
  .asg (.nm 6) (.callK 12 [.var 1, .var 2, .var 3]),
  .ret (.o2 .eq (.o1 .repr (.var 6)) (.o1 .repr (.tupZip (.var 4) (.var 5))))]⟩
/-- _law_are_many_right -/
def f32 : Fn := ⟨"_law_are_many_right", ["pot"], ["pot", "weights", "weight", "part", "before", "behind", "at"], [
  .asg (.nm 1) (.o1 .tupleL (.lc (.o1 .int (.o2 .add (.cst (.int 1)) (.call 15 [.var 0, .cst (.int 9)]))) (.nm 6) .rng1 [.o2 .add (.cst (.int 8)) (.call 15 [.var 0, .cst (.int 13)])] [] [6])),
  .par 2 3 (.o1 .int (.call 15 [.var 0, .cst (.int 10)])) (.call 30 [.var 0]),
  .asg (.nm 4) (.call 11 [.var 1, .call 28 [.o1 .sumT (.var 1), .var 3]]),
  .asg (.nm 5) (.call 11 [.o2 .catT (.var 1) (.tup [.var 2]), .call 28 [.o2 .add (.o1 .sumT (.var 1)) (.var 2), .var 3]]),
  .ret (.o2 .eq (.call 12 [.var 1, .var 2, .var 3]) (.tupZip (.var 4) (.var 5)))]⟩
/-- _law_is_known_right -/
def f33 : Fn := ⟨"_law_is_known_right", [], ["told", "before", "behind"], [
  .asg (.nm 0) (.call 12 [.tup [.cst (.int 4), .cst (.int 2), .cst (.int 1)], .cst (.int 1), .tup [.cst (.int 1), .cst (.int 2)]]),
  .ife (.o2 .ne (.lc (.var 1) (.tp [(.nm 1), (.nm 2)]) .tup [.var 0] [] [1, 2]) (.lst [.tup [.cst (.int 1), .cst (.int 1)], .tup [.cst (.int 0), .cst (.int 1)], .tup [.cst (.int 0), .cst (.int 1)]])) [.ret (.cst (.bl false))] [],
  .ret (.o2 .eq (.lc (.var 2) (.tp [(.nm 1), (.nm 2)]) .tup [.var 0] [] [1, 2]) (.lst [.tup [.cst (.int 3), .cst (.int 4)], .tup [.cst (.int 1), .cst (.int 12)], .tup [.cst (.int 1), .cst (.int 12)]]))]⟩
/-- law -/
def f34 : Fn := ⟨"law", ["script"], ["script", "place", "pot", "lap"], [
  .for_ (.nm 1) .lst [.call 17 [.var 0, .cst (.int 2)]] [.asg (.nm 2) (.call 14 [.var 0, .var 1]), .ife (.or (.not (.o1 .all (.lc (.call 31 [.var 2]) (.nm 3) .rng1 [.cst (.int 3)] [] [3]))) (.not (.call 32 [.var 2]))) [.ret (.cst (.bl false))] [], .ife (.not (.call 33 [])) [.ret (.cst (.bl false))] []],
  .ret (.cst (.bl true))]⟩
def tab : List Fn := [f0, f1, f2, f3, f4, f5, f6, f7, f8, f9, f10, f11, f12, f13, f14, f15, f16, f17, f18, f19, f20, f21, f22, f23, f24, f25, f26, f27, f28, f29, f30, f31, f32, f33, f34]
def prm : Prm := ⟨tab, [("MOST_GREAT", .int 40), ("MOST_GREAT_WEIGHT", .int 999), ("MOST_TOGETHER", .int 4000), ("MOST_WEIGHT", .int 100), ("MOST_WEIGHTS", .int 20)], ["abs", "all", "bool", "dict", "enumerate", "int", "isinstance", "len", "list", "max", "min", "range", "repr", "set", "sorted", "sum", "tuple", "zip"]⟩
theorem c0 : chkF prm f0 (top 7) = true := by decide +kernel
theorem c1 : chkF prm f1 (top 8) = true := by decide +kernel
theorem c2 : chkF prm f2 (top 9) = true := by decide +kernel
theorem c3 : chkF prm f3 (top 10) = true := by decide +kernel
theorem c4 : chkF prm f4 (top 11) = true := by decide +kernel
theorem c5 : chkF prm f5 (top 16) = true := by decide +kernel
theorem c6 : chkF prm f6 (top 17) = true := by decide +kernel
theorem c7 : chkF prm f7 (top 18) = true := by decide +kernel
theorem c8 : chkF prm f8 (top 19) = true := by decide +kernel
theorem c9 : chkF prm f9 (top 20) = true := by decide +kernel
theorem c10 : chkF prm f10 (top 21) = true := by decide +kernel
theorem c11 : chkF prm f11 (top 22) = true := by decide +kernel
theorem c12 : chkF prm f12 (top 26) = true := by decide +kernel
theorem c13 : chkF prm f13 (top 27) = true := by decide +kernel
theorem c14 : chkF prm f14 (top 29) = true := by decide +kernel
theorem c15 : chkF prm f15 (top 30) = true := by decide +kernel
theorem c16 : chkF prm f16 (top 31) = true := by decide +kernel
theorem c17 : chkF prm f17 (top 32) = true := by decide +kernel
theorem c18 : chkF prm f18 (top 33) = true := by decide +kernel
theorem c19 : chkF prm f19 (top 34) = true := by decide +kernel
theorem c20 : chkF prm f20 (top 35) = true := by decide +kernel
theorem c21 : chkF prm f21 (top 36) = true := by decide +kernel
theorem c22 : chkF prm f22 (top 37) = true := by decide +kernel
theorem c23 : chkF prm f23 (top 38) = true := by decide +kernel
theorem c24 : chkF prm f24 (top 39) = true := by decide +kernel
theorem c25 : chkF prm f25 (top 40) = true := by decide +kernel
theorem c26 : chkF prm f26 (top 41) = true := by decide +kernel
theorem c27 : chkF prm f27 (top 42) = true := by decide +kernel
theorem c28 : chkF prm f28 (top 43) = true := by decide +kernel
theorem c29 : chkF prm f29 (top 44) = true := by decide +kernel
theorem c30 : chkF prm f30 (top 45) = true := by decide +kernel
theorem c31 : chkF prm f31 (top 46) = true := by decide +kernel
theorem c32 : chkF prm f32 (top 47) = true := by decide +kernel
theorem c33 : chkF prm f33 (top 48) = true := by decide +kernel
theorem c34 : chkF prm f34 (top 49) = true := by decide +kernel
theorem s0 : FnScope f0.N f0.ps (defScope (top 7)) := ⟨rfl, rfl, rfl, by decide +kernel, rfl, by decide +kernel, by decide +kernel⟩
theorem s1 : FnScope f1.N f1.ps (defScope (top 8)) := ⟨rfl, rfl, rfl, by decide +kernel, rfl, by decide +kernel, by decide +kernel⟩
theorem s2 : FnScope f2.N f2.ps (defScope (top 9)) := ⟨rfl, rfl, rfl, by decide +kernel, rfl, by decide +kernel, by decide +kernel⟩
theorem s3 : FnScope f3.N f3.ps (defScope (top 10)) := ⟨rfl, rfl, rfl, by decide +kernel, rfl, by decide +kernel, by decide +kernel⟩
theorem s4 : FnScope f4.N f4.ps (defScope (top 11)) := ⟨rfl, rfl, rfl, by decide +kernel, rfl, by decide +kernel, by decide +kernel⟩
theorem s5 : FnScope f5.N f5.ps (defScope (top 16)) := ⟨rfl, rfl, rfl, by decide +kernel, rfl, by decide +kernel, by decide +kernel⟩
theorem s6 : FnScope f6.N f6.ps (defScope (top 17)) := ⟨rfl, rfl, rfl, by decide +kernel, rfl, by decide +kernel, by decide +kernel⟩
theorem s7 : FnScope f7.N f7.ps (defScope (top 18)) := ⟨rfl, rfl, rfl, by decide +kernel, rfl, by decide +kernel, by decide +kernel⟩
theorem s8 : FnScope f8.N f8.ps (defScope (top 19)) := ⟨rfl, rfl, rfl, by decide +kernel, rfl, by decide +kernel, by decide +kernel⟩
theorem s9 : FnScope f9.N f9.ps (defScope (top 20)) := ⟨rfl, rfl, rfl, by decide +kernel, rfl, by decide +kernel, by decide +kernel⟩
theorem s10 : FnScope f10.N f10.ps (defScope (top 21)) := ⟨rfl, rfl, rfl, by decide +kernel, rfl, by decide +kernel, by decide +kernel⟩
theorem s11 : FnScope f11.N f11.ps (defScope (top 22)) := ⟨rfl, rfl, rfl, by decide +kernel, rfl, by decide +kernel, by decide +kernel⟩
theorem s12 : FnScope f12.N f12.ps (defScope (top 26)) := ⟨rfl, rfl, rfl, by decide +kernel, rfl, by decide +kernel, by decide +kernel⟩
theorem s13 : FnScope f13.N f13.ps (defScope (top 27)) := ⟨rfl, rfl, rfl, by decide +kernel, rfl, by decide +kernel, by decide +kernel⟩
theorem s14 : FnScope f14.N f14.ps (defScope (top 29)) := ⟨rfl, rfl, rfl, by decide +kernel, rfl, by decide +kernel, by decide +kernel⟩
theorem s15 : FnScope f15.N f15.ps (defScope (top 30)) := ⟨rfl, rfl, rfl, by decide +kernel, rfl, by decide +kernel, by decide +kernel⟩
theorem s16 : FnScope f16.N f16.ps (defScope (top 31)) := ⟨rfl, rfl, rfl, by decide +kernel, rfl, by decide +kernel, by decide +kernel⟩
theorem s17 : FnScope f17.N f17.ps (defScope (top 32)) := ⟨rfl, rfl, rfl, by decide +kernel, rfl, by decide +kernel, by decide +kernel⟩
theorem s18 : FnScope f18.N f18.ps (defScope (top 33)) := ⟨rfl, rfl, rfl, by decide +kernel, rfl, by decide +kernel, by decide +kernel⟩
theorem s19 : FnScope f19.N f19.ps (defScope (top 34)) := ⟨rfl, rfl, rfl, by decide +kernel, rfl, by decide +kernel, by decide +kernel⟩
theorem s20 : FnScope f20.N f20.ps (defScope (top 35)) := ⟨rfl, rfl, rfl, by decide +kernel, rfl, by decide +kernel, by decide +kernel⟩
theorem s21 : FnScope f21.N f21.ps (defScope (top 36)) := ⟨rfl, rfl, rfl, by decide +kernel, rfl, by decide +kernel, by decide +kernel⟩
theorem s22 : FnScope f22.N f22.ps (defScope (top 37)) := ⟨rfl, rfl, rfl, by decide +kernel, rfl, by decide +kernel, by decide +kernel⟩
theorem s23 : FnScope f23.N f23.ps (defScope (top 38)) := ⟨rfl, rfl, rfl, by decide +kernel, rfl, by decide +kernel, by decide +kernel⟩
theorem s24 : FnScope f24.N f24.ps (defScope (top 39)) := ⟨rfl, rfl, rfl, by decide +kernel, rfl, by decide +kernel, by decide +kernel⟩
theorem s25 : FnScope f25.N f25.ps (defScope (top 40)) := ⟨rfl, rfl, rfl, by decide +kernel, rfl, by decide +kernel, by decide +kernel⟩
theorem s26 : FnScope f26.N f26.ps (defScope (top 41)) := ⟨rfl, rfl, rfl, by decide +kernel, rfl, by decide +kernel, by decide +kernel⟩
theorem s27 : FnScope f27.N f27.ps (defScope (top 42)) := ⟨rfl, rfl, rfl, by decide +kernel, rfl, by decide +kernel, by decide +kernel⟩
theorem s28 : FnScope f28.N f28.ps (defScope (top 43)) := ⟨rfl, rfl, rfl, by decide +kernel, rfl, by decide +kernel, by decide +kernel⟩
theorem s29 : FnScope f29.N f29.ps (defScope (top 44)) := ⟨rfl, rfl, rfl, by decide +kernel, rfl, by decide +kernel, by decide +kernel⟩
theorem s30 : FnScope f30.N f30.ps (defScope (top 45)) := ⟨rfl, rfl, rfl, by decide +kernel, rfl, by decide +kernel, by decide +kernel⟩
theorem s31 : FnScope f31.N f31.ps (defScope (top 46)) := ⟨rfl, rfl, rfl, by decide +kernel, rfl, by decide +kernel, by decide +kernel⟩
theorem s32 : FnScope f32.N f32.ps (defScope (top 47)) := ⟨rfl, rfl, rfl, by decide +kernel, rfl, by decide +kernel, by decide +kernel⟩
theorem s33 : FnScope f33.N f33.ps (defScope (top 48)) := ⟨rfl, rfl, rfl, by decide +kernel, rfl, by decide +kernel, by decide +kernel⟩
theorem s34 : FnScope f34.N f34.ps (defScope (top 49)) := ⟨rfl, rfl, rfl, by decide +kernel, rfl, by decide +kernel, by decide +kernel⟩
end K54
end

section
set_option autoImplicit false
set_option linter.all false
/-! The tongue's answers, step by step. -/
namespace DL
open PySem
/-- bind on a value: not by definition for simp, so that the kernel need not find the reduct itself -/
@[simp] theorem bnd {α β : Type} (x : α) (f : α → Option β) : (some x).bind f = f x := (rfl)
/-! eliminators, so that no match is left to be reduced -/
def getV (ρ : Env) (S : Store) (i : Nat) : Rs E := match ρ[i]? with
  | some (some x) => some (x, S)
  | _ => none
@[simp] theorem getV_zero (x : E) (r : Env) (S : Store) : getV (some x :: r) S 0 = some (x, S) := (rfl)
@[simp] theorem getV_succ (x : Option E) (r : Env) (S : Store) (i : Nat) : getV (x :: r) S (i + 1) = getV r S i := (rfl)
def thenO {α : Type} (o : Out) (f : Env → Option α) (h : E → Option α) : Option α := match o with
  | .nx ρ => f ρ
  | .ret x => h x
@[simp] theorem thenO_nx {α : Type} (ρ : Env) (f : Env → Option α) (h : E → Option α) : thenO (.nx ρ) f h = f ρ := (rfl)
@[simp] theorem thenO_ret {α : Type} (x : E) (f : Env → Option α) (h : E → Option α) : thenO (.ret x) f h = h x := (rfl)
def onSeq {α : Type} (x : D) (f : List D → Option α) : Option α := match x with
  | .lst xs => f xs
  | .scr xs => f xs
  | _ => none
@[simp] theorem onSeq_lst {α : Type} (xs : List D) (f : List D → Option α) : onSeq (.lst xs) f = f xs := (rfl)
@[simp] theorem onSeq_scr {α : Type} (xs : List D) (f : List D → Option α) : onSeq (.scr xs) f = f xs := (rfl)
def onT {α : Type} (x : D) (f : List D → Option α) : Option α := match x with
  | .tup xs => f xs
  | _ => none
@[simp] theorem onT_tup {α : Type} (xs : List D) (f : List D → Option α) : onT (.tup xs) f = f xs := (rfl)
def onDct {α : Type} (x : D) (f : List (L2.Key × D) → Option α) : Option α := match x with
  | .dct xs => f xs
  | _ => none
@[simp] theorem onDct_dct {α : Type} (xs : List (L2.Key × D)) (f : List (L2.Key × D) → Option α) : onDct (.dct xs) f = f xs := (rfl)
def onBl {α : Type} (x : D) (f : Bool → Option α) : Option α := match x with
  | .bl true => f true
  | .bl false => f false
  | _ => none
@[simp] theorem onBl_bl {α : Type} (b : Bool) (f : Bool → Option α) : onBl (.bl b) f = f b := by cases b <;> rfl
def onR {α : Type} (x : E) (f : Nat → Option α) : Option α := match x with
  | .r m => f m
  | _ => none
@[simp] theorem onR_r {α : Type} (m : Nat) (f : Nat → Option α) : onR (.r m) f = f m := (rfl)
def onL {α : Type} (x : E) (f : List D → Option α) : Option α := match x with
  | .d (.lst xs) => f xs
  | _ => none
@[simp] theorem onL_lst {α : Type} (xs : List D) (f : List D → Option α) : onL (.d (.lst xs)) f = f xs := (rfl)
def onG {α : Type} (x : E) (f : List D → List D → Option α) : Option α := match x with
  | .d (.lst (.lst (_ :: ys) :: r)) => f ys r
  | _ => none
@[simp] theorem onG_lst {α : Type} (y : D) (ys r : List D) (f : List D → List D → Option α) : onG (.d (.lst (.lst (y :: ys) :: r))) f = f ys r := (rfl)
/-- the open list m of the store -/
def getS {α : Type} (S : Store) (m : Nat) (f : List D → Option α) : Option α := match S[m]? with
  | some (some xs) => f xs
  | _ => none
theorem getS_of {α : Type} {S : Store} {m : Nat} {xs : List D} (h : S[m]? = some (some xs)) (f : List D → Option α) : getS S m f = f xs := by
  unfold getS
  rw [h]
theorem deref_r {S : Store} {m : Nat} {xs : List D} (h : S[m]? = some (some xs)) : deref S (.r m) = some (.lst xs) := by
  unfold deref
  simp only [h]
@[simp] theorem getS_snoc {α : Type} {S : Store} {xs : List D} (f : List D → Option α) : getS (S ++ [some xs]) S.length f = f xs := getS_of (by simp) f
@[simp] theorem deref_snoc {S : Store} {xs : List D} : deref (S ++ [some xs]) (.r S.length) = some (.lst xs) := deref_r (by simp)
section
variable {C : Call} {n : Nat} {ρ : Env} {S : Store}
@[simp] theorem deref_d (x : D) : deref S (.d x) = some x := (rfl)
@[simp] theorem asD_d (x : D) : asD (.d x) = some x := (rfl)
@[simp] theorem asI_int (i : Int) : asI (.int i) = some i := (rfl)
@[simp] theorem asL_lst (i : List D) : asL (.lst i) = some i := (rfl)
@[simp] theorem asT_tup (i : List D) : asT (.tup i) = some i := (rfl)
@[simp] theorem isTrueD_bl (b : Bool) : isTrueD (.d (.bl b)) = some b := (rfl)
@[simp] theorem asDs_nil : asDs [] = some [] := (rfl)
@[simp] theorem asDs_cons (x : D) (r : List E) : asDs (.d x :: r) = (asDs r).map (x :: ·) := (rfl)
@[simp] theorem ev_var (i : Nat) : ev C (n + 1) (.var i) ρ S = getV ρ S i := (rfl)
@[simp] theorem ev_cst (x : D) : ev C (n + 1) (.cst x) ρ S = some (.d x, S) := (rfl)
@[simp] theorem ev_glob (x : Str) (v : D) : ev C (n + 1) (.glob x v) ρ S = some (.d v, S) := (rfl)
@[simp] theorem ev_o2 (o : O2) (a b : Tm) : ev C (n + 1) (.o2 o a b) ρ S = (ev C n a ρ S).bind fun p => (ev C n b ρ p.2).bind fun q => (deref q.2 p.1).bind fun x => (deref q.2 q.1).bind fun y => (DL.o2 o x y).bind fun z => some (.d z, q.2) := (rfl)
@[simp] theorem ev_chain (o o' : O2) (a b c : Tm) : ev C (n + 1) (.chain o o' a b c) ρ S = (ev C n a ρ S).bind fun p => (ev C n b ρ p.2).bind fun q => (deref q.2 p.1).bind fun x => (deref q.2 q.1).bind fun y => (DL.o2 o x y).bind fun z => onBl z fun k =>
      if k = true then (ev C n c ρ q.2).bind fun r => (deref r.2 q.1).bind fun y' => (deref r.2 r.1).bind fun w => (DL.o2 o' y' w).bind fun u => some (.d u, r.2)
      else some (.d (.bl false), q.2) := (rfl)
@[simp] theorem ev_and (a b : Tm) : ev C (n + 1) (.and a b) ρ S = (ev C n a ρ S).bind fun p => (isTrueD p.1).bind fun c => if c = true then ev C n b ρ p.2 else some (.d (.bl false), p.2) := (rfl)
@[simp] theorem ev_or (a b : Tm) : ev C (n + 1) (.or a b) ρ S = (ev C n a ρ S).bind fun p => (isTrueD p.1).bind fun c => if c = true then some (.d (.bl true), p.2) else ev C n b ρ p.2 := (rfl)
@[simp] theorem ev_not (a : Tm) : ev C (n + 1) (.not a) ρ S = (ev C n a ρ S).bind fun p => (isTrueD p.1).bind fun c => some (.d (.bl (!c)), p.2) := (rfl)
@[simp] theorem ev_ite (c a b : Tm) : ev C (n + 1) (.ite c a b) ρ S = (ev C n c ρ S).bind fun p => (isTrueD p.1).bind fun k => if k = true then ev C n a ρ p.2 else ev C n b ρ p.2 := (rfl)
@[simp] theorem ev_o1 (o : O1) (a : Tm) : ev C (n + 1) (.o1 o a) ρ S = (ev C n a ρ S).bind fun p => (deref p.2 p.1).bind fun x => (DL.o1 o x).bind fun z => some (.d z, p.2) := (rfl)
@[simp] theorem ev_max2 (a b : Tm) : ev C (n + 1) (.max2 a b) ρ S = (ev C n a ρ S).bind fun p => (ev C n b ρ p.2).bind fun q => (asD p.1).bind fun x => (asD q.1).bind fun y => (asI x).bind fun i => (asI y).bind fun j => some (.d (.int (if j > i then j else i)), q.2) := (rfl)
@[simp] theorem ev_min2 (a b : Tm) : ev C (n + 1) (.min2 a b) ρ S = (ev C n a ρ S).bind fun p => (ev C n b ρ p.2).bind fun q => (asD p.1).bind fun x => (asD q.1).bind fun y => (asI x).bind fun i => (asI y).bind fun j => some (.d (.int (if j < i then j else i)), q.2) := (rfl)
@[simp] theorem ev_isa (k : Ty) (a : Tm) : ev C (n + 1) (.isa k a) ρ S = (ev C n a ρ S).bind fun p => (asD p.1).bind fun x => some (.d (.bl (DL.isa k x)), p.2) := (rfl)
@[simp] theorem ev_call (f : Nat) (as : List Tm) : ev C (n + 1) (.call f as) ρ S = (evs (ev C n) as ρ S).bind fun p => C f p.1 p.2 := (rfl)
@[simp] theorem ev_callK (f : Nat) (as : List Tm) : ev C (n + 1) (.callK f as) ρ S = (evs (ev C n) as ρ S).bind fun p => C f p.1 p.2 := (rfl)
@[simp] theorem ev_tup (as : List Tm) : ev C (n + 1) (.tup as) ρ S = (evs (ev C n) as ρ S).bind fun p => (asDs p.1).bind fun xs => if fits xs.length = true then some (.d (.tup xs), p.2) else none := (rfl)
@[simp] theorem ev_lst (as : List Tm) : ev C (n + 1) (.lst as) ρ S = (evs (ev C n) as ρ S).bind fun p => (asDs p.1).bind fun xs => if fits xs.length = true then some (.d (.lst xs), p.2) else none := (rfl)
@[simp] theorem ev_idxL (a b : Tm) : ev C (n + 1) (.idxL a b) ρ S = (ev C n a ρ S).bind fun p => (ev C n b ρ p.2).bind fun q => (deref q.2 p.1).bind fun x => (asD q.1).bind fun y => (asI y).bind fun i => onSeq x fun xs => (atD xs i).bind fun z => some (.d z, q.2) := (rfl)
@[simp] theorem ev_idxT (a b : Tm) : ev C (n + 1) (.idxT a b) ρ S = (ev C n a ρ S).bind fun p => (ev C n b ρ p.2).bind fun q => (asD p.1).bind fun x => (asD q.1).bind fun y => (asI y).bind fun i => onT x fun xs => (atD xs i).bind fun z => some (.d z, q.2) := (rfl)
@[simp] theorem ev_idxD (a b : Tm) : ev C (n + 1) (.idxD a b) ρ S = (ev C n a ρ S).bind fun p => (ev C n b ρ p.2).bind fun q => (asD p.1).bind fun x => (asD q.1).bind fun y => (keyOf y).bind fun k => onDct x fun kvs => (valD kvs k).bind fun z => some (.d z, q.2) := (rfl)
@[simp] theorem ev_slL (a : Tm) (lo hi : Option Tm) : ev C (n + 1) (.slL a lo hi) ρ S = (ev C n a ρ S).bind fun p => (evO (ev C n) lo ρ p.2).bind fun l => (evO (ev C n) hi ρ l.2).bind fun h => (deref h.2 p.1).bind fun x => onSeq x fun xs => some (.d (.lst (cutD xs l.1 h.1)), h.2) := (rfl)
@[simp] theorem ev_slT (a : Tm) (lo hi : Option Tm) : ev C (n + 1) (.slT a lo hi) ρ S = (ev C n a ρ S).bind fun p => (evO (ev C n) lo ρ p.2).bind fun l => (evO (ev C n) hi ρ l.2).bind fun h => (asD p.1).bind fun x => onT x fun xs => some (.d (.tup (cutD xs l.1 h.1)), h.2) := (rfl)
@[simp] theorem ev_lc (elt : Tm) (tg : Tg) (k : IK) (its ifs : List Tm) (own : List Nat) : ev C (n + 1) (.lc elt tg k its ifs own) ρ S = (evs (ev C n) its ρ S).bind fun p => (walked p.2 k p.1).bind fun xs => (turns (ev C n) elt tg ifs own ρ xs [] p.2).bind fun q => some (.d (.lst q.1), q.2) := (rfl)
@[simp] theorem ev_app (a b : Tm) : ev C (n + 1) (.app a b) ρ S = (ev C n a ρ S).bind fun p => (deref p.2 p.1).bind fun _ => (ev C n b ρ p.2).bind fun q => (asD q.1).bind fun y => onR p.1 fun m => getS q.2 m fun xs => if xs.length < 10000000 then some (.d .non, q.2.set m (some (xs ++ [y]))) else none := (rfl)
@[simp] theorem ev_ext (a b : Tm) : ev C (n + 1) (.ext a b) ρ S = (ev C n a ρ S).bind fun p => (deref p.2 p.1).bind fun _ => (ev C n b ρ p.2).bind fun q => (asD q.1).bind fun y => onR p.1 fun m => (asL y).bind fun ys => getS q.2 m fun xs => if fits (xs.length + ys.length) = true then some (.d .non, q.2.set m (some (xs ++ ys))) else none := by
  conv => lhs; unfold ev
  show Option.bind _ _ = _
  congr 1
  funext p
  congr 1
  funext _
  congr 1
  funext q
  congr 1
  funext y
  cases p.1 <;> cases y <;> rfl
@[simp] theorem ev_new (a : Tm) : ev C (n + 1) (.new a) ρ S = (ev C n a ρ S).bind fun p => onL p.1 fun xs => some (.r p.2.length, p.2 ++ [some xs]) := (rfl)
@[simp] theorem ev_lstRg1 (a : Tm) : ev C (n + 1) (.lstRg1 a) ρ S = (ev C n a ρ S).bind fun p => (asD p.1).bind fun x => (asI x).bind fun j => if rgOk 0 j = true then some (.d (.lst (rangeD 0 j)), p.2) else none := (rfl)
@[simp] theorem ev_tupZip (a b : Tm) : ev C (n + 1) (.tupZip a b) ρ S = (ev C n a ρ S).bind fun p => (ev C n b ρ p.2).bind fun q => (asD p.1).bind fun x => (asD q.1).bind fun y => (asT x).bind fun xs => (asT y).bind fun ys => if decide (xs.length ≤ ys.length) = true then some (.d (.tup (zipD xs ys)), q.2) else none := (rfl)
@[simp] theorem ev_sortSetT (a : Tm) : ev C (n + 1) (.sortSetT a) ρ S = (ev C n a ρ S).bind fun p => (asD p.1).bind fun x => (asT x).bind fun xs => (intsOf xs).bind fun ns => if decide (ns.length < 63) = true then some (.d (.lst ((sortSet ns).map .int)), p.2) else none := (rfl)
@[simp] theorem ev_dictL (a : Tm) : ev C (n + 1) (.dictL a) ρ S = (ev C n a ρ S).bind fun p => (asD p.1).bind fun x => (asL x).bind fun xs => (pairsOf xs).bind fun kvs => some (.d (.dct (mergeD [] kvs)), p.2) := (rfl)
@[simp] theorem evs_nil (g : Ev) : evs g [] ρ S = some ([], S) := (rfl)
@[simp] theorem evs_cons (g : Ev) (t : Tm) (ts : List Tm) : evs g (t :: ts) ρ S = (g t ρ S).bind fun p => (evs g ts ρ p.2).bind fun q => some (p.1 :: q.1, q.2) := (rfl)
@[simp] theorem evO_none (g : Ev) : evO g none ρ S = some (none, S) := (rfl)
@[simp] theorem evO_some (g : Ev) (t : Tm) : evO g (some t) ρ S = (g t ρ S).bind fun p => (asD p.1).bind fun x => (asI x).bind fun i => some (some i, p.2) := (rfl)
@[simp] theorem evT_nil (g : Ev) : evT g [] ρ S = some (true, S) := (rfl)
@[simp] theorem evT_cons (g : Ev) (t : Tm) (ts : List Tm) : evT g (t :: ts) ρ S = (g t ρ S).bind fun p => (isTrueD p.1).bind fun b => if b = true then evT g ts ρ p.2 else some (false, p.2) := by
  show ((g t ρ S).bind fun p => match p.1 with
    | .d (.bl b) => if b = true then evT g ts ρ p.2 else some (false, p.2)
    | _ => none) = _
  congr 1
  funext p
  cases p.1 with
  | d x => cases x <;> rfl
  | r m => rfl
@[simp] theorem exs_nil (g : Ex) : exs g [] ρ S = some (.nx ρ, S) := (rfl)
@[simp] theorem exs_cons (g : Ex) (s : Stm) (r : List Stm) : exs g (s :: r) ρ S = (g s ρ S).bind fun p => thenO p.1 (fun ρ1 => exs g r ρ1 p.2) fun x => some (.ret x, p.2) := (rfl)
@[simp] theorem ex_asgN (i : Nat) (e : Tm) : ex C (n + 1) (.asg (.nm i) e) ρ S = (ev C 40 e ρ S).bind fun p => if i < ρ.length then some (.nx (ρ.set i (some p.1)), p.2) else none := (rfl)
@[simp] theorem ex_asgT (ts : List Tg) (e : Tm) : ex C (n + 1) (.asg (.tp ts) e) ρ S = (ev C 40 e ρ S).bind fun p => (asD p.1).bind fun x => (bindT (.tp ts) x ρ).bind fun ρ1 => some (.nx ρ1, p.2) := (rfl)
@[simp] theorem ex_par (i j : Nat) (a b : Tm) : ex C (n + 1) (.par i j a b) ρ S = (ev C 40 a ρ S).bind fun p => (ev C 40 b ρ p.2).bind fun q => if i < ρ.length ∧ j < ρ.length then some (.nx ((ρ.set i (some p.1)).set j (some q.1)), q.2) else none := (rfl)
@[simp] theorem ex_par3 (i j l : Nat) (a b c : Tm) : ex C (n + 1) (.par3 i j l a b c) ρ S = (ev C 40 a ρ S).bind fun p => (ev C 40 b ρ p.2).bind fun q => (ev C 40 c ρ q.2).bind fun r => if i < ρ.length ∧ j < ρ.length ∧ l < ρ.length then some (.nx (((ρ.set i (some p.1)).set j (some q.1)).set l (some r.1)), r.2) else none := (rfl)
@[simp] theorem ex_setI (o i e : Tm) : ex C (n + 1) (.setI o i e) ρ S = (ev C 40 e ρ S).bind fun p => (ev C 40 o ρ p.2).bind fun q => (ev C 40 i ρ q.2).bind fun r => (asD p.1).bind fun x => (asD r.1).bind fun y => (asI y).bind fun k => onR q.1 fun m => getS r.2 m fun xs => (place xs.length k).bind fun j => some (.nx ρ, r.2.set m (some (xs.set j x))) := (rfl)
@[simp] theorem ex_grid (i : Nat) (a : Tm) (v : D) : ex C (n + 1) (.grid i a v) ρ S = (ev C 40 a ρ S).bind fun p => onG p.1 fun ys r => if i < ρ.length then some (.nx (ρ.set i (some (.d (.lst (.lst (v :: ys) :: r))))), p.2) else none := (rfl)
@[simp] theorem ex_expr (e : Tm) : ex C (n + 1) (.expr e) ρ S = (ev C 40 e ρ S).bind fun p => some (.nx ρ, p.2) := (rfl)
@[simp] theorem ex_ife (c : Tm) (a b : List Stm) : ex C (n + 1) (.ife c a b) ρ S = (ev C 40 c ρ S).bind fun p => (isTrueD p.1).bind fun k => if k = true then exs (ex C n) a ρ p.2 else exs (ex C n) b ρ p.2 := (rfl)
@[simp] theorem ex_for (t : Tg) (k : IK) (its : List Tm) (body : List Stm) : ex C (n + 1) (.for_ t k its body) ρ S = (evs (ev C 40) its ρ S).bind fun p => (walked p.2 k p.1).bind fun xs => forL (ex C n) t body xs ρ p.2 := (rfl)
@[simp] theorem ex_while (c : Tm) (body : List Stm) : ex C (n + 1) (.while_ c body) ρ S = whileL (ev C 40) (ex C n) c body fuelW ρ S := (rfl)
@[simp] theorem ex_ret (e : Tm) : ex C (n + 1) (.ret e) ρ S = (ev C 40 e ρ S).bind fun p => some (.ret p.1, p.2) := (rfl)
@[simp] theorem ex_pass : ex C (n + 1) .pass ρ S = some (.nx ρ, S) := (rfl)
@[simp] theorem ex_frz (i : Nat) : ex C (n + 1) (.frz i) ρ S = (getV ρ S i).bind fun p => onR p.1 fun m => getS S m fun xs => some (.nx (ρ.set i (some (.d (.lst xs)))), S.set m none) := by
  unfold ex getV
  dsimp only
  rcases ρ[i]? with _ | (_ | (_ | _)) <;> rfl
theorem whileL_succ (e : Ev) (g : Ex) (c : Tm) (body : List Stm) (m : Nat) : whileL e g c body (m + 1) ρ S = (e c ρ S).bind fun q => (isTrueD q.1).bind fun k => if k = true then (exs g body ρ q.2).bind fun p => thenO p.1 (fun ρ2 => whileL e g c body m ρ2 p.2) (fun y => some (.ret y, p.2)) else some (.nx ρ, q.2) := (rfl)
@[simp] theorem forL_nil (g : Ex) (tg : Tg) (body : List Stm) : forL g tg body [] ρ S = some (.nx ρ, S) := (rfl)
theorem forL_cons (g : Ex) (tg : Tg) (body : List Stm) (x : D) (xs : List D) : forL g tg body (x :: xs) ρ S = (bindT tg x ρ).bind fun ρ1 => (exs g body ρ1 S).bind fun p => thenO p.1 (fun ρ2 => forL g tg body xs ρ2 p.2) fun y => some (.ret y, p.2) := (rfl)
@[simp] theorem turns_nil (g : Ev) (elt : Tm) (tg : Tg) (ifs : List Tm) (own : List Nat) (acc : List D) : turns g elt tg ifs own ρ [] acc S = some (acc, S) := (rfl)
theorem turns_cons (g : Ev) (elt : Tm) (tg : Tg) (ifs : List Tm) (own : List Nat) (x : D) (xs acc : List D) : turns g elt tg ifs own ρ (x :: xs) acc S = (bindT tg x (wipe ρ own)).bind fun ρ1 => (evT g ifs ρ1 S).bind fun b =>
      if b.1 = true then (g elt ρ1 b.2).bind fun p => (asD p.1).bind fun y => if acc.length < 10000000 then turns g elt tg ifs own ρ xs (acc ++ [y]) p.2 else none
      else turns g elt tg ifs own ρ xs acc b.2 := (rfl)
@[simp] theorem bindT_nm (i : Nat) (x : D) : bindT (.nm i) x ρ = if i < ρ.length then some (ρ.set i (some (.d x))) else none := by
  unfold bindT
  rfl
@[simp] theorem bindT_tp (ts : List Tg) (xs : List D) : bindT (.tp ts) (.tup xs) ρ = bindTs ts xs ρ := by
  conv => lhs; unfold bindT
@[simp] theorem bindTs_nil : bindTs [] [] ρ = some ρ := by
  unfold bindTs
  rfl
@[simp] theorem bindTs_cons (t : Tg) (ts : List Tg) (x : D) (xs : List D) : bindTs (t :: ts) (x :: xs) ρ = (bindT t x ρ).bind fun ρ1 => bindTs ts xs ρ1 := by
  conv => lhs; unfold bindTs
@[simp] theorem wipe_nil : wipe ρ [] = ρ := (rfl)
@[simp] theorem wipe_cons (v : Nat) (vs : List Nat) : wipe ρ (v :: vs) = (wipe ρ vs).set v none := (rfl)
end
@[simp] theorem finish_d (n : Nat) (S : Store) (x : D) : finish n S (.d x) = some (.d x, S.take n) := (rfl)
/-- a call, its body run -/
theorem callD_run {T : List Fn} {k f : Nat} {fn : Fn} {xs : List E} {S : Store} (hf : T[f]? = some fn) (hl : xs.length = fn.ps.length) :
    callD T (k + 1) f xs S = (exs (ex (callD T k) 20) fn.body (xs.map some ++ List.replicate (fn.N.length - xs.length) none) S).bind fun p => thenO p.1 (fun _ => some (.d .non, p.2.take S.length)) fun x => finish S.length p.2 x := by
  unfold callD
  simp only [hf, hl, if_true]
  congr 1
  funext p
  cases p.1 <;> rfl
/-! operators -/
@[simp] theorem o2_add (i j : Int) : o2 .add (.int i) (.int j) = some (.int (i + j)) := (rfl)
@[simp] theorem o2_sub (i j : Int) : o2 .sub (.int i) (.int j) = some (.int (i - j)) := (rfl)
@[simp] theorem o2_band (i j : Int) : o2 .band (.int i) (.int j) = some (.int (Builtin.bitAnd i j)) := (rfl)
@[simp] theorem o2_lt (i j : Int) : o2 .lt (.int i) (.int j) = some (.bl (decide (i < j))) := (rfl)
@[simp] theorem o2_le (i j : Int) : o2 .le (.int i) (.int j) = some (.bl (decide (i ≤ j))) := (rfl)
@[simp] theorem o2_gt (i j : Int) : o2 .gt (.int i) (.int j) = some (.bl (decide (j < i))) := (rfl)
@[simp] theorem o2_ge (i j : Int) : o2 .ge (.int i) (.int j) = some (.bl (decide (j ≤ i))) := (rfl)
theorem o2_mul {i j : Int} (h : mulOk i j = true) : o2 .mul (.int i) (.int j) = some (.int (i * j)) := by
  show (if mulOk i j = true then _ else _) = _
  rw [if_pos h]
theorem o2_fdiv {i j : Int} (h : divOk j = true) : o2 .fdiv (.int i) (.int j) = some (.int (i / j)) := by
  show (if divOk j = true then _ else _) = _
  rw [if_pos h]
theorem o2_mod {i j : Int} (h : 0 < j) : o2 .mod (.int i) (.int j) = some (.int (i % j)) := by
  show (if decide (0 < j) = true then _ else _) = _
  rw [if_pos (decide_eq_true h)]
theorem o2_shr {i j : Int} (h : 0 ≤ j) : o2 .shr (.int i) (.int j) = some (.int (i / 2 ^ j.toNat)) := by
  show (if decide (0 ≤ j) = true then _ else _) = _
  rw [if_pos (decide_eq_true h)]
@[simp] theorem eqD_int (i j : Int) : o2 .eq (.int i) (.int j) = some (.bl (decide (i = j))) := by
  have e1 : eqOk (.int i) = true := by simp [eqOk, D.flat, D.py, SeqAt.shaped, PyData.canLay0, PyData.depth]
  have e2 : eqOk (.int j) = true := by simp [eqOk, D.flat, D.py, SeqAt.shaped, PyData.canLay0, PyData.depth]
  show (if (eqOk (.int i) && eqOk (.int j)) = true then some (D.bl (eqD (.int i) (.int j))) else none) = _
  rw [e1, e2]
  have e3 : eqD (.int i) (.int j) = decide (i = j) := by
    simp [eqD, D.py, PyData.eqv, Bool.beq_eq_decide_eq]
  rw [e3]
  rfl
@[simp] theorem neD_int (i j : Int) : o2 .ne (.int i) (.int j) = some (.bl (!decide (i = j))) := by
  have e1 : eqOk (.int i) = true := by simp [eqOk, D.flat, D.py, SeqAt.shaped, PyData.canLay0, PyData.depth]
  have e2 : eqOk (.int j) = true := by simp [eqOk, D.flat, D.py, SeqAt.shaped, PyData.canLay0, PyData.depth]
  show (if (eqOk (.int i) && eqOk (.int j)) = true then some (D.bl (!eqD (.int i) (.int j))) else none) = _
  rw [e1, e2]
  have e3 : eqD (.int i) (.int j) = decide (i = j) := by
    simp [eqD, D.py, PyData.eqv, Bool.beq_eq_decide_eq]
  rw [e3]
  rfl
end DL
end

section
set_option autoImplicit false
set_option linter.all false
/-! Loops and comprehensions of the tongue, by invariants. -/
namespace DL
open PySem
theorem bind_out {α β : Type} {a : Option α} {f : α → Option β} {z : β} (h : a.bind f = some z) : ∃ x, a = some x ∧ f x = some z := by
  cases a with
  | none => cases h
  | some x => exact ⟨x, rfl, h⟩
theorem forL_inv {g : Ex} {tg : Tg} {body : List Stm} (Inv : Nat → Env → Store → Prop) : ∀ (ds : List D) (k : Nat) (ρ : Env) (S : Store), Inv k ρ S →
    (∀ i (hi : i < ds.length) ρ S, Inv (k + i) ρ S → ∃ ρ' S', ((bindT tg ds[i] ρ).bind fun ρ1 => exs g body ρ1 S) = some (.nx ρ', S') ∧ Inv (k + i + 1) ρ' S') →
    ∃ ρ' S', forL g tg body ds ρ S = some (.nx ρ', S') ∧ Inv (k + ds.length) ρ' S'
  | [], k, ρ, S, h0, _ => ⟨ρ, S, rfl, h0⟩
  | d :: ds, k, ρ, S, h0, h => by
    obtain ⟨ρ1, S1, e1, h1⟩ := h 0 (Nat.succ_pos _) ρ S h0
    obtain ⟨ρ2, S2, e2, h2⟩ := forL_inv (g := g) (tg := tg) (body := body) Inv ds (k + 1) ρ1 S1 h1 fun i hi ρ S hI => by
      have e : k + 1 + i = k + (i + 1) := by omega
      rw [e] at hI ⊢
      exact h (i + 1) (Nat.succ_lt_succ hi) ρ S hI
    refine ⟨ρ2, S2, ?_, ?_⟩
    · rw [forL_cons]
      obtain ⟨ρb, eb, ec⟩ := bind_out (show ((bindT tg d ρ).bind fun ρ1 => exs g body ρ1 S) = some (.nx ρ1, S1) from e1)
      rw [eb, Option.bind_some, ec, Option.bind_some]
      exact e2
    · have e : k + (d :: ds).length = k + 1 + ds.length := by rw [List.length_cons]; omega
      rw [e]
      exact h2
theorem turns_pure {g : Ev} {elt : Tm} {tg : Tg} {ifs : List Tm} {own : List Nat} {ρ : Env} {S : Store} {p : D → Bool} {f : D → D} : ∀ (xs acc : List D), (∀ x ∈ xs, ∃ ρ1, bindT tg x (wipe ρ own) = some ρ1 ∧ evT g ifs ρ1 S = some (p x, S) ∧ (p x = true → g elt ρ1 S = some (.d (f x), S))) →
    acc.length + xs.length ≤ 10000000 → turns g elt tg ifs own ρ xs acc S = some (acc ++ (xs.filter p).map f, S)
  | [], acc, _, _ => by simp [-Option.bind_some]
  | x :: xs, acc, h, hl => by
    obtain ⟨ρ1, e1, e2, e3⟩ := h x List.mem_cons_self
    rw [turns_cons, e1, Option.bind_some, e2, Option.bind_some]
    rw [List.length_cons] at hl
    cases hp : p x with
    | true =>
      rw [if_pos rfl, e3 hp, Option.bind_some, asD_d, Option.bind_some, if_pos (by omega), turns_pure xs (acc ++ [f x]) (fun y hy => h y (List.mem_cons_of_mem _ hy)) (by rw [List.length_append, List.length_singleton]; omega)]
      rw [List.filter_cons_of_pos hp, List.map_cons, List.append_assoc]
      rfl
    | false =>
      rw [if_neg Bool.false_ne_true, turns_pure xs acc (fun y hy => h y (List.mem_cons_of_mem _ hy)) (by omega)]
      rw [List.filter_cons_of_neg (by rw [hp]; exact Bool.false_ne_true)]
/-- all taken, nothing changed -/
theorem turns_map {g : Ev} {elt : Tm} {tg : Tg} {own : List Nat} {ρ : Env} {S : Store} (f : D → D) (xs : List D) (h : ∀ x ∈ xs, ∃ ρ1, bindT tg x (wipe ρ own) = some ρ1 ∧ g elt ρ1 S = some (.d (f x), S))
    (hl : xs.length ≤ 10000000) : turns g elt tg [] own ρ xs [] S = some (xs.map f, S) := by
  rw [turns_pure (p := fun _ => true) (f := f) xs [] (fun x hx => by
    obtain ⟨ρ1, e1, e2⟩ := h x hx
    exact ⟨ρ1, e1, rfl, fun _ => e2⟩) (by rw [List.length_nil]; omega)]
  rw [List.filter_eq_self.mpr (fun _ _ => rfl)]
  simp [-Option.bind_some]
/-- all taken, the store turning -/
theorem turns_inv {g : Ev} {elt : Tm} {tg : Tg} {own : List Nat} {ρ : Env} (Inv : Nat → List D → Store → Prop) : ∀ (xs acc : List D) (k : Nat) (S : Store), Inv k acc S →
    (∀ i (hi : i < xs.length) acc S, Inv (k + i) acc S → ∃ y S', ((bindT tg xs[i] (wipe ρ own)).bind fun ρ1 => g elt ρ1 S) = some (.d y, S') ∧ Inv (k + i + 1) (acc ++ [y]) S') →
    acc.length + xs.length ≤ 10000000 → ∃ out S', turns g elt tg [] own ρ xs acc S = some (out, S') ∧ Inv (k + xs.length) out S'
  | [], acc, k, S, h0, _, _ => ⟨acc, S, rfl, h0⟩
  | x :: xs, acc, k, S, h0, h, hl => by
    obtain ⟨y, S1, e1, h1⟩ := h 0 (Nat.succ_pos _) acc S h0
    rw [List.length_cons] at hl
    obtain ⟨out, S2, e2, h2⟩ := turns_inv (g := g) (elt := elt) (tg := tg) (own := own) (ρ := ρ) Inv xs (acc ++ [y]) (k + 1) S1 h1 (fun i hi acc S hI => by
      have e : k + 1 + i = k + (i + 1) := by omega
      rw [e] at hI ⊢
      exact h (i + 1) (Nat.succ_lt_succ hi) acc S hI) (by rw [List.length_append, List.length_singleton]; omega)
    refine ⟨out, S2, ?_, ?_⟩
    · obtain ⟨ρb, eb, ec⟩ := bind_out (show ((bindT tg x (wipe ρ own)).bind fun ρ1 => g elt ρ1 S) = some (.d y, S1) from e1)
      rw [turns_cons, eb, Option.bind_some, evT_nil, Option.bind_some, if_pos rfl, ec, Option.bind_some, asD_d, Option.bind_some, if_pos (by omega)]
      exact e2
    · have e : k + (x :: xs).length = k + 1 + xs.length := by rw [List.length_cons]; omega
      rw [e]
      exact h2
theorem intsOf_map (ns : List Int) : intsOf (ns.map D.int) = some ns := by
  induction ns with
  | nil => rfl
  | cons n r ih => simp [-Option.bind_some, intsOf, ih]
theorem boolsOf_map (ns : List Bool) : boolsOf (ns.map D.bl) = some ns := by
  induction ns with
  | nil => rfl
  | cons n r ih => simp [-Option.bind_some, boolsOf, ih]
theorem o1_sum (ns : List Int) : o1 .sum (.lst (ns.map D.int)) = some (.int ns.sum) := by
  show (intsOf (ns.map D.int)).bind _ = _
  rw [intsOf_map]
  rfl
theorem o1_sumT (ns : List Int) : o1 .sumT (.tup (ns.map D.int)) = some (.int ns.sum) := by
  show (intsOf (ns.map D.int)).bind _ = _
  rw [intsOf_map]
  rfl
theorem o1_all (ns : List Bool) : o1 .all (.lst (ns.map D.bl)) = some (.bl (ns.all id)) := by
  show (boolsOf (ns.map D.bl)).bind _ = _
  rw [boolsOf_map]
  rfl
@[simp] theorem o1_lenL (xs : List D) : o1 .len (.lst xs) = some (.int xs.length) := (rfl)
@[simp] theorem o1_lenT (xs : List D) : o1 .len (.tup xs) = some (.int xs.length) := (rfl)
@[simp] theorem o1_lenS (xs : List D) : o1 .len (.scr xs) = some (.int xs.length) := (rfl)
@[simp] theorem o1_int (i : Int) : o1 .int (.int i) = some (.int i) := (rfl)
@[simp] theorem o1_intb (b : Bool) : o1 .int (.bl b) = some (.int (if b then 1 else 0)) := (rfl)
@[simp] theorem o1_abs (i : Int) : o1 .abs (.int i) = some (.int (if i < 0 then -i else i)) := (rfl)
@[simp] theorem o1_neg (i : Int) : o1 .neg (.int i) = some (.int (-i)) := (rfl)
@[simp] theorem o1_tupleL (xs : List D) : o1 .tupleL (.lst xs) = some (.tup xs) := (rfl)
theorem walked_r1 (S : Store) (n : Int) : walked S .rng1 [.d (.int n)] = if small62 n = true then some ((List.range n.toNat).map fun (i : Nat) => .int (i : Int)) else none := by
  simp only [walked, Int.zero_add]
theorem walked_r2 (S : Store) (a b : Int) : walked S .rng2 [.d (.int a), .d (.int b)] = if (small62 a && small62 b) = true then some ((List.range (b - a).toNat).map fun (i : Nat) => .int (a + (i : Int))) else none := (rfl)
@[simp] theorem walked_lst (S : Store) (xs : List D) : walked S .lst [.d (.lst xs)] = some xs := (rfl)
@[simp] theorem walked_tup (S : Store) (xs : List D) : walked S .tup [.d (.tup xs)] = some xs := (rfl)
@[simp] theorem walked_eL (S : Store) (xs : List D) : walked S .enumL [.d (.lst xs)] = some (enumD 0 xs) := (rfl)
@[simp] theorem walked_eT (S : Store) (xs : List D) : walked S .enumT [.d (.tup xs)] = some (enumD 0 xs) := (rfl)
@[simp] theorem walked_zL (S : Store) (xs ys : List D) : walked S .zipLL [.d (.lst xs), .d (.lst ys)] = some (zipD xs ys) := (rfl)
@[simp] theorem walked_zT (S : Store) (xs ys : List D) : walked S .zipTT [.d (.tup xs), .d (.tup ys)] = some (zipD xs ys) := (rfl)
theorem small62_int {n : Int} (h : 0 ≤ n ∧ n < 1000000000) : small62 n = true := by
  unfold small62
  rw [decide_eq_true (by omega), decide_eq_true (by omega)]
  rfl
theorem atD_nat {xs : List D} {i : Nat} (h : i < xs.length) : atD xs (i : Int) = some xs[i] := by
  unfold atD place
  rw [if_pos (by omega), if_pos (by omega), Option.bind_some]
  simp [-Option.bind_some, h]
theorem atD_last {xs : List D} {x : D} : atD (xs ++ [x]) (-1) = some x := by
  unfold atD place
  rw [if_neg (by omega), if_pos (by rw [List.length_append, List.length_singleton]; omega), Option.bind_some, List.length_append, List.length_singleton]
  have e : (-1 + ((xs.length + 1 : Nat) : Int)).toNat = xs.length := by omega
  rw [e]
  simp [-Option.bind_some]
end DL
end

section
set_option autoImplicit false
set_option linter.all false
set_option maxRecDepth 100000
namespace K54
open PySem DL
/-- run a def's body -/
theorem t0 : prm.T[0]? = some f0 := rfl
def isInt : D → Bool
  | .int _ => true
  | _ => false
theorem r_is_integer (k : Nat) (x : D) (S : Store) : callD tab (k + 1) 0 [.d x] S = some (.d (.bl (isInt x)), S) := by
  rw [callD_run (fn := f0) rfl rfl]
  cases x <;> simp [-Option.bind_some, f0, isa, isInt]
theorem r_is_between (k : Nat) (i a b : Int) (S : Store) : callD tab (k + 2) 1 [.d (.int i), .d (.int a), .d (.int b)] S = some (.d (.bl (decide (a ≤ i) && decide (i ≤ b))), S) := by
  rw [callD_run (fn := f1) rfl rfl]
  simp [-Option.bind_some, f1, r_is_integer, isInt]
  by_cases h : a ≤ i <;> simp [-Option.bind_some, h]
theorem r_quota_by (k : Nat) (t a b : Int) (S : Store) (h : mulOk t a = true) (hb : divOk b = true) : callD tab (k + 1) 13 [.d (.int t), .d (.tup [.int a, .int b])] S = some (.d (.int (t * a / b + 1)), S) := by
  rw [callD_run (fn := f13) rfl rfl]
  simp [-Option.bind_some, f13, atD, place, o2_mul h, o2_fdiv hb]
end K54
end

section
set_option autoImplicit false
set_option linter.all false
set_option maxRecDepth 100000
namespace K54
open PySem DL
/-! ### sizes -/
def B (n : Nat) (i : Int) : Prop := i.natAbs < 2 ^ n
theorem B.bits {n : Nat} {i : Int} (h : B n i) : Builtin.Int.intBits i ≤ n := intBits_le_iff.mpr h
theorem B.mono {n m : Nat} {i : Int} (h : B n i) (hm : n ≤ m) : B m i := Nat.lt_of_lt_of_le h (Nat.pow_le_pow_right (by decide) hm)
theorem B.mul {n m : Nat} {i j : Int} (h : B n i) (k : B m j) : B (n + m) (i * j) := by
  unfold B at *
  rw [Int.natAbs_mul, Nat.pow_add]
  exact Nat.mul_lt_mul'' h k
theorem B.add {n : Nat} {i j : Int} (h : B n i) (k : B n j) : B (n + 1) (i + j) := by
  unfold B at *
  rw [Nat.pow_succ]
  have := Int.natAbs_add_le i j
  omega
theorem mulOk_of {n m : Nat} {i j : Int} (h : B n i) (k : B m j) (hs : n + m ≤ 134217728) : mulOk i j = true := by
  have h1 := h.bits
  have h2 := k.bits
  unfold mulOk
  exact decide_eq_true (by omega)
theorem divOk_of {n : Nat} {j : Int} (h0 : 0 < j) (h : B n j) (hn : n < 9000) : divOk j = true := by
  unfold divOk
  rw [decide_eq_true h0, Bool.true_and]
  refine decide_eq_true ?_
  have : j.natAbs ≠ 0 := by omega
  exact Nat.lt_of_lt_of_le (Nat.log2_lt this |>.mpr h) (by omega)
/-! ### gcd -/
theorem gcd_loop (C : Call) (n : Nat) (S : Store) : ∀ (m a b : Nat), b < m →
    whileL (ev C 40) (ex C (n + 1)) (.o2 .ne (.var 1) (.cst (.int 0))) [.par 0 1 (.var 1) (.o2 .mod (.var 0) (.var 1))] m [some (.d (.int (a : Int))), some (.d (.int (b : Int)))] S = some (.nx [some (.d (.int (Nat.gcd a b : Nat))), some (.d (.int 0))], S)
  | 0, a, b, h => absurd h (by omega)
  | m + 1, a, b, h => by
    rw [whileL_succ]
    by_cases hz : b = 0
    · subst hz
      simp [-Option.bind_some]
    · have hb0 : 0 < b := by omega
      have hb1 : (0 : Int) < (b : Int) := by omega
      have h2 := Nat.mod_lt a hb0
      have ih := gcd_loop C n S m b (a % b) (by omega)
      have eg : Nat.gcd a b = Nat.gcd b (a % b) := by
        rw [Nat.gcd_comm, Nat.gcd_rec, Nat.gcd_comm]
      have hz' : ¬ ((b : Int) = 0) := by omega
      simp only [ev_o2, ev_var, getV_zero, getV_succ, thenO_nx, ev_cst, exs_cons, exs_nil, ex_par, bnd, deref_d, neD_int, decide_eq_false hz', Bool.not_false, isTrueD_bl, if_true, o2_mod hb1, List.length_cons, List.length_nil, List.set_cons_zero, List.set_cons_succ]
      rw [eg, ← Int.natCast_emod]
      exact ih
theorem r_common (k : Nat) (a b : Nat) (S : Store) (h : b < 2 ^ 190) : callD tab (k + 1) 2 [.d (.int (a : Int)), .d (.int (b : Int))] S = some (.d (.int (Nat.gcd a b : Nat)), S) := by
  rw [callD_run (fn := f2) rfl rfl]
  have hf : b < fuelW := by
    have h2 : 2 ^ 190 ≤ fuelW := by decide +kernel
    omega
  have e := gcd_loop (callD tab k) 18 S fuelW a b hf
  have en : ¬ (((Nat.gcd a b : Nat) : Int) < 0) := by omega
  show (((exs (ex (callD tab k) 20) f2.body ([some (.d (.int (a : Int))), some (.d (.int (b : Int)))]) S)).bind _) = _
  unfold f2
  simp only [exs_cons, ex_while, exs_nil, ex_ret, ev_o1, ev_var]
  rw [e]
  simp [-Option.bind_some, o1, en]
theorem r_lcommon (k : Nat) (a b : Nat) (S : Store) (h : b < 2 ^ 190) : callD tab (k + 1) 20 [.d (.int (a : Int)), .d (.int (b : Int))] S = some (.d (.int (Nat.gcd a b : Nat)), S) := by
  rw [callD_run (fn := f20) rfl rfl]
  have hf : b < fuelW := by
    have h2 : 2 ^ 190 ≤ fuelW := by decide +kernel
    omega
  have e := gcd_loop (callD tab k) 18 S fuelW a b hf
  have en : ¬ (((Nat.gcd a b : Nat) : Int) < 0) := by omega
  show (((exs (ex (callD tab k) 20) f20.body ([some (.d (.int (a : Int))), some (.d (.int (b : Int)))]) S)).bind _) = _
  unfold f20
  simp only [exs_cons, ex_while, exs_nil, ex_ret, ev_o1, ev_var]
  rw [e]
  simp [-Option.bind_some, o1, en]
/-- a fraction in its lowest terms -/
def redF (t l : Nat) : D := .tup [.int ((t / Nat.gcd t l : Nat) : Int), .int ((l / Nat.gcd t l : Nat) : Int)]
theorem gcdB {t l : Nat} (h0 : 0 < l) (hl : l < 2 ^ 190) : divOk ((Nat.gcd t l : Nat) : Int) = true := by
  have h1 : 0 < Nat.gcd t l := Nat.gcd_pos_of_pos_right t h0
  have h2 : Nat.gcd t l ≤ l := Nat.gcd_le_right t h0
  exact divOk_of (n := 190) (by omega) (by unfold B; omega) (by omega)
theorem r_reduced (k : Nat) (t l : Nat) (S : Store) (h0 : 0 < l) (hl : l < 2 ^ 190) : callD tab (k + 2) 3 [.d (.int (t : Int)), .d (.int (l : Int))] S = some (.d (redF t l), S) := by
  rw [callD_run (fn := f3) rfl rfl]
  have h1 : (0 : Int) < (l : Int) := by omega
  have g := gcdB (t := t) h0 hl
  simp [-Option.bind_some, f3, h0, r_common k t l S hl, o2_fdiv g, redF, fits]
theorem r_lpart (k : Nat) (t l : Nat) (S : Store) (h0 : 0 < l) (hl : l < 2 ^ 190) : callD tab (k + 2) 21 [.d (.int (t : Int)), .d (.int (l : Int))] S = some (.d (redF t l), S) := by
  rw [callD_run (fn := f21) rfl rfl]
  have g := gcdB (t := t) h0 hl
  simp [-Option.bind_some, f21, r_lcommon k t l S hl, o2_fdiv g, redF, fits, o1, intD]
end K54
end

section
set_option autoImplicit false
set_option linter.all false
set_option maxRecDepth 100000
namespace K54
open PySem DL
def fact : Nat → Nat
  | 0 => 1
  | n + 1 => (n + 1) * fact n
theorem fact_pos : ∀ n, 0 < fact n
  | 0 => Nat.one_pos
  | n + 1 => Nat.mul_pos (Nat.succ_pos n) (fact_pos n)
theorem fact_B : ∀ n, n < 64 → fact n < 2 ^ (6 * n + 1)
  | 0, _ => by decide
  | n + 1, h => by
    have ih := fact_B n (by omega)
    have e : 6 * (n + 1) + 1 = 6 + (6 * n + 1) := by omega
    rw [e, Nat.pow_add]
    show (n + 1) * fact n < _
    exact Nat.mul_lt_mul'' (by omega) ih
theorem fact_small {n : Nat} (h : n ≤ 31) : fact n < 2 ^ 190 := Nat.lt_of_lt_of_le (fact_B n (by omega)) (Nat.pow_le_pow_right (by decide) (by omega))
theorem walk_r2 {S : Store} {m : Nat} (h : m < 1000) : walked S .rng2 [.d (.int 1), .d (.int ((m : Int) + 1))] = some ((List.range m).map fun (i : Nat) => .int (1 + (i : Int))) := by
  rw [walked_r2, small62_int (n := (m : Int) + 1) (by omega), small62_int (n := 1) (by omega), Bool.and_self, if_pos rfl]
  have e : ((m : Int) + 1 - 1).toNat = m := by omega
  rw [e]
end K54
end

section
set_option autoImplicit false
set_option linter.all false
namespace K54
open PySem DL
theorem step1 (C : Call) (k m i : Nat) (S' : Store) (z : Option E) (h : m ≤ 31) (hi : i < m) : ((bindT (.nm 2) (.int (1 + (i : Int))) [some (.d (.int (m : Int))), some (.d (.int (fact i : Nat))), z]).bind fun ρ1 => exs (ex C (k + 1)) [.asg (.nm 1) (.o2 .mul (.var 1) (.var 2))] ρ1 S') = some (.nx [some (.d (.int (m : Int))), some (.d (.int (fact (i+1) : Nat))), some (.d (.int (1 + (i : Int))))], S') := by
  have hb : mulOk ((fact i : Nat) : Int) (1 + (i : Int)) = true := mulOk_of (n := 190) (m := 64) (by unfold B; have := fact_small (n := i) (by omega); omega) (by unfold B; omega) (by omega)
  have ev : ((fact i : Nat) : Int) * (1 + (i : Int)) = ((fact (i + 1) : Nat) : Int) := by
    show _ = (((i + 1) * fact i : Nat) : Int)
    rw [Int.natCast_mul, Int.mul_comm, Int.natCast_add, Int.add_comm]
    rfl
  simp [-Option.bind_some, o2_mul hb, ev]
end K54
end

section
set_option autoImplicit false
set_option linter.all false
set_option maxRecDepth 100000
namespace K54
open PySem DL
theorem prod_loop (C : Call) (k m : Nat) (S : Store) (h : m ≤ 31) :
    ∃ z, forL (ex C (k + 1)) (.nm 2) [.asg (.nm 1) (.o2 .mul (.var 1) (.var 2))] ((List.range m).map fun (i : Nat) => .int (1 + (i : Int))) [some (.d (.int (m : Int))), some (.d (.int 1)), none] S = some (.nx [some (.d (.int (m : Int))), some (.d (.int (fact m : Nat))), z], S) := by
  obtain ⟨ρ, S1, e, z, h1, h2⟩ := forL_inv (g := ex C (k + 1)) (tg := .nm 2) (body := [.asg (.nm 1) (.o2 .mul (.var 1) (.var 2))]) (fun i ρ S' => ∃ z, ρ = [some (.d (.int (m : Int))), some (.d (.int (fact i : Nat))), z] ∧ S' = S)
    ((List.range m).map fun (i : Nat) => .int (1 + (i : Int))) 0 [some (.d (.int (m : Int))), some (.d (.int 1)), none] S ⟨none, rfl, rfl⟩ (fun i hi ρ S' ⟨z, e1, e2⟩ => by
      rw [List.length_map, List.length_range] at hi
      subst e1 e2
      rw [Nat.zero_add, List.getElem_map, List.getElem_range]
      exact ⟨_, _, step1 C k m i S' z h hi, _, rfl, rfl⟩)
  subst h1 h2
  rw [List.length_map, List.length_range, Nat.zero_add] at e
  exact ⟨z, e⟩
theorem r_all_rows (k m : Nat) (S : Store) (h : m ≤ 31) : callD tab (k + 1) 6 [.d (.int (m : Int))] S = some (.d (.int (fact m : Nat)), S) := by
  rw [callD_run (fn := f6) rfl rfl]
  obtain ⟨z, e⟩ := prod_loop (callD tab k) 18 m S h
  simp [-Option.bind_some, f6, walk_r2 (S := S) (m := m) (by omega), e]
theorem r_lproduct (k m : Nat) (S : Store) (h : m ≤ 31) : callD tab (k + 1) 24 [.d (.int (m : Int))] S = some (.d (.int (fact m : Nat)), S) := by
  rw [callD_run (fn := f24) rfl rfl]
  obtain ⟨z, e⟩ := prod_loop (callD tab k) 18 m S h
  simp [-Option.bind_some, f24, walk_r2 (S := S) (m := m) (by omega), e]
/-! rows_by -/
def facts (m : Nat) : List D := (List.range m).map fun i => .int ((fact i : Nat) : Int)
theorem facts_snoc (m : Nat) : facts (m + 1) = facts m ++ [.int ((fact m : Nat) : Int)] := by
  unfold facts
  rw [List.range_succ, List.map_append]
  rfl
theorem facts_len (m : Nat) : (facts m).length = m := by simp [-Option.bind_some, facts]
theorem step2 (C : Call) (k m i : Nat) (S S' : Store) (z : Option E) (h : m ≤ 31) (hi : i < m) (hS : S'[S.length]? = some (some (facts (i + 1)))) (hl : S'.length = S.length + 1) :
    ((bindT (.nm 2) (.int (1 + (i : Int))) [some (.d (.int (m : Int))), some (.r S.length), z, none]).bind fun ρ1 => exs (ex C (k + 1)) [.expr (.app (.var 1) (.o2 .mul (.idxL (.var 1) (.o1 .neg (.cst (.int 1)))) (.var 2)))] ρ1 S') = some (.nx [some (.d (.int (m : Int))), some (.r S.length), some (.d (.int (1 + (i : Int)))), none], S'.set S.length (some (facts (i + 2)))) := by
  have hb : mulOk ((fact i : Nat) : Int) (1 + (i : Int)) = true := mulOk_of (n := 190) (m := 64) (by unfold B; have := fact_small (n := i) (by omega); omega) (by unfold B; omega) (by omega)
  have ev : ((fact i : Nat) : Int) * (1 + (i : Int)) = ((fact (i + 1) : Nat) : Int) := by
    show _ = (((i + 1) * fact i : Nat) : Int)
    rw [Int.natCast_mul, Int.mul_comm, Int.natCast_add, Int.add_comm]
    rfl
  have hd : deref S' (.r S.length) = some (.lst (facts (i + 1))) := by
    unfold deref
    simp only [hS]
  have ha : atD (facts (i + 1)) (-1) = some (.int ((fact i : Nat) : Int)) := by
    rw [facts_snoc]
    exact atD_last
  have hlen : (facts (i + 1)).length < 10000000 := by rw [facts_len]; omega
  rw [facts_snoc (i + 1)]
  simp [-Option.bind_some, hd, ha, o2_mul hb, ev, getS_of hS, hlen]
def rowsBy (m : Nat) : List D := (List.range m).map fun s => .int (((fact s * fact (m - 1 - s) : Nat)) : Int)
theorem r_rows_by (k m : Nat) (S : Store) (h : m ≤ 31) : callD tab (k + 1) 5 [.d (.int (m : Int))] S = some (.d (.lst (rowsBy m)), S) := by
  rw [callD_run (fn := f5) rfl rfl]
  obtain ⟨ρ, S1, e, z, h1, h2, h3⟩ := forL_inv (g := ex (callD tab k) 19) (tg := .nm 2) (body := [.expr (.app (.var 1) (.o2 .mul (.idxL (.var 1) (.o1 .neg (.cst (.int 1)))) (.var 2)))])
    (fun i ρ S' => ∃ z, ρ = [some (.d (.int (m : Int))), some (.r S.length), z, none] ∧ S' = S ++ [some (facts (i + 1))] ∧ True)
    ((List.range m).map fun (i : Nat) => .int (1 + (i : Int))) 0 [some (.d (.int (m : Int))), some (.r S.length), none, none] (S ++ [some [.int 1]]) ⟨none, rfl, rfl, trivial⟩ (fun i hi ρ S' ⟨z, e1, e2, _⟩ => by
      rw [List.length_map, List.length_range] at hi
      subst e1 e2
      rw [Nat.zero_add, List.getElem_map, List.getElem_range]
      refine ⟨_, _, step2 (callD tab k) 18 m i S _ z h hi (by simp [-Option.bind_some]) (by simp [-Option.bind_some]), _, rfl, (by simp [-Option.bind_some]), trivial⟩)
  subst h1 h2
  rw [List.length_map, List.length_range, Nat.zero_add] at e
  have hl : ∀ (z : Option E), turns (ev (callD tab k) 39) (.o2 .mul (.idxL (.var 1) (.var 3)) (.idxL (.var 1) (.o2 .sub (.o2 .sub (.var 0) (.cst (.int 1))) (.var 3)))) (.nm 3) [] [3] [some (.d (.int (m : Int))), some (.d (.lst (facts (m + 1)))), z, none] ((List.range m).map fun (i : Nat) => .int (i : Int)) [] (S ++ [none]) = some (rowsBy m, S ++ [none]) := fun z => by
    rw [turns_map (fun d => match d with | .int s => .int (((fact s.toNat * fact (m - 1 - s.toNat) : Nat)) : Int) | d => d) _ (fun x hx => ?_) (by rw [List.length_map, List.length_range]; omega)]
    · rw [List.map_map]
      unfold rowsBy
      rfl
    · rw [List.mem_map] at hx
      obtain ⟨i, hi, rfl⟩ := hx
      rw [List.mem_range] at hi
      have a1 : atD (facts (m + 1)) (i : Int) = some (.int ((fact i : Nat) : Int)) := by
        rw [atD_nat (by rw [facts_len]; omega)]
        simp [-Option.bind_some, facts]
      have a2 : atD (facts (m + 1)) ((m : Int) - 1 - (i : Int)) = some (.int ((fact (m - 1 - i) : Nat) : Int)) := by
        have e3 : (m : Int) - 1 - (i : Int) = ((m - 1 - i : Nat) : Int) := by omega
        rw [e3, atD_nat (by rw [facts_len]; omega)]
        simp [-Option.bind_some, facts]
      have hb : mulOk ((fact i : Nat) : Int) ((fact (m - 1 - i) : Nat) : Int) = true := mulOk_of (n := 190) (m := 190) (by unfold B; have := fact_small (n := i) (by omega); omega) (by unfold B; have := fact_small (n := m - 1 - i) (by omega); omega) (by omega)
      refine ⟨[some (.d (.int (m : Int))), some (.d (.lst (facts (m + 1)))), z, some (.d (.int (i : Int)))], by simp [-Option.bind_some], ?_⟩
      simp [-Option.bind_some, a1, a2, o2_mul hb]
  have hw : walked (S ++ [none]) .rng1 [.d (.int (m : Int))] = some ((List.range m).map fun (i : Nat) => .int (i : Int)) := by
    rw [walked_r1, small62_int (by omega), if_pos rfl]
    rfl
  simp [-Option.bind_some, f5, walk_r2 (m := m) (by omega), fits, e, hw, hl]
end K54
end

section
set_option autoImplicit false
set_option linter.all false
set_option maxRecDepth 20000
namespace K54
open PySem DL
def potD (o m c : Int) : List D := [.int o, .int m, .int c]
theorem powOk_of {n : Nat} {i : Int} (h : B n i) (e : Nat) (hs : n * e ≤ 134217728) : powOk i (e : Int) = true := by
  have h1 := h.bits
  unfold powOk
  rw [decide_eq_true (by omega : (0 : Int) ≤ (e : Int)), Bool.true_and]
  refine decide_eq_true ?_
  have : (Builtin.Int.intBits i : Nat) * e ≤ n * e := Nat.mul_le_mul_right e h1
  have h3 : ((Builtin.Int.intBits i : Nat) : Int) * (e : Int) = ((Builtin.Int.intBits i * e : Nat) : Int) := by rw [Int.natCast_mul]
  rw [h3]
  omega
theorem o2_pow {i j : Int} (h : powOk i j = true) : o2 .pow (.int i) (.int j) = some (.int (i ^ j.toNat)) := by
  show (if powOk i j = true then _ else _) = _
  rw [if_pos h]
@[simp] theorem take_set_len (S : Store) (p : Nat) (x : Option (List D)) : (S.set p x).take S.length = S.set p x := List.take_of_length_le (by simp [-Option.bind_some])
theorem getS_set {α : Type} {S : Store} {p : Nat} {ys xs : List D} (h : S[p]? = some (some ys)) (f : List D → Option α) : getS (S.set p (some xs)) p f = f xs := by
  refine getS_of ?_ f
  rw [List.getElem?_set_self (by
    rcases Nat.lt_or_ge p S.length with h' | h'
    · exact h'
    · rw [List.getElem?_eq_none h'] at h
      exact absurd h (by simp [-Option.bind_some]))]
theorem deref_set {S : Store} {p : Nat} {ys xs : List D} (h : S[p]? = some (some ys)) : deref (S.set p (some xs)) (.r p) = some (.lst xs) := by
  refine deref_r ?_
  rw [List.getElem?_set_self (by
    rcases Nat.lt_or_ge p S.length with h' | h'
    · exact h'
    · rw [List.getElem?_eq_none h'] at h
      exact absurd h (by simp [-Option.bind_some]))]
@[simp] theorem atD_3_0 (a b c : D) : atD [a, b, c] 0 = some a := (rfl)
@[simp] theorem atD_3_1 (a b c : D) : atD [a, b, c] 1 = some b := (rfl)
@[simp] theorem atD_3_2 (a b c : D) : atD [a, b, c] 2 = some c := (rfl)
@[simp] theorem place_3_0 : place 3 0 = some 0 := (rfl)
@[simp] theorem place_3_2 : place 3 2 = some 2 := (rfl)
theorem prime_at (c : Int) : ∃ P : Int, atD [.int 2147483647, .int 2147483629, .int 2147483587, .int 2147483579, .int 2147483563] (c % 5) = some (.int P) ∧ 0 < P ∧ P < 2147483648 := by
  have h : c % 5 = 0 ∨ c % 5 = 1 ∨ c % 5 = 2 ∨ c % 5 = 3 ∨ c % 5 = 4 := by omega
  rcases h with h | h | h | h | h <;> rw [h]
  · exact ⟨2147483647, rfl, by decide, by decide⟩
  · exact ⟨2147483629, rfl, by decide, by decide⟩
  · exact ⟨2147483587, rfl, by decide, by decide⟩
  · exact ⟨2147483579, rfl, by decide, by decide⟩
  · exact ⟨2147483563, rfl, by decide, by decide⟩
theorem take_own (k : Nat) (S : Store) (p : Nat) (o m c u : Int) (hS : S[p]? = some (some (potD o m c))) (ho : 0 < o) (hu : 0 < u ∧ u < 1000) :
    callD tab (k + 1) 15 [.r p, .d (.int u)] S = some (.d (.int (o % u)), S.set p (some (potD (o / u) m c))) := by
  rw [callD_run (fn := f15) rfl rfl]
  have hd : divOk u = true := divOk_of (n := 10) hu.1 (by unfold B; omega) (by omega)
  simp [-Option.bind_some, f15, deref_r hS, getS_of hS, potD, ho, o2_mod hu.1, o2_fdiv hd]
theorem take_mix (k : Nat) (S : Store) (p : Nat) (o m c u : Int) (hS : S[p]? = some (some (potD o m c))) (ho : ¬ 0 < o) (hm : B 70 m) (hc : 0 ≤ c ∧ c < 1000000) (hu : 0 < u ∧ u < 1000) :
    ∃ r, callD tab (k + 1) 15 [.r p, .d (.int u)] S = some (.d (.int r), S.set p (some (potD o m (c + 1)))) ∧ 0 ≤ r ∧ r < u := by
  rw [callD_run (fn := f15) rfl rfl]
  obtain ⟨P, hP, hP0, hP1⟩ := prime_at (c + 1)
  have bc : B 20 (c + 1) := by unfold B; omega
  have m1 : mulOk 99290 (c + 1) = true := mulOk_of (n := 17) (m := 20) (by unfold B; decide) bc (by omega)
  have b1 : B 37 (99290 * (c + 1)) := B.mul (n := 17) (m := 20) (by unfold B; decide) bc
  have m2 : mulOk (99290 * (c + 1)) (c + 1) = true := mulOk_of b1 bc (by omega)
  have b2 : B 57 (99290 * (c + 1) * (c + 1)) := B.mul b1 bc
  have b3 : B 72 (m + 99290 * (c + 1) * (c + 1) + 2267) := B.add (B.add hm (b2.mono (by omega))) (by unfold B; decide)
  have hp : powOk (m + 99290 * (c + 1) * (c + 1) + 2267) 3 = true := powOk_of b3 3 (by omega)
  generalize hx : (m + 99290 * (c + 1) * (c + 1) + 2267) ^ 3 % P = x
  have hx0 : 0 ≤ x := by rw [← hx]; exact Int.emod_nonneg _ (by omega)
  have hx1 : x < P := by rw [← hx]; exact Int.emod_lt_of_pos _ hP0
  have m3 : mulOk 62 (c + 1) = true := mulOk_of (n := 6) (m := 20) (by unfold B; decide) bc (by omega)
  have b4 : B 40 (x % 15596 + 62 * (c + 1)) := by unfold B; omega
  have m4 : mulOk x (x % 15596 + 62 * (c + 1)) = true := mulOk_of (n := 40) (m := 40) (by unfold B; omega) b4 (by omega)
  have d1 : divOk 128 = true := divOk_of (n := 10) (by decide) (by unfold B; decide) (by omega)
  refine ⟨x * (x % 15596 + 62 * (c + 1)) % 2305843009213693907 / 128 % u, ?_, Int.emod_nonneg _ (by omega : u ≠ 0), Int.emod_lt_of_pos _ hu.1⟩
  · simp [-Option.bind_some, f15, deref_r hS, getS_of hS, deref_set hS, getS_set hS, potD, ho, o2_mod hu.1, o2_mod hP0, o2_mod (i := c + 1) (j := 5) (by decide), o2_mod (i := x) (j := 15596) (by decide), o2_mod (j := 2305843009213693907) (by decide), o2_fdiv d1, o2_mul m1, o2_mul m2, o2_mul m3, o2_mul m4, o2_pow hp, hP, hx, fits]
end K54
end

section
set_option autoImplicit false
set_option linter.all false
set_option maxRecDepth 20000
namespace K54
open PySem DL
/-- slot p of the store is a pot of which at most n were drawn -/
def Pot (n : Int) (S : Store) (p : Nat) : Prop := ∃ o m c, S[p]? = some (some (potD o m c)) ∧ 0 ≤ o ∧ B 70 m ∧ 0 ≤ c ∧ c ≤ n
theorem lt_of_slot {S : Store} {p : Nat} {x : Option (List D)} (h : S[p]? = some x) : p < S.length := by
  rcases Nat.lt_or_ge p S.length with h' | h'
  · exact h'
  · rw [List.getElem?_eq_none h'] at h
    exact absurd h (by simp [-Option.bind_some])
theorem Pot.lt {n : Int} {S : Store} {p : Nat} (h : Pot n S p) : p < S.length := by
  obtain ⟨o, m, c, h, _⟩ := h
  exact lt_of_slot h
theorem Pot.mono {n n' : Int} {S : Store} {p : Nat} (h : Pot n S p) (hn : n ≤ n') : Pot n' S p := by
  obtain ⟨o, m, c, h, h1, h2, h3, h4⟩ := h
  exact ⟨o, m, c, h, h1, h2, h3, by omega⟩
theorem r_take (k : Nat) {n : Int} {S : Store} {p : Nat} (u : Int) (h : Pot n S p) (hn : n < 900000) (hu : 0 < u ∧ u < 1000) :
    ∃ r xs, callD tab (k + 1) 15 [.r p, .d (.int u)] S = some (.d (.int r), S.set p (some xs)) ∧ 0 ≤ r ∧ r < u ∧ Pot (n + 1) (S.set p (some xs)) p := by
  have hl := h.lt
  obtain ⟨o, m, c, hS, ho, hm, hc, hc2⟩ := h
  by_cases h0 : 0 < o
  · refine ⟨_, _, take_own k S p o m c u hS h0 hu, Int.emod_nonneg _ (by omega), Int.emod_lt_of_pos _ hu.1, _, _, _, List.getElem?_set_self hl, Int.ediv_nonneg ho (by omega), hm, hc, by omega⟩
  · obtain ⟨r, e, h1, h2⟩ := take_mix k S p o m c u hS h0 hm ⟨hc, by omega⟩ hu
    exact ⟨_, _, e, h1, h2, _, _, _, List.getElem?_set_self hl, ho, hm, by omega, by omega⟩
theorem r_of (k : Nat) {n : Int} {S : Store} {p : Nat} (ds : List D) (h : Pot n S p) (hn : n < 900000) (hu : 0 < ds.length ∧ ds.length < 1000) :
    ∃ d xs, callD tab (k + 2) 16 [.r p, .d (.lst ds)] S = some (.d d, S.set p (some xs)) ∧ d ∈ ds ∧ Pot (n + 1) (S.set p (some xs)) p := by
  obtain ⟨r, xs, e, h1, h2, h3⟩ := r_take k (ds.length : Int) h hn (by omega)
  have er : r = ((r.toNat : Nat) : Int) := by omega
  have hr : r.toNat < ds.length := by omega
  have ea : atD ds r = some ds[r.toNat] := by
    have := atD_nat (i := r.toNat) hr
    rw [← er] at this
    exact this
  rw [callD_run (fn := f16) rfl rfl]
  refine ⟨ds[r.toNat], xs, ?_, List.getElem_mem _, h3⟩
  simp [-Option.bind_some, f16, e, ea]
theorem r_fraction (k : Nat) {n : Int} {S : Store} {p : Nat} (h : Pot n S p) (hn : n < 800000) :
    ∃ (a b : Nat) (xs : List D), callD tab (k + 3) 30 [.r p] S = some (.d (.tup [.int (a : Int), .int (b : Int)]), S.set p (some xs)) ∧ a < b ∧ b ≤ 10 ∧ Nat.gcd a b = 1 ∧ Pot (n + 3) (S.set p (some xs)) p := by
  obtain ⟨r, xs, e, h1, h2, h3⟩ := r_take (k + 1) 9 h (by omega) (by omega)
  obtain ⟨t, ys, e', h1', h2', h3'⟩ := r_take (k + 1) (2 + r) h3 (by omega) (by omega)
  obtain ⟨d, zs, e'', hd, h3''⟩ := r_of k [.int 0, .int ((2 + r) / 2), .int (2 + r - 1), .int t] h3' (by omega) (by simp [-Option.bind_some])
  have hdd : ∃ i : Nat, d = .int (i : Int) ∧ (i : Int) < 2 + r := by
    simp only [List.mem_cons, List.not_mem_nil, or_false] at hd
    rcases hd with hd | hd | hd | hd <;> rw [hd]
    · exact ⟨0, rfl, by omega⟩
    · exact ⟨((2 + r) / 2).toNat, by congr 1; omega, by omega⟩
    · exact ⟨(2 + r - 1).toNat, by congr 1; omega, by omega⟩
    · exact ⟨t.toNat, by congr 1; omega, by omega⟩
  obtain ⟨i, rfl, hi⟩ := hdd
  obtain ⟨l, hl⟩ : ∃ l : Nat, 2 + r = (l : Int) := ⟨(2 + r).toNat, by omega⟩
  have hd2 : divOk 2 = true := divOk_of (n := 10) (by decide) (by unfold B; decide) (by omega)
  have h190 : (11 : Nat) ≤ 2 ^ 190 := by decide
  have ep := r_lpart k i l ((((S.set p (some xs)).set p (some ys)).set p (some zs))) (by omega) (by omega)
  have hg : 0 < Nat.gcd i l := Nat.gcd_pos_of_pos_right i (by omega)
  refine ⟨i / Nat.gcd i l, l / Nat.gcd i l, zs, ?_, ?_, ?_, Nat.gcd_div_gcd_div_gcd_of_pos_right (by omega), ?_⟩
  · rw [callD_run (fn := f30) rfl rfl]
    rw [hl] at e' e''
    simp only [List.set_set] at e e' e'' ep
    simp [-Option.bind_some, f30, e, hl, e', e'', ep, o2_fdiv hd2, fits, redF]
  · exact Nat.div_lt_of_lt_mul (by rw [Nat.mul_div_cancel' (Nat.gcd_dvd_right i l)]; omega)
  · exact Nat.le_trans (Nat.div_le_self _ _) (by omega)
  · simp only [List.set_set] at h3''
    exact h3''.mono (by omega)
theorem r_cells (k : Nat) (ds : List D) (S : Store) : ∃ j : Int, 1 ≤ j ∧ j ≤ 2 ∧ callD tab (k + 1) 17 [.d (.scr ds), .d (.int 2)] S = some (.d (.lst (rangeD 0 j)), S) := by
  rw [callD_run (fn := f17) rfl rfl]
  have h1 : ∀ j : Int, 1 ≤ j ∧ j ≤ 2 → rgOk 0 j = true := by
    intro j hj
    have : j = 1 ∨ j = 2 := by omega
    rcases this with h | h <;> rw [h] <;> decide
  refine ⟨if (if (ds.length : Int) < 2 then (ds.length : Int) else 2) > 1 then (if (ds.length : Int) < 2 then (ds.length : Int) else 2) else 1, ?_, ?_, ?_⟩
  · split <;> omega
  · split <;> split <;> omega
  · have h2 := h1 (if (if (ds.length : Int) < 2 then (ds.length : Int) else 2) > 1 then (if (ds.length : Int) < 2 then (ds.length : Int) else 2) else 1) (by constructor <;> split <;> split <;> omega)
    simp only [f17, exs_cons, ex_ret, ev_lstRg1, ev_max2, ev_min2, ev_cst, ev_var, ev_o1, getV_zero, getV_succ, bnd, asD_d, asI_int, deref_d, o1_lenS, List.map_cons, List.map_nil, List.cons_append, List.nil_append, h2, if_true, thenO_ret, finish_d, List.take_length]
/-- the first number that wins -/
theorem first_win {t a b : Nat} (h0 : 0 < t) (hab : a < b) : ∃ r, (List.range (t + 1)).filter (fun i => decide (t * a < i * b)) = (t * a / b + 1) :: r := by
  have hq : t * a / b + 1 ≤ t := by
    have : t * a / b < t := by
      refine Nat.div_lt_of_lt_mul ?_
      rw [Nat.mul_comm b t]
      exact Nat.mul_lt_mul_of_pos_left hab h0
    omega
  generalize hQ : t * a / b = q at hq
  have hb : 0 < b := by omega
  have e1 : t + 1 = (q + 1) + (1 + (t - (q + 1))) := by omega
  rw [e1, List.range_add, List.filter_append]
  have e2 : (List.range (q + 1)).filter (fun i => decide (t * a < i * b)) = [] := by
    rw [List.filter_eq_nil_iff]
    intro i hi
    rw [List.mem_range] at hi
    rw [decide_eq_true_eq, Nat.not_lt]
    have : i ≤ t * a / b := by omega
    exact (Nat.le_div_iff_mul_le hb).mp this
  have e3 : t * a < (q + 1) * b := by
    have := Nat.lt_mul_div_succ (t * a) hb
    rw [hQ, Nat.mul_comm b] at this
    exact this
  rw [e2, List.nil_append, List.range_add, List.map_append, List.filter_append]
  have e4 : (List.range 1).map (q + 1 + ·) = [q + 1] := rfl
  rw [e4, List.filter_cons_of_pos (by exact decide_eq_true e3), List.filter_nil]
  exact ⟨_, rfl⟩
def winD (t a b : Nat) : D → Bool
  | .int i => decide ((t : Int) * (a : Int) < i * (b : Int))
  | _ => false
theorem r_lquota (k : Nat) (t a b : Nat) (S : Store) (h0 : 0 < t) (ht : t < 100000) (hab : a < b) (hb : b ≤ 10) :
    callD tab (k + 1) 28 [.d (.int (t : Int)), .d (.tup [.int (a : Int), .int (b : Int)])] S = some (.d (.int ((t * a / b + 1 : Nat) : Int)), S) := by
  rw [callD_run (fn := f28) rfl rfl]
  obtain ⟨r, hr⟩ := first_win h0 hab
  have hw : walked S .rng1 [.d (.int ((t : Int) + 1))] = some ((List.range (t + 1)).map fun (i : Nat) => .int (i : Int)) := by
    rw [walked_r1, small62_int (by omega), if_pos rfl]
    rfl
  have m1 : mulOk (t : Int) (a : Int) = true := mulOk_of (n := 20) (m := 10) (by unfold B; omega) (by unfold B; omega) (by omega)
  have ht := turns_pure (g := ev (callD tab k) 38) (elt := .var 2) (tg := .nm 2) (ifs := [.o2 .gt (.o2 .mul (.var 2) (.idxT (.var 1) (.cst (.int 1)))) (.o2 .mul (.var 0) (.idxT (.var 1) (.cst (.int 0))))]) (own := [2]) (ρ := [some (.d (.int (t : Int))), some (.d (.tup [.int (a : Int), .int (b : Int)])), none]) (S := S) (p := winD t a b) (f := id)
    ((List.range (t + 1)).map fun (i : Nat) => .int (i : Int)) [] (fun x hx => by
      rw [List.mem_map] at hx
      obtain ⟨i, hi, rfl⟩ := hx
      rw [List.mem_range] at hi
      have m2 : mulOk (i : Int) (b : Int) = true := mulOk_of (n := 20) (m := 10) (by unfold B; omega) (by unfold B; omega) (by omega)
      refine ⟨[some (.d (.int (t : Int))), some (.d (.tup [.int (a : Int), .int (b : Int)])), some (.d (.int (i : Int)))], by simp [-Option.bind_some], ?_, fun _ => by simp [-Option.bind_some]⟩
      by_cases hc : (t : Int) * (a : Int) < (i : Int) * (b : Int) <;> simp [-Option.bind_some, o2_mul m1, o2_mul m2, atD, place, winD, hc]) (by rw [List.length_nil, List.length_map, List.length_range]; omega)
  have e : ((List.range (t + 1)).map fun (i : Nat) => D.int (i : Int)).filter (winD t a b) = ((List.range (t + 1)).filter (fun i => decide (t * a < i * b))).map fun (i : Nat) => D.int (i : Int) := by
    rw [List.filter_map]
    refine congrArg (List.map _) (List.filter_congr fun i _ => ?_)
    simp only [Function.comp, winD, ← Int.natCast_mul, Int.ofNat_lt]
  rw [e, hr, List.map_id, List.nil_append, List.map_cons] at ht
  simp [-Option.bind_some, f28, hw, ht, atD, place]
end K54
end

section
set_option autoImplicit false
set_option linter.all false
set_option maxRecDepth 20000
namespace K54
open PySem DL
theorem pot_cell (C : Call) (ns : List Int) (pl : Nat) (hp : pl ≤ 1) (S : Store) (ρ : DL.Env) : ∃ z, ev C 40 (.ite (.o2 .lt (.var 1) (.o1 .len (.var 0))) (.idxL (.var 0) (.var 1)) (.o2 .add (.o2 .add (.o2 .mod (.o1 .sum (.slL (.var 0) none (some (.cst (.int 1))))) (.cst (.int 1000003))) (.o2 .mul (.cst (.int 9279)) (.var 1))) (.cst (.int 6595)))) (some (.d (.scr (ns.map D.int))) :: some (.d (.int (pl : Int))) :: ρ) S = some (.d (.int z), S) := by
  have m1 : mulOk 9279 (pl : Int) = true := mulOk_of (n := 20) (m := 10) (by unfold B; decide) (by unfold B; omega) (by omega)
  by_cases h : pl < ns.length
  · have ha : atD (ns.map D.int) (pl : Int) = some (.int ns[pl]) := by
      rw [atD_nat (i := pl) (by rw [List.length_map]; exact h), List.getElem_map]
    refine ⟨ns[pl], ?_⟩
    simp [-Option.bind_some, h, ha]
  · have hs : ∃ ms : List Int, cutD (ns.map D.int) none (some 1) = ms.map D.int := by
      refine ⟨((ns.drop (HT.sIx ns.length 0 none)).take (HT.sIx ns.length ns.length (some 1) - HT.sIx ns.length 0 none)), ?_⟩
      unfold cutD
      rw [List.map_take, List.map_drop, List.length_map]
    obtain ⟨ms, hs⟩ := hs
    refine ⟨ms.sum % 1000003 + 9279 * (pl : Int) + 6595, ?_⟩
    simp [-Option.bind_some, h, hs, o1_sum, o2_mul m1, o2_mod (j := 1000003) (by decide)]
theorem finish_new (S : Store) (xs : List D) : DL.finish S.length (S ++ [some xs]) (.r S.length) = some (.r S.length, S ++ [some xs]) := by
  unfold DL.finish
  dsimp only
  rw [if_neg (Nat.lt_irrefl _)]
  have e : (S ++ [some xs])[S.length]? = some (some xs) := by simp [-Option.bind_some]
  simp only [e, List.take_left]
theorem pow10 (C : Call) (n : Nat) (ρ : DL.Env) (S : Store) : ∃ M : Int, 0 < M ∧ B 1000 M ∧ ev C (n + 3) (.o2 .pow (.o2 .pow (.cst (.int 10)) (.cst (.int 60))) (.cst (.int 5))) ρ S = some (.d (.int M), S) := by
  refine ⟨((10 : Int) ^ 60) ^ 5, by decide +kernel, by unfold B; decide +kernel, ?_⟩
  have h6 : powOk 10 60 = true := powOk_of (n := 10) (i := 10) (by unfold B; decide) 60 (by omega)
  rw [ev_o2, ev_o2, ev_cst, bnd, ev_cst, bnd, deref_d, bnd, deref_d, bnd, o2_pow h6, bnd, bnd, ev_cst, bnd, deref_d, bnd, deref_d, bnd]
  have h5 : powOk ((10 : Int) ^ (60 : Int).toNat) 5 = true := powOk_of (n := 200) (by unfold B; decide +kernel) 5 (by omega)
  rw [o2_pow h5, bnd]
  rfl
theorem pot_own (C : Call) (P : Tm) (M z : Int) (x y : E) (r : DL.Env) (S : Store) (hM0 : 0 < M) (hM1 : B 1000 M) (hP : ev C 38 P (some x :: some y :: some (.d (.int z)) :: r) S = some (.d (.int M), S)) :
    ∃ o : Int, 0 ≤ o ∧ ev C 40 (.o2 .mul (.o2 .mod (.o1 .int (.o1 .abs (.var 2))) P) (.o1 .int (.o2 .ge (.o1 .abs (.var 2)) (.o2 .pow (.cst (.int 10)) (.cst (.int 18)))))) (some x :: some y :: some (.d (.int z)) :: r) S = some (.d (.int o), S) := by
  generalize ha : (if z < 0 then -z else z) = a
  have h1 : powOk 10 18 = true := powOk_of (n := 10) (i := 10) (by unfold B; decide) 18 (by omega)
  have h2 : ∃ w, o2 .pow (.int 10) (.int 18) = some (.int w) := ⟨_, o2_pow h1⟩
  obtain ⟨w, h2⟩ := h2
  have b1 : B 1000 (a % M) := by
    have h3 := Int.emod_nonneg a (by omega : M ≠ 0)
    have h4 := Int.emod_lt_of_pos a hM0
    unfold B at *
    omega
  have m1 : ∀ b : Bool, mulOk (a % M) (if b then 1 else 0) = true := fun b => mulOk_of (n := 1000) (m := 2) b1 (by unfold B; cases b <;> decide) (by omega)
  refine ⟨a % M * (if decide (w ≤ a) then 1 else 0), Int.mul_nonneg (Int.emod_nonneg a (by omega)) (by split <;> decide), ?_⟩
  have m2 := m1 (decide (w ≤ a))
  simp only [ev_o2, ev_o1, ev_var, ev_cst, getV_zero, getV_succ, bnd, deref_d, o1_abs, o1_int, o1_intb, o2_ge, h2, ha, hP, o2_mod hM0, o2_mul m2]
theorem pot_body (C : Call) (e1 e2 : Tm) (x : E) (pl : Nat) (z o : Int) (S : Store) (hp : pl ≤ 1) (h1 : ev C 40 e1 [some x, some (.d (.int (pl : Int))), none, none, none] S = some (.d (.int z), S))
    (h2 : ev C 40 e2 [some x, some (.d (.int (pl : Int))), some (.d (.int z)), none, none] S = some (.d (.int o), S)) :
    ∃ m, B 70 m ∧ exs (ex C 20) [.asg (.nm 2) e1, .asg (.nm 3) e2, .asg (.nm 4) (.o2 .mod (.o1 .int (.var 2)) (.cst (.int 2305843009213693951))),
  .ret (.new (.lst [.var 3, .o2 .mod (.o1 .int (.o2 .add (.o2 .add (.o2 .mul (.var 4) (.cst (.int 73529))) (.o2 .mul (.o2 .mul (.cst (.int 6647)) (.var 1)) (.var 1))) (.cst (.int 2267)))) (.cst (.int 2305843009213693921)), .cst (.int 0)]))] [some x, some (.d (.int (pl : Int))), none, none, none] S = some (.ret (.r S.length), S ++ [some (potD o m 0)]) := by
  generalize hs : z % 2305843009213693951 = s
  have hs0 : 0 ≤ s := by rw [← hs]; exact Int.emod_nonneg _ (by decide)
  have hs1 : s < 2305843009213693951 := by rw [← hs]; exact Int.emod_lt_of_pos _ (by decide)
  have m1 : mulOk s 73529 = true := mulOk_of (n := 70) (m := 20) (by unfold B; omega) (by unfold B; decide) (by omega)
  have m2 : mulOk 6647 (pl : Int) = true := mulOk_of (n := 20) (m := 10) (by unfold B; decide) (by unfold B; omega) (by omega)
  have m3 : mulOk (6647 * (pl : Int)) (pl : Int) = true := mulOk_of (n := 20) (m := 10) (by unfold B; omega) (by unfold B; omega) (by omega)
  refine ⟨(s * 73529 + 6647 * (pl : Int) * (pl : Int) + 2267) % 2305843009213693921, ?_, ?_⟩
  · have h3 := Int.emod_nonneg (s * 73529 + 6647 * (pl : Int) * (pl : Int) + 2267) (by decide : (2305843009213693921 : Int) ≠ 0)
    have h4 := Int.emod_lt_of_pos (s * 73529 + 6647 * (pl : Int) * (pl : Int) + 2267) (by decide : (0 : Int) < 2305843009213693921)
    unfold B
    omega
  · simp [-Option.bind_some, h1, h2, hs, o2_mod (j := 2305843009213693951) (by decide), o2_mod (j := 2305843009213693921) (by decide), o2_mul m1, o2_mul m2, o2_mul m3, fits, potD]
theorem r_pot (k : Nat) (ns : List Int) (pl : Nat) (hp : pl ≤ 1) (S : Store) : ∃ xs, callD tab (k + 1) 14 [.d (.scr (ns.map D.int)), .d (.int (pl : Int))] S = some (.r S.length, S ++ [some xs]) ∧ Pot 0 (S ++ [some xs]) S.length := by
  obtain ⟨z, hz⟩ := pot_cell (callD tab k) ns pl hp S [none, none, none]
  obtain ⟨M, hM0, hM1, hM⟩ := pow10 (callD tab k) 35 [some (.d (.scr (ns.map D.int))), some (.d (.int (pl : Int))), some (.d (.int z)), none, none] S
  obtain ⟨o, ho, hO⟩ := pot_own (callD tab k) _ M z _ _ _ S hM0 hM1 hM
  obtain ⟨m, hm, hB⟩ := pot_body (callD tab k) _ _ _ pl z o S hp hz hO
  refine ⟨potD o m 0, ?_, o, m, 0, by simp [-Option.bind_some], ho, hm, Int.le_refl _, Int.le_refl _⟩
  rw [callD_run (fn := f14) rfl rfl]
  refine Eq.trans (congrArg (fun w => Option.bind w _) hB) ?_
  rw [bnd, thenO_ret, finish_new]
end K54
end

section
set_option autoImplicit false
set_option linter.all false
set_option maxRecDepth 20000
namespace K54
open PySem DL
theorem enumD_map (row : List Int) : ∀ i, enumD i (row.map D.int) = (row.zipIdx i).map fun p => D.tup [.int (p.2 : Int), .int p.1] := by
  induction row with
  | nil => exact fun _ => rfl
  | cons c r ih =>
    intro i
    rw [List.map_cons, List.zipIdx_cons, List.map_cons, ← ih (i + 1)]
    rfl
def pairF (F : Int → Nat → Int) : D → D
  | .tup [.int a, .int c] => .int (F c a.toNat)
  | d => d
theorem turns_enum {g : Ev} {elt : Tm} {tg : Tg} {own : List Nat} {ρ : DL.Env} {S : Store} (row : List Int) (F : Int → Nat → Int)
    (h : ∀ (c : Int) (i : Nat), i < row.length → row[i]? = some c → ∃ ρ1, bindT tg (.tup [.int (i : Int), .int c]) (wipe ρ own) = some ρ1 ∧ g elt ρ1 S = some (.d (.int (F c i)), S)) (hl : row.length ≤ 10000000) :
    turns g elt tg [] own ρ (enumD 0 (row.map D.int)) [] S = some ((row.zipIdx.map fun p => F p.1 p.2).map D.int, S) := by
  rw [enumD_map, turns_map (pairF F) _ (fun x hx => ?_) (by rw [List.length_map, List.length_zipIdx]; exact hl)]
  · rw [List.map_map, List.map_map]
    rfl
  · rw [List.mem_map] at hx
    obtain ⟨⟨c, i⟩, hp, rfl⟩ := hx
    have h1 := List.mem_zipIdx_iff_getElem?.mp hp
    have h2 : i < row.length := by
      rcases Nat.lt_or_ge i row.length with h' | h'
      · exact h'
      · rw [List.getElem?_eq_none h'] at h1
        exact absurd h1 (by simp [-Option.bind_some])
    exact h c i h2 h1
/-- a row of ints -/
def rowD (r : List Int) : D := .lst (r.map D.int)
/-- less, moved up by w -/
def upBy (less : List Int) (w i : Nat) : Int := if w ≤ i then less.getD (i - w) 0 else 0
def shP (row less : List Int) (w : Nat) : List Int := row.zipIdx.map fun p => p.1 + upBy less w p.2
def unP (row less : List Int) (w : Nat) : List Int := row.zipIdx.map fun p => p.1 - upBy less w p.2
theorem shP_len (row less : List Int) (w : Nat) : (shP row less w).length = row.length := by simp [-Option.bind_some, shP]
theorem unP_len (row less : List Int) (w : Nat) : (unP row less w).length = row.length := by simp [-Option.bind_some, unP]
theorem atD_ints {r : List Int} {i : Nat} (h : i < r.length) : atD (r.map D.int) (i : Int) = some (.int (r.getD i 0)) := by
  rw [atD_nat (i := i) (by rw [List.length_map]; exact h), List.getElem_map, List.getD_eq_getElem?_getD, List.getElem?_eq_getElem h]
  rfl
theorem ev_up (C : Call) (m : Nat) (hm : 4 ≤ m) (vi vl vw : Nat) (less : List Int) (w i : Nat) (ρ : DL.Env) (S : Store) (hi : i < less.length)
    (h1 : getV ρ S vi = some (.d (.int (i : Int)), S)) (h2 : getV ρ S vl = some (.d (rowD less), S)) (h3 : getV ρ S vw = some (.d (.int (w : Int)), S)) :
    ev C m (.ite (.o2 .ge (.var vi) (.var vw)) (.idxL (.var vl) (.o2 .sub (.var vi) (.var vw))) (.cst (.int 0))) ρ S = some (.d (.int (upBy less w i)), S) := by
  obtain ⟨n, rfl⟩ : ∃ n, m = n + 4 := ⟨m - 4, by omega⟩
  unfold upBy
  by_cases hw : w ≤ i
  · have e : (i : Int) - (w : Int) = ((i - w : Nat) : Int) := by omega
    have ea := atD_ints (r := less) (i := i - w) (by omega)
    simp [-Option.bind_some, h1, h2, h3, hw, e, ea, rowD]
  · simp [-Option.bind_some, h1, h2, h3, hw]
theorem r_shifted (k : Nat) (row less : List Int) (w : Nat) (S : Store) (hl : row.length = less.length) (hs : row.length < 100000) :
    callD tab (k + 1) 8 [.d (rowD row), .d (rowD less), .d (.int (w : Int))] S = some (.d (rowD (shP row less w)), S) := by
  rw [callD_run (fn := f8) rfl rfl]
  have ht := turns_enum (g := ev (callD tab k) 39) (elt := .o2 .add (.var 4) (.ite (.o2 .ge (.var 3) (.var 2)) (.idxL (.var 1) (.o2 .sub (.var 3) (.var 2))) (.cst (.int 0)))) (tg := .tp [(.nm 3), (.nm 4)]) (own := [3, 4]) (ρ := [some (.d (rowD row)), some (.d (rowD less)), some (.d (.int (w : Int))), none, none]) (S := S) row (fun c i => c + upBy less w i)
    (fun c i hi _ => by
      refine ⟨[some (.d (rowD row)), some (.d (rowD less)), some (.d (.int (w : Int))), some (.d (.int (i : Int))), some (.d (.int c))], by simp [-Option.bind_some], ?_⟩
      have hu := ev_up (callD tab k) 38 (by omega) 3 1 2 less w i [some (.d (rowD row)), some (.d (rowD less)), some (.d (.int (w : Int))), some (.d (.int (i : Int))), some (.d (.int c))] S (by omega) (by simp [-Option.bind_some]) (by simp [-Option.bind_some]) (by simp [-Option.bind_some])
      rw [ev_o2, ev_var]
      simp only [getV_zero, getV_succ, bnd]
      rw [hu]
      simp [-Option.bind_some]) (by omega)
  unfold f8
  simp only [exs_cons, ex_ret, ev_lc, evs_cons, evs_nil, ev_var, getV_zero, bnd, List.map_cons, List.map_nil, List.cons_append, List.nil_append]
  rw [show walked S .enumL [.d (rowD row)] = some (enumD 0 (row.map D.int)) from rfl, bnd]
  refine Eq.trans (congrArg (fun w => Option.bind (Option.bind (Option.bind (Option.bind w _) _) _) _) ht) ?_
  simp [-Option.bind_some, shP, rowD]
end K54
end

section
set_option autoImplicit false
set_option linter.all false
set_option maxRecDepth 20000
namespace K54
open PySem DL
/-- the rows without one weight, the last one told -/
def outP (w : Nat) : List Int → List (List Int) → List (List Int)
  | _, [] => []
  | l, r :: rs => unP r l w :: outP w (unP r l w) rs
def tkBody : List Stm := [.asg (.nm 4) (.idxL (.var 2) (.o1 .neg (.cst (.int 1)))), .expr (.app (.var 2) (.lc (.o2 .sub (.var 6) (.ite (.o2 .ge (.var 5) (.var 1)) (.idxL (.var 4) (.o2 .sub (.var 5) (.var 1))) (.cst (.int 0)))) (.tp [(.nm 5), (.nm 6)]) .enumL [.var 3] [] [5, 6]))]
theorem tk_turn (C : Call) (R : Option E) (row less : List Int) (w : Nat) (S : Store) (p : Option E) (hl : row.length = less.length) (hs : row.length < 100000) :
    turns (ev C 38) (.o2 .sub (.var 6) (.ite (.o2 .ge (.var 5) (.var 1)) (.idxL (.var 4) (.o2 .sub (.var 5) (.var 1))) (.cst (.int 0)))) (.tp [(.nm 5), (.nm 6)]) [] [5, 6] [R, some (.d (.int (w : Int))), p, some (.d (rowD row)), some (.d (rowD less)), none, none] (enumD 0 (row.map D.int)) [] S = some ((unP row less w).map D.int, S) :=
  turns_enum row (fun c i => c - upBy less w i)
    (fun c i hi _ => by
      refine ⟨[R, some (.d (.int (w : Int))), p, some (.d (rowD row)), some (.d (rowD less)), some (.d (.int (i : Int))), some (.d (.int c))], by simp [-Option.bind_some], ?_⟩
      have hu := ev_up C 37 (by omega) 5 4 1 less w i [R, some (.d (.int (w : Int))), p, some (.d (rowD row)), some (.d (rowD less)), some (.d (.int (i : Int))), some (.d (.int c))] S (by omega) (by simp [-Option.bind_some]) (by simp [-Option.bind_some]) (by simp [-Option.bind_some])
      rw [ev_o2, ev_var]
      simp only [getV_zero, getV_succ, bnd]
      rw [hu]
      simp [-Option.bind_some]) (by omega)
theorem tk_step (C : Call) (R : Option E) (row less : List Int) (w : Nat) (S : Store) (z3 z4 : Option E) (acc : List D) (hl : row.length = less.length) (hs : row.length < 100000) (ha : acc.length < 1000000) :
    exs (ex C 19) tkBody [R, some (.d (.int (w : Int))), some (.r S.length), some (.d (rowD row)), z4, none, none] (S ++ [some (acc ++ [rowD less])]) = some (.nx [R, some (.d (.int (w : Int))), some (.r S.length), some (.d (rowD row)), some (.d (rowD less)), none, none], S ++ [some (acc ++ [rowD less] ++ [rowD (unP row less w)])]) := by
  have ht := tk_turn C R row less w (S ++ [some (acc ++ [rowD less])]) (some (.r S.length)) hl hs
  have hw : walked (S ++ [some (acc ++ [rowD less])]) .enumL [.d (rowD row)] = some (enumD 0 (row.map D.int)) := rfl
  have hn : acc.length + 1 < 10000000 := by omega
  simp [-Option.bind_some, tkBody, atD_last, hw, ht, hn]
  rfl
theorem tk_loop (C : Call) (R : Option E) (w N : Nat) (hN : N < 100000) : ∀ (rs : List (List Int)) (l : List Int) (S : Store) (z3 z4 : Option E) (acc : List D), (∀ r ∈ rs, r.length = N) → l.length = N → acc.length + rs.length < 1000000 →
    ∃ z3' z4', forL (ex C 19) (.nm 3) tkBody (rs.map rowD) [R, some (.d (.int (w : Int))), some (.r S.length), z3, z4, none, none] (S ++ [some (acc ++ [rowD l])]) = some (.nx [R, some (.d (.int (w : Int))), some (.r S.length), z3', z4', none, none], S ++ [some (acc ++ [rowD l] ++ (outP w l rs).map rowD)])
  | [], l, S, z3, z4, acc, _, _, _ => ⟨z3, z4, by simp [-Option.bind_some, outP]⟩
  | r :: rs, l, S, z3, z4, acc, h, hl, ha => by
    have hr := h r List.mem_cons_self
    rw [List.length_cons] at ha
    have st := tk_step C R r l w S z3 z4 acc (by omega) (by omega) (by omega)
    obtain ⟨z3', z4', ih⟩ := tk_loop C R w N hN rs (unP r l w) S (some (.d (rowD r))) (some (.d (rowD l))) (acc ++ [rowD l]) (fun x hx => h x (List.mem_cons_of_mem _ hx)) (by rw [unP_len]; exact hr) (by rw [List.length_append, List.length_singleton]; omega)
    refine ⟨z3', z4', ?_⟩
    rw [List.map_cons, forL_cons, bindT_nm, if_pos (by simp [-Option.bind_some]), bnd]
    rw [show ([R, some (.d (.int (w : Int))), some (.r S.length), z3, z4, none, none] : DL.Env).set 3 (some (.d (rowD r))) = [R, some (.d (.int (w : Int))), some (.r S.length), some (.d (rowD r)), z4, none, none] from rfl, st, bnd, thenO_nx, ih]
    simp [-Option.bind_some, outP]
def outs (w : Nat) : List (List Int) → List (List Int)
  | [] => []
  | r :: rs => r :: outP w r rs.dropLast
theorem cut_mid (r : D) (rs : List D) (h : rs ≠ []) : cutD (r :: rs) (some 1) (some (-1)) = rs.dropLast := by
  unfold cutD
  have e1 : HT.sIx (r :: rs).length 0 (some 1) = 1 := by
    rw [show (1 : Int) = ((1 : Nat) : Int) from rfl, HT.sIx_nat, List.length_cons]
    omega
  have e2 : HT.sIx (r :: rs).length (r :: rs).length (some (-1)) = rs.length := by
    unfold HT.sIx
    dsimp only
    rw [if_pos (by decide), List.length_cons]
    omega
  rw [e1, e2, List.drop_one, List.tail_cons, List.dropLast_eq_take]
theorem r_taken_out (k : Nat) (r : List Int) (rs : List (List Int)) (w N : Nat) (S : Store) (hN : N < 100000) (h : ∀ x ∈ r :: rs, x.length = N) (h0 : rs ≠ []) (hs : rs.length < 100000) :
    callD tab (k + 1) 9 [.d (.lst ((r :: rs).map rowD)), .d (.int (w : Int))] S = some (.d (.lst ((outs w (r :: rs)).map rowD)), S) := by
  rw [callD_run (fn := f9) rfl rfl]
  obtain ⟨z3, z4, e⟩ := tk_loop (callD tab k) (some (.d (.lst ((r :: rs).map rowD)))) w N hN rs.dropLast r S none none [] (fun x hx => h x (List.mem_cons_of_mem _ (List.dropLast_subset _ hx))) (h r List.mem_cons_self) (by rw [List.length_dropLast, List.length_nil]; omega)
  have hc : cutD ((r :: rs).map rowD) (some 1) (some (-1)) = rs.dropLast.map rowD := by
    rw [List.map_cons, cut_mid _ _ (by simpa using h0), List.map_dropLast]
  have ha : atD ((r :: rs).map rowD) 0 = some (rowD r) := by
    rw [show (0 : Int) = ((0 : Nat) : Int) from rfl, atD_nat (i := 0) (by simp [-Option.bind_some])]
    rfl
  rw [List.map_cons] at hc ha e
  rw [List.map_dropLast] at hc e
  simp only [List.nil_append] at e
  unfold tkBody at e
  simp [-Option.bind_some, f9, ha, hc, fits, e, outs]
end K54
end

section
set_option autoImplicit false
set_option linter.all false
set_option maxRecDepth 20000
namespace K54
open PySem DL
theorem enumD_mapD (row : List D) : ∀ i, enumD i row = (row.zipIdx i).map fun p => D.tup [.int (p.2 : Int), p.1] := by
  induction row with
  | nil => exact fun _ => rfl
  | cons c r ih =>
    intro i
    rw [List.zipIdx_cons, List.map_cons, ← ih (i + 1)]
    rfl
def pairG (F : Nat → D) : D → D
  | .tup [.int a, _] => F a.toNat
  | d => d
theorem turns_enumR {g : Ev} {elt : Tm} {tg : Tg} {own : List Nat} {ρ : DL.Env} {S : Store} (rows : List (List Int)) (F : List Int → Nat → List Int)
    (h : ∀ (c : List Int) (i : Nat), i < rows.length → rows[i]? = some c → ∃ ρ1, bindT tg (.tup [.int (i : Int), rowD c]) (wipe ρ own) = some ρ1 ∧ g elt ρ1 S = some (.d (rowD (F c i)), S)) (hl : rows.length ≤ 10000000) :
    turns g elt tg [] own ρ (enumD 0 (rows.map rowD)) [] S = some ((rows.zipIdx.map fun p => F p.1 p.2).map rowD, S) := by
  rw [enumD_mapD, turns_map (pairG (fun i => rowD (F (rows.getD i []) i))) _ (fun x hx => ?_) (by rw [List.length_map, List.length_zipIdx, List.length_map]; exact hl)]
  · rw [List.map_map, List.map_map, List.zipIdx_map, List.map_map]
    congr 2
    refine List.map_congr_left fun p hp => ?_
    have h1 := List.mem_zipIdx_iff_getElem?.mp hp
    show rowD (F (rows.getD (p.2 : Int).toNat []) (p.2 : Int).toNat) = rowD (F p.1 p.2)
    rw [Int.toNat_natCast, List.getD_eq_getElem?_getD, h1]
    rfl
  · rw [List.zipIdx_map, List.map_map, List.mem_map] at hx
    obtain ⟨⟨c, i⟩, hp, rfl⟩ := hx
    have h1 := List.mem_zipIdx_iff_getElem?.mp hp
    have h2 : i < rows.length := by
      rcases Nat.lt_or_ge i rows.length with h' | h'
      · exact h'
      · rw [List.getElem?_eq_none h'] at h1
        exact absurd h1 (by simp [-Option.bind_some])
    obtain ⟨ρ1, e1, e2⟩ := h c i h2 h1
    refine ⟨ρ1, e1, ?_⟩
    rw [e2]
    show _ = some (E.d (rowD (F (rows.getD (i : Int).toNat []) (i : Int).toNat)), S)
    rw [Int.toNat_natCast, List.getD_eq_getElem?_getD, h1]
    rfl
def stepC (w : Nat) (rows : List (List Int)) : List (List Int) := rows.zipIdx.map fun p => if p.2 = 0 then p.1 else shP p.1 (rows.getD (p.2 - 1) []) w
theorem stepC_len (w : Nat) (rows : List (List Int)) : (stepC w rows).length = rows.length := by simp [-Option.bind_some, stepC]
theorem stepC_N (w N : Nat) (rows : List (List Int)) (h : ∀ r ∈ rows, r.length = N) : ∀ r ∈ stepC w rows, r.length = N := by
  intro r hr
  unfold stepC at hr
  rw [List.mem_map] at hr
  obtain ⟨⟨c, i⟩, hp, rfl⟩ := hr
  have h1 := List.mem_of_getElem? (List.mem_zipIdx_iff_getElem?.mp hp)
  dsimp only
  split
  · exact h _ h1
  · rw [shP_len]
    exact h _ h1
def cElt : Tm := .lc (.ite (.o2 .eq (.var 4) (.cst (.int 0))) (.var 5) (.call 8 [.var 5, .idxL (.var 2) (.o2 .sub (.var 4) (.cst (.int 1))), .var 3])) (.tp [(.nm 4), (.nm 5)]) .enumL [.var 2] [] [4, 5]
theorem c_turn (k : Nat) (W Q : Option E) (w N : Nat) (rows : List (List Int)) (S : Store) (h : ∀ r ∈ rows, r.length = N) (hN : N < 100000) (hl : rows.length < 100000) :
    ev (callD tab (k + 1)) 40 cElt [W, Q, some (.d (.lst (rows.map rowD))), some (.d (.int (w : Int))), none, none] S = some (.d (.lst ((stepC w rows).map rowD)), S) := by
  have ht := turns_enumR (g := ev (callD tab (k + 1)) 39) (elt := .ite (.o2 .eq (.var 4) (.cst (.int 0))) (.var 5) (.call 8 [.var 5, .idxL (.var 2) (.o2 .sub (.var 4) (.cst (.int 1))), .var 3])) (tg := .tp [(.nm 4), (.nm 5)]) (own := [4, 5]) (ρ := [W, Q, some (.d (.lst (rows.map rowD))), some (.d (.int (w : Int))), none, none]) (S := S) rows (fun c i => if i = 0 then c else shP c (rows.getD (i - 1) []) w)
    (fun c i hi hc => by
      refine ⟨[W, Q, some (.d (.lst (rows.map rowD))), some (.d (.int (w : Int))), some (.d (.int (i : Int))), some (.d (rowD c))], by simp [-Option.bind_some], ?_⟩
      have hcN := h c (List.mem_of_getElem? hc)
      by_cases h0 : i = 0
      · subst h0
        simp [-Option.bind_some]
      · have e : (i : Int) - 1 = ((i - 1 : Nat) : Int) := by omega
        have hg : rows[i - 1]? = some (rows.getD (i - 1) []) := by
          rw [List.getD_eq_getElem?_getD, List.getElem?_eq_getElem (by omega)]
          rfl
        have hpN := h _ (List.mem_of_getElem? hg)
        have ea : atD (rows.map rowD) ((i - 1 : Nat) : Int) = some (rowD (rows.getD (i - 1) [])) := by
          rw [atD_nat (i := i - 1) (by rw [List.length_map]; omega), List.getElem_map, List.getD_eq_getElem?_getD, List.getElem?_eq_getElem (by omega)]
          rfl
        have hs := r_shifted k c (rows.getD (i - 1) []) w S (by omega) (by omega)
        have h0' : ¬ ((i : Int) = 0) := by omega
        simp only [ev_ite, ev_o2, ev_var, ev_cst, getV_zero, getV_succ, bnd, deref_d, eqD_int, decide_eq_false h0', isTrueD_bl, Bool.false_eq_true, if_false, ev_call, evs_cons, evs_nil, ev_idxL, o2_sub, asD_d, asI_int, onSeq_lst, e, ea, hs, if_neg h0]) (by omega)
  unfold cElt
  rw [ev_lc]
  simp only [evs_cons, evs_nil, ev_var, getV_zero, getV_succ, bnd, walked_eL]
  rw [ht, bnd]
  rfl
end K54
end

section
set_option autoImplicit false
set_option linter.all false
set_option maxRecDepth 20000
namespace K54
open PySem DL
def natD (w : Nat) : D := .int (w : Int)
def countR (ws : List Nat) (rows : List (List Int)) : List (List Int) := ws.foldl (fun rows w => stepC w rows) rows
theorem countR_len : ∀ (ws : List Nat) (rows : List (List Int)), (countR ws rows).length = rows.length
  | [], _ => rfl
  | w :: ws, rows => by
    show (countR ws (stepC w rows)).length = _
    rw [countR_len ws, stepC_len]
theorem countR_N (N : Nat) : ∀ (ws : List Nat) (rows : List (List Int)), (∀ r ∈ rows, r.length = N) → ∀ r ∈ countR ws rows, r.length = N
  | [], _, h => h
  | w :: ws, rows, h => countR_N N ws (stepC w rows) (stepC_N w N rows h)
theorem c_loop (k : Nat) (W Q : Option E) (N : Nat) (S : Store) (hN : N < 100000) : ∀ (ws : List Nat) (rows : List (List Int)) (z3 : Option E), (∀ r ∈ rows, r.length = N) → rows.length < 100000 →
    ∃ z3', forL (ex (callD tab (k + 1)) 19) (.nm 3) [.asg (.nm 2) cElt] (ws.map natD) [W, Q, some (.d (.lst (rows.map rowD))), z3, none, none] S = some (.nx [W, Q, some (.d (.lst ((countR ws rows).map rowD))), z3', none, none], S)
  | [], rows, z3, _, _ => ⟨z3, rfl⟩
  | w :: ws, rows, z3, h, hl => by
    obtain ⟨z3', ih⟩ := c_loop k W Q N S hN ws (stepC w rows) (some (.d (natD w))) (stepC_N w N rows h) (by rw [stepC_len]; exact hl)
    refine ⟨z3', ?_⟩
    have ht := c_turn k W Q w N rows S h hN hl
    rw [List.map_cons, forL_cons, bindT_nm, if_pos (by simp [-Option.bind_some]), bnd]
    rw [show ([W, Q, some (.d (.lst (rows.map rowD))), z3, none, none] : DL.Env).set 3 (some (.d (natD w))) = [W, Q, some (.d (.lst (rows.map rowD))), some (.d (.int (w : Int))), none, none] from rfl, exs_cons, ex_asgN, ht, bnd, if_pos (by simp [-Option.bind_some]), bnd, thenO_nx, exs_nil, bnd, thenO_nx]
    exact ih
/-- no one yet -/
def startR (n q : Nat) : List (List Int) := (1 :: List.replicate q 0) :: List.replicate n (0 :: List.replicate q 0)
theorem startR_len (n q : Nat) : (startR n q).length = n + 1 := by simp [-Option.bind_some, startR]
theorem startR_N (n q : Nat) : ∀ r ∈ startR n q, r.length = q + 1 := by
  intro r hr
  unfold startR at hr
  rw [List.mem_cons, List.mem_replicate] at hr
  rcases hr with rfl | ⟨_, rfl⟩ <;> simp [-Option.bind_some]
theorem rep_ints (q : Nat) : (List.replicate q [D.int 0]).flatten = (List.replicate q (0 : Int)).map D.int := by
  induction q with
  | zero => rfl
  | succ q ih => rw [List.replicate_succ, List.flatten_cons, ih, List.replicate_succ]; rfl
theorem r_counted (k : Nat) (ws : List Nat) (q : Nat) (S : Store) (hq : q < 90000) (hn : ws.length < 90000) :
    callD tab (k + 2) 7 [.d (.tup (ws.map natD)), .d (.int ((q + 1 : Nat) : Int))] S = some (.d (.lst ((countR ws (startR ws.length q)).map rowD)), S) := by
  rw [callD_run (fn := f7) rfl rfl]
  obtain ⟨z, e⟩ := c_loop k (some (.d (.tup (ws.map natD)))) (some (.d (.int ((q + 1 : Nat) : Int)))) (q + 1) S (by omega) ws (startR ws.length q) none (startR_N _ _) (by rw [startR_len]; omega)
  have hr : o2 .repL (.lst [.int 0]) (.int ((q + 1 : Nat) : Int)) = some (rowD (List.replicate (q + 1) 0)) := by
    show (if (fits (1 * ((q + 1 : Nat) : Int).toNat) && decide (((q + 1 : Nat) : Int).natAbs < 2 ^ 62)) = true then some (D.lst (List.replicate ((q + 1 : Nat) : Int).toNat [D.int 0]).flatten) else none) = _
    rw [Int.toNat_natCast, Int.natAbs_natCast, rep_ints, if_pos]
    · rfl
    · unfold fits
      rw [decide_eq_true (by omega : 1 * (q + 1) ≤ 10000000), Bool.true_and]
      refine decide_eq_true ?_
      have : (100000 : Nat) < 2 ^ 62 := by decide
      omega
  have hw : walked S .rng1 [.d (.int ((ws.length : Int) + 1))] = some ((List.range (ws.length + 1)).map fun (i : Nat) => .int (i : Int)) := by
    rw [walked_r1, small62_int (by omega), if_pos rfl]
    rfl
  have ht := turns_map (g := ev (callD tab (k + 1)) 39) (elt := .o2 .repL (.lst [.cst (.int 0)]) (.var 1)) (tg := .nm 4) (own := [4]) (ρ := [some (.d (.tup (ws.map natD))), some (.d (.int ((q + 1 : Nat) : Int))), none, none, none, none]) (S := S) (fun _ => rowD (List.replicate (q + 1) 0)) ((List.range (ws.length + 1)).map fun (i : Nat) => .int (i : Int))
    (fun x hx => ⟨[some (.d (.tup (ws.map natD))), some (.d (.int ((q + 1 : Nat) : Int))), none, none, some (.d x), none], by simp [-Option.bind_some], by
      simp only [ev_o2, ev_lst, evs_cons, evs_nil, ev_cst, ev_var, getV_zero, getV_succ, bnd, asDs_cons, asDs_nil, Option.map_some, List.length_cons, List.length_nil, deref_d]
      rw [if_pos (by decide), bnd]
      simp only [bnd, deref_d, hr]⟩) (by rw [List.length_map, List.length_range]; omega)
  have hg : ((List.range (ws.length + 1)).map fun (i : Nat) => D.int (i : Int)).map (fun _ => rowD (List.replicate (q + 1) 0)) = D.lst (D.int 0 :: (List.replicate q (0 : Int)).map D.int) :: List.replicate ws.length (rowD (0 :: List.replicate q 0)) := by
    rw [List.map_map]
    have : ((fun (_ : D) => rowD (List.replicate (q + 1) 0)) ∘ fun (i : Nat) => D.int (i : Int)) = Function.const Nat (rowD (List.replicate (q + 1) 0)) := rfl
    rw [this, List.map_const, List.length_range, List.replicate_succ, List.replicate_succ]
    rfl
  rw [hg] at ht
  have hst : (startR ws.length q).map rowD = D.lst (D.int 1 :: (List.replicate q (0 : Int)).map D.int) :: List.replicate ws.length (rowD (0 :: List.replicate q 0)) := by
    unfold startR
    rw [List.map_cons, List.map_replicate]
    rfl
  rw [hst] at e
  unfold cElt at e
  unfold f7
  simp only [exs_cons, ex_grid, ev_lc, evs_cons, evs_nil, ev_o2, ev_o1, ev_var, ev_cst, getV_zero, getV_succ, bnd, deref_d, o1_lenT, o2_add, List.length_map, hw, ht, onG_lst, List.map_cons, List.map_nil, List.cons_append, List.nil_append, List.length_cons, List.length_nil, Nat.reduceAdd, Nat.reduceSub, Nat.reduceLT, if_true, List.replicate_succ, List.replicate_zero, List.set_cons_succ, List.set_cons_zero, thenO_nx, ex_for, walked_tup, e, ex_ret, thenO_ret, finish_d, List.take_length]
end K54
end

section
set_option autoImplicit false
set_option linter.all false
set_option maxRecDepth 20000
namespace K54
open PySem DL
/-! the table of counts -/
def tbl (n q : Nat) (f : Nat → Nat → Nat) : List (List Int) := (List.range (n + 1)).map fun s => (List.range q).map fun t => ((f s t : Nat) : Int)
def addW (w : Nat) (f : Nat → Nat → Nat) (s t : Nat) : Nat := f s t + (if 1 ≤ s ∧ w ≤ t then f (s - 1) (t - w) else 0)
/-- the sublists of size s and sum t -/
def Fr : List Nat → Nat → Nat → Nat
  | [] => fun s t => if s = 0 ∧ t = 0 then 1 else 0
  | w :: r => addW w (Fr r)
def rowT (q : Nat) (g : Nat → Nat) : List Int := (List.range q).map fun t => ((g t : Nat) : Int)
theorem rowT_getD {q i : Nat} (g : Nat → Nat) (h : i < q) : (rowT q g).getD i 0 = ((g i : Nat) : Int) := by
  rw [List.getD_eq_getElem?_getD, List.getElem?_eq_getElem (by simp [-Option.bind_some, rowT]; exact h)]
  simp [-Option.bind_some, rowT]
theorem shP_rowT (q w : Nat) (g h : Nat → Nat) : shP (rowT q g) (rowT q h) w = rowT q fun t => g t + (if w ≤ t then h (t - w) else 0) := by
  apply List.ext_getElem
  · simp [-Option.bind_some, shP, rowT]
  · intro i h1 h2
    have hi : i < q := by simpa [rowT] using h2
    simp only [shP, List.getElem_map, List.getElem_zipIdx, Nat.zero_add, upBy]
    by_cases hw : w ≤ i
    · rw [if_pos hw, rowT_getD h (by omega)]
      simp [-Option.bind_some, rowT, hw]
    · rw [if_neg hw]
      simp [-Option.bind_some, rowT, hw]
theorem unP_rowT (q w : Nat) (g h : Nat → Nat) : unP (rowT q fun t => g t + (if w ≤ t then h (t - w) else 0)) (rowT q h) w = rowT q g := by
  apply List.ext_getElem
  · simp [-Option.bind_some, unP, rowT]
  · intro i h1 h2
    have hi : i < q := by simpa [rowT] using h2
    simp only [unP, List.getElem_map, List.getElem_zipIdx, Nat.zero_add, upBy]
    by_cases hw : w ≤ i
    · rw [if_pos hw, rowT_getD h (by omega)]
      simp [-Option.bind_some, rowT, hw]
    · rw [if_neg hw]
      simp [-Option.bind_some, rowT, hw]
theorem tbl_eq (n q : Nat) (f : Nat → Nat → Nat) : tbl n q f = (List.range (n + 1)).map fun s => rowT q (f s) := rfl
theorem stepC_tbl (n q w : Nat) (f : Nat → Nat → Nat) : stepC w (tbl n q f) = tbl n q (addW w f) := by
  apply List.ext_getElem
  · simp [-Option.bind_some, stepC, tbl]
  · intro i h1 h2
    have hi : i < n + 1 := by simpa [tbl] using h2
    simp only [stepC, List.getElem_map, List.getElem_zipIdx, Nat.zero_add]
    by_cases h0 : i = 0
    · subst h0
      rw [if_pos rfl]
      simp [-Option.bind_some, tbl, addW]
    · rw [if_neg h0]
      have e1 : (tbl n q f).getD (i - 1) [] = rowT q (f (i - 1)) := by
        rw [List.getD_eq_getElem?_getD, List.getElem?_eq_getElem (by simp [-Option.bind_some, tbl]; omega)]
        simp [-Option.bind_some, tbl, rowT]
      rw [e1]
      simp only [tbl_eq, List.getElem_map, List.getElem_range]
      rw [shP_rowT]
      congr 1
      funext t
      unfold addW
      have h1 : 1 ≤ i := by omega
      simp [-Option.bind_some, h1]
theorem startR_tbl (n q : Nat) : startR n q = tbl n (q + 1) (Fr []) := by
  have e0 : rowT (q + 1) (Fr [] 0) = 1 :: List.replicate q 0 := by
    unfold rowT
    rw [List.range_succ_eq_map, List.map_cons, List.map_map]
    congr 1
    rw [List.eq_replicate_iff]
    constructor
    · simp [-Option.bind_some]
    · intro b hb
      rw [List.mem_map] at hb
      obtain ⟨t, _, rfl⟩ := hb
      simp [-Option.bind_some, Fr]
  have e1 : ∀ s, rowT (q + 1) (Fr [] (s + 1)) = 0 :: List.replicate q 0 := by
    intro s
    rw [← List.replicate_succ]
    unfold rowT
    rw [List.eq_replicate_iff]
    constructor
    · simp [-Option.bind_some]
    · intro b hb
      rw [List.mem_map] at hb
      obtain ⟨t, _, rfl⟩ := hb
      simp [-Option.bind_some, Fr]
  rw [tbl_eq, List.range_succ_eq_map, List.map_cons, List.map_map, e0]
  unfold startR
  congr 1
  symm
  rw [List.eq_replicate_iff]
  constructor
  · simp [-Option.bind_some]
  · intro b hb
    rw [List.mem_map] at hb
    obtain ⟨t, _, rfl⟩ := hb
    exact e1 t
theorem countR_tbl (n q : Nat) : ∀ (ws : List Nat) (vs : List Nat), countR ws (tbl n q (Fr vs)) = tbl n q (Fr (ws.reverse ++ vs))
  | [], vs => rfl
  | w :: ws, vs => by
    show countR ws (stepC w (tbl n q (Fr vs))) = _
    rw [stepC_tbl]
    have := countR_tbl n q ws (w :: vs)
    rw [List.reverse_cons, List.append_assoc]
    exact this
theorem addW_two (v w : Nat) (f : Nat → Nat → Nat) (s t : Nat) : addW v (addW w f) s t = f s t + (if 1 ≤ s ∧ w ≤ t then f (s - 1) (t - w) else 0) + (if 1 ≤ s ∧ v ≤ t then f (s - 1) (t - v) else 0) + (if 2 ≤ s ∧ v + w ≤ t then f (s - 2) (t - (v + w)) else 0) := by
  show (f s t + (if 1 ≤ s ∧ w ≤ t then f (s - 1) (t - w) else 0)) + (if 1 ≤ s ∧ v ≤ t then (f (s - 1) (t - v) + (if 1 ≤ s - 1 ∧ w ≤ t - v then f (s - 1 - 1) (t - v - w) else 0)) else 0) = _
  by_cases h1 : 1 ≤ s ∧ v ≤ t
  · rw [if_pos h1, if_pos h1]
    by_cases h2 : 1 ≤ s - 1 ∧ w ≤ t - v
    · rw [if_pos h2, if_pos (by omega : 2 ≤ s ∧ v + w ≤ t), Nat.sub_sub, Nat.sub_sub, ← Nat.add_assoc]
    · rw [if_neg h2, if_neg (by omega : ¬ (2 ≤ s ∧ v + w ≤ t))]
      rfl
  · rw [if_neg h1, if_neg h1, if_neg (by omega : ¬ (2 ≤ s ∧ v + w ≤ t))]
theorem addW_swap (v w : Nat) (f : Nat → Nat → Nat) : addW v (addW w f) = addW w (addW v f) := by
  funext s t
  rw [addW_two, addW_two, Nat.add_comm w v, Nat.add_right_comm (f s t)]
/-- the order of the weights does not matter -/
theorem Fr_perm {xs ys : List Nat} (h : xs.Perm ys) : Fr xs = Fr ys := by
  induction h with
  | nil => rfl
  | cons x _ ih => exact congrArg (addW x) ih
  | swap x y l => exact addW_swap y x (Fr l)
  | trans _ _ i1 i2 => exact i1.trans i2
theorem r_counted_tbl (ws : List Nat) (q : Nat) : countR ws (startR ws.length q) = tbl ws.length (q + 1) (Fr ws) := by
  rw [startR_tbl, countR_tbl, List.append_nil]
  rw [Fr_perm (List.reverse_perm ws)]
/-- taken out: the rows without one weight -/
theorem outP_tbl (q w : Nat) (g : Nat → Nat → Nat) : ∀ (n s : Nat), outP w (rowT q (g s)) ((List.range n).map fun i => rowT q (addW w g (s + 1 + i))) = (List.range n).map fun i => rowT q (g (s + 1 + i))
  | 0, _ => rfl
  | n + 1, s => by
    rw [List.range_succ_eq_map, List.map_cons, List.map_cons, List.map_map, List.map_map]
    have e : unP (rowT q (addW w g (s + 1 + 0))) (rowT q (g s)) w = rowT q (g (s + 1)) := by
      have e1 : addW w g (s + 1 + 0) = fun t => g (s + 1) t + (if w ≤ t then g s (t - w) else 0) := by
        funext t
        unfold addW
        simp [-Option.bind_some]
      rw [e1, unP_rowT]
    show unP _ _ w :: outP w (unP _ _ w) _ = _
    rw [e]
    congr 1
    have ih := outP_tbl q w g n (s + 1)
    have e2 : ∀ (f : Nat → Nat → Nat), ((fun i => rowT q (f (s + 1 + i))) ∘ Nat.succ) = fun i => rowT q (f (s + 1 + 1 + i)) := by
      intro f
      funext i
      show rowT q (f (s + 1 + (i + 1))) = _
      rw [show s + 1 + (i + 1) = s + 1 + 1 + i by omega]
    rw [e2, e2]
    exact ih
theorem outs_tbl (n q w : Nat) (g : Nat → Nat → Nat) : outs w (tbl (n + 1) q (addW w g)) = tbl n q g := by
  have e2 : ∀ (f : Nat → Nat → Nat), ((fun i => rowT q (f i)) ∘ Nat.succ) = fun i => rowT q (f (0 + 1 + i)) := by
    intro f
    funext i
    show rowT q (f (i + 1)) = _
    rw [show i + 1 = 0 + 1 + i by omega]
  have hR : ∀ (f : Nat → Nat → Nat) (n : Nat), tbl n q f = rowT q (f 0) :: (List.range n).map fun i => rowT q (f (0 + 1 + i)) := by
    intro f n
    rw [tbl_eq, List.range_succ_eq_map, List.map_cons, List.map_map, e2]
  have e0 : addW w g 0 = g 0 := by
    funext t
    simp [-Option.bind_some, addW]
  rw [hR g n, hR (addW w g) (n + 1), e0, List.range_succ, List.map_append, List.map_singleton]
  unfold outs
  dsimp only
  rw [List.dropLast_concat, outP_tbl]
end K54
end

section
set_option autoImplicit false
set_option linter.all false
set_option maxRecDepth 20000
namespace K54
open PySem DL
theorem turns_mapI {A : Type} {g : Ev} {elt : Tm} {tg : Tg} {own : List Nat} {ρ : DL.Env} {S : Store} (X Y : A → D) : ∀ (l : List A) (acc : List D),
    (∀ a ∈ l, ∃ ρ1, bindT tg (X a) (wipe ρ own) = some ρ1 ∧ g elt ρ1 S = some (.d (Y a), S)) → acc.length + l.length ≤ 10000000 →
    turns g elt tg [] own ρ (l.map X) acc S = some (acc ++ l.map Y, S)
  | [], acc, _, _ => by rw [List.map_nil, List.map_nil, List.append_nil]; rfl
  | a :: l, acc, h, hl => by
    obtain ⟨ρ1, e1, e2⟩ := h a List.mem_cons_self
    rw [List.length_cons] at hl
    rw [List.map_cons, turns_cons, e1, bnd, evT_nil, bnd, if_pos rfl, e2, bnd, asD_d, bnd, if_pos (by omega), turns_mapI X Y l (acc ++ [Y a]) (fun b hb => h b (List.mem_cons_of_mem _ hb)) (by rw [List.length_append, List.length_singleton]; omega), List.map_cons, List.append_assoc]
    rfl
theorem zipD_map {A : Type} (X Y : A → D) : ∀ l : List A, zipD (l.map X) (l.map Y) = l.map fun a => .tup [X a, Y a]
  | [] => rfl
  | a :: l => by
    rw [List.map_cons, List.map_cons, List.map_cons, ← zipD_map X Y l]
    rfl
theorem cut_lo (xs : List D) (lo : Nat) : cutD xs (some (lo : Int)) none = xs.drop lo := by
  unfold cutD
  rw [HT.sIx_nat, HT.sIx_none]
  by_cases h : lo ≤ xs.length
  · rw [Nat.min_eq_left h, List.take_of_length_le (by rw [List.length_drop]; omega)]
  · rw [Nat.min_eq_right (by omega), List.drop_of_length_le (Nat.le_refl _), List.drop_of_length_le (by omega), List.take_nil]
theorem Fr_le : ∀ (ws : List Nat) (s t : Nat), Fr ws s t ≤ 2 ^ ws.length
  | [], s, t => by
    show (if s = 0 ∧ t = 0 then 1 else 0) ≤ 1
    split <;> omega
  | w :: ws, s, t => by
    show Fr ws s t + (if 1 ≤ s ∧ w ≤ t then Fr ws (s - 1) (t - w) else 0) ≤ 2 ^ (ws.length + 1)
    have h1 := Fr_le ws s t
    have h2 := Fr_le ws (s - 1) (t - w)
    rw [Nat.pow_succ]
    split <;> omega
/-- how many bring the rest above: columns lo .. q-1 -/
def band (q lo : Nat) (g : Nat → Nat) : Nat := (((List.range q).drop lo).map g).sum
theorem band_le (q lo M : Nat) (g : Nat → Nat) (h : ∀ t, g t ≤ M) : band q lo g ≤ q * M := by
  unfold band
  have : ∀ l : List Nat, (l.map g).sum ≤ l.length * M := by
    intro l
    induction l with
    | nil => simp [-Option.bind_some]
    | cons a l ih =>
      rw [List.map_cons, List.sum_cons, List.length_cons, Nat.succ_mul]
      have := h a
      omega
  refine Nat.le_trans (this _) (Nat.mul_le_mul_right M ?_)
  rw [List.length_drop, List.length_range]
  omega
theorem sum_cast (l : List Nat) (g : Nat → Nat) : (l.map fun t => ((g t : Nat) : Int)).sum = (((l.map g).sum : Nat) : Int) := by
  induction l with
  | nil => rfl
  | cons a l ih => rw [List.map_cons, List.sum_cons, ih, List.map_cons, List.sum_cons, Int.natCast_add]
theorem o1_sum_row (q lo : Nat) (g : Nat → Nat) : o1 .sum (.lst (((rowT q g).map D.int).drop lo)) = some (.int ((band q lo g : Nat) : Int)) := by
  rw [← List.map_drop, o1_sum]
  unfold rowT band
  rw [← List.map_drop, sum_cast]
def tot (m q lo : Nat) (g : Nat → Nat → Nat) : Nat := ((List.range m).map fun s => fact s * fact (m - 1 - s) * band q lo (g s)).sum
theorem r_taken_tbl (k n q w : Nat) (g : Nat → Nat → Nat) (S : Store) (hn : n < 31) (hq : q < 90000) :
    callD tab (k + 1) 9 [.d (.lst ((tbl (n + 1) q (addW w g)).map rowD)), .d (.int (w : Int))] S = some (.d (.lst ((tbl n q g).map rowD)), S) := by
  have hN : ∀ x ∈ tbl (n + 1) q (addW w g), x.length = q := by
    intro x hx
    unfold tbl at hx
    rw [List.mem_map] at hx
    obtain ⟨s, _, rfl⟩ := hx
    simp [-Option.bind_some]
  have hL : (tbl (n + 1) q (addW w g)).length = n + 2 := by simp [-Option.bind_some, tbl]
  have ho := outs_tbl n q w g
  rcases ht : tbl (n + 1) q (addW w g) with _ | ⟨r, rs⟩
  · rw [ht] at hL
    simp [-Option.bind_some] at hL
  · rw [ht] at hN hL ho
    rw [List.length_cons] at hL
    rw [r_taken_out k r rs w q S (by omega) hN (by intro h; rw [h, List.length_nil] at hL; omega) (by omega), ho]
theorem r_share_of (k n q w : Nat) (g : Nat → Nat → Nat) (S : Store) (hn : n < 31) (hq : 0 < q ∧ q < 90000) (hg : ∀ s t, g s t ≤ 2 ^ 40) :
    callD tab (k + 3) 10 [.d (.lst ((tbl (n + 1) q (addW w g)).map rowD)), .d (.int (w : Int)), .d (.int (q : Int))] S = some (.d (redF (tot (n + 1) q (q - w) g) (fact (n + 1))), S) := by
  rw [callD_run (fn := f10) rfl rfl]
  have hL : (((tbl (n + 1) q (addW w g)).map rowD).length : Int) = (n : Int) + 2 := by simp [-Option.bind_some, tbl]; omega
  have hm : (n : Int) + 2 - 1 = ((n + 1 : Nat) : Int) := by omega
  have hlo : (if (q : Int) - (w : Int) > 0 then (q : Int) - (w : Int) else 0) = ((q - w : Nat) : Int) := by split <;> omega
  have h5 := r_rows_by (k + 1) (n + 1) S (by omega)
  have h9 := r_taken_tbl (k + 1) n q w g S hn hq.2
  have h6 := r_all_rows (k + 1) (n + 1) S (by omega)
  have h3 := r_reduced k (tot (n + 1) q (q - w) g) (fact (n + 1)) S (fact_pos _) (fact_small (by omega))
  have hz : walked S .zipLL [.d (.lst (rowsBy (n + 1))), .d (.lst ((tbl n q g).map rowD))] = some ((List.range (n + 1)).map fun s => .tup [.int ((fact s * fact (n + 1 - 1 - s) : Nat) : Int), rowD (rowT q (g s))]) := by
    rw [walked_zL, tbl_eq, List.map_map]
    exact congrArg some (zipD_map _ _ _)
  have ht := turns_mapI (g := ev (callD tab (k + 2)) 38) (elt := .o2 .mul (.var 6) (.o1 .sum (.slL (.var 7) (some (.var 4)) none))) (tg := .tp [(.nm 6), (.nm 7)]) (own := [6, 7])
    (ρ := [some (.d (.lst ((tbl (n + 1) q (addW w g)).map rowD))), some (.d (.int (w : Int))), some (.d (.int (q : Int))), some (.d (.int ((n + 1 : Nat) : Int))), some (.d (.int ((q - w : Nat) : Int))), none, none, none]) (S := S)
    (fun s => .tup [.int ((fact s * fact (n + 1 - 1 - s) : Nat) : Int), rowD (rowT q (g s))]) (fun s => .int ((fact s * fact (n + 1 - 1 - s) * band q (q - w) (g s) : Nat) : Int)) (List.range (n + 1)) []
    (fun s hs => by
      rw [List.mem_range] at hs
      refine ⟨[some (.d (.lst ((tbl (n + 1) q (addW w g)).map rowD))), some (.d (.int (w : Int))), some (.d (.int (q : Int))), some (.d (.int ((n + 1 : Nat) : Int))), some (.d (.int ((q - w : Nat) : Int))), none, some (.d (.int ((fact s * fact (n + 1 - 1 - s) : Nat) : Int))), some (.d (rowD (rowT q (g s))))], by simp [-Option.bind_some], ?_⟩
      have hb := band_le q (q - w) (2 ^ 40) (g s) (hg s)
      have hb2 : q * 2 ^ 40 < 2 ^ 60 := by omega
      have f1 := fact_small (n := s) (by omega)
      have f2 := fact_small (n := n + 1 - 1 - s) (by omega)
      have hB : B 380 ((fact s * fact (n + 1 - 1 - s) : Nat) : Int) := by
        rw [Int.natCast_mul]
        exact B.mul (n := 190) (m := 190) (by unfold B; omega) (by unfold B; omega)
      have hm := mulOk_of hB (j := ((band q (q - w) (g s) : Nat) : Int)) (m := 60) (by unfold B; omega) (by omega)
      have hs := o1_sum_row q (q - w) (g s)
      rw [show rowD (rowT q (g s)) = .lst ((rowT q (g s)).map D.int) from rfl]
      simp only [ev_o2, ev_o1, ev_slL, ev_var, getV_zero, getV_succ, bnd, evO_some, evO_none, asD_d, asI_int, deref_d, onSeq_lst, cut_lo, hs, o2_mul hm, ← Int.natCast_mul]) (by rw [List.length_nil, List.length_range]; omega)
  have hsum : o1 .sum (.lst ((List.range (n + 1)).map fun s => D.int ((fact s * fact (n + 1 - 1 - s) * band q (q - w) (g s) : Nat) : Int))) = some (.int ((tot (n + 1) q (q - w) g : Nat) : Int)) := by
    have := o1_sum ((List.range (n + 1)).map fun s => ((fact s * fact (n + 1 - 1 - s) * band q (q - w) (g s) : Nat) : Int))
    rw [List.map_map, sum_cast] at this
    exact this
  unfold f10
  rw [List.nil_append] at ht
  simp only [exs_cons, ex_asgN, ev_lc, evs_cons, evs_nil, ev_o2, ev_o1, ev_max2, ev_call, ev_var, ev_cst, getV_zero, getV_succ, bnd, deref_d, asD_d, asI_int, o1_lenL, hL, o2_sub, hm, hlo, h5, h9, h6, h3, hz, ht, hsum, List.map_cons, List.map_nil, List.cons_append, List.nil_append, List.length_cons, List.length_nil, Nat.reduceAdd, Nat.reduceSub, Nat.reduceLT, if_true, List.replicate_succ, List.replicate_zero, List.set_cons_succ, List.set_cons_zero, thenO_nx, ex_ret, thenO_ret, finish_d, List.take_length]
end K54
end

section
set_option autoImplicit false
set_option linter.all false
set_option maxRecDepth 20000
namespace K54
open PySem DL
def GoodK (V : Int → D) (acc : List (L2.Key × D)) : Prop := ∀ kv ∈ acc, ∃ n : Int, kv = (.inl n, V n)
theorem GoodK.put {V : Int → D} {acc : List (L2.Key × D)} (h : GoodK V acc) (n : Int) : GoodK V (putD acc (.inl n) (V n)) ∧ (.inl n, V n) ∈ putD acc (.inl n) (V n) ∧ ∀ kv ∈ acc, kv ∈ putD acc (.inl n) (V n) := by
  unfold putD
  split
  · rename_i hany
    have e : acc.map (fun kv => if kv.1 = (.inl n : L2.Key) then (kv.1, V n) else kv) = acc := by
      conv => rhs; rw [← List.map_id acc]
      refine List.map_congr_left fun kv hkv => ?_
      obtain ⟨m, rfl⟩ := h kv hkv
      dsimp only
      split
      · rename_i he
        have : m = n := by injection he
        rw [this]
        rfl
      · rfl
    rw [e]
    refine ⟨h, ?_, fun kv hkv => hkv⟩
    rw [List.any_eq_true] at hany
    obtain ⟨kv, hkv, hk⟩ := hany
    rw [decide_eq_true_eq] at hk
    obtain ⟨m, rfl⟩ := h kv hkv
    have : m = n := by injection hk
    rw [← this]
    exact hkv
  · refine ⟨?_, List.mem_append_right _ (List.mem_singleton.mpr rfl), fun kv hkv => List.mem_append_left _ hkv⟩
    intro kv hkv
    rw [List.mem_append, List.mem_singleton] at hkv
    rcases hkv with hkv | rfl
    · exact h kv hkv
    · exact ⟨n, rfl⟩
theorem merge_good {V : Int → D} : ∀ (l : List Int) (acc : List (L2.Key × D)), GoodK V acc →
    GoodK V (mergeD acc (l.map fun n => (.inl n, V n))) ∧ (∀ n ∈ l, (.inl n, V n) ∈ mergeD acc (l.map fun n => (.inl n, V n))) ∧ ∀ kv ∈ acc, kv ∈ mergeD acc (l.map fun n => (.inl n, V n))
  | [], acc, h => ⟨h, by simp [-Option.bind_some], fun kv hkv => hkv⟩
  | n :: l, acc, h => by
    obtain ⟨h1, h2, h3⟩ := h.put n
    obtain ⟨i1, i2, i3⟩ := merge_good l (putD acc (.inl n) (V n)) h1
    refine ⟨i1, ?_, fun kv hkv => i3 kv (h3 kv hkv)⟩
    intro m hm
    rw [List.mem_cons] at hm
    rcases hm with rfl | hm
    · exact i3 _ h2
    · exact i2 m hm
theorem valD_good {V : Int → D} {acc : List (L2.Key × D)} (h : GoodK V acc) {n : Int} (hn : (.inl n, V n) ∈ acc) : valD acc (.inl n) = some (V n) := by
  unfold valD
  rcases hf : acc.find? (fun kv => decide (kv.1 = (.inl n : L2.Key))) with _ | kv
  · have := List.find?_eq_none.mp hf _ hn
    simp [-Option.bind_some] at this
  · have h1 := List.mem_of_find?_eq_some hf
    have h2 := List.find?_some hf
    rw [decide_eq_true_eq] at h2
    obtain ⟨m, rfl⟩ := h kv h1
    have : m = n := by injection h2
    subst this
    rw [hf]
    rfl
theorem known (V : Int → D) (l : List Int) (n : Int) (h : n ∈ l) : valD (mergeD [] (l.map fun n => (.inl n, V n))) (.inl n) = some (V n) := by
  obtain ⟨h1, h2, _⟩ := merge_good (V := V) l [] (by intro kv hkv; exact absurd hkv (by simp [-Option.bind_some]))
  exact valD_good h1 (h2 n h)
theorem pairs_map (V : Int → D) : ∀ l : List Int, pairsOf (l.map fun n => .tup [.int n, V n]) = some (l.map fun n => (.inl n, V n))
  | [] => rfl
  | n :: l => by
    rw [List.map_cons, List.map_cons]
    show Option.bind (some ((.inl n : L2.Key), V n)) (fun p => (pairsOf (l.map fun n => .tup [.int n, V n])).map (p :: ·)) = _
    rw [pairs_map V l, bnd]
    rfl
theorem mem_ins (n x : Int) : ∀ l : List Int, x ∈ insS n l ↔ x = n ∨ x ∈ l
  | [] => by simp [-Option.bind_some, insS]
  | m :: r => by
    unfold insS
    split
    · simp [-Option.bind_some]
    · split
      · rename_i h
        subst h
        simp [-Option.bind_some]
      · rw [List.mem_cons, mem_ins n x r, List.mem_cons]
        constructor
        · rintro (h | h | h) <;> simp [-Option.bind_some, h]
        · rintro (h | h | h) <;> simp [-Option.bind_some, h]
theorem mem_sortSet (x : Int) : ∀ l : List Int, x ∈ sortSet l ↔ x ∈ l
  | [] => by simp [-Option.bind_some, sortSet]
  | n :: r => by
    unfold sortSet
    rw [mem_ins, mem_sortSet x r, List.mem_cons]
end K54
end

section
set_option autoImplicit false
set_option linter.all false
set_option maxRecDepth 20000
namespace K54
open PySem DL
/-- one weight's share -/
def shareG (ws : List Nat) (q w : Nat) : D := redF (tot ws.length q (q - w) (Fr (ws.erase w))) (fact ws.length)
theorem r_share_ws (k : Nat) (ws : List Nat) (q w : Nat) (S : Store) (hn : ws.length ≤ 31) (hq : q < 80000) (hw : w ∈ ws) :
    callD tab (k + 3) 10 [.d (.lst ((countR ws (startR ws.length q)).map rowD)), .d (.int (w : Int)), .d (.int ((q + 1 : Nat) : Int))] S = some (.d (shareG ws (q + 1) w), S) := by
  obtain ⟨n, hn'⟩ : ∃ n, ws.length = n + 1 := by
    cases ws with
    | nil => exact absurd hw (by simp [-Option.bind_some])
    | cons a r => exact ⟨r.length, rfl⟩
  have e1 : Fr ws = addW w (Fr (ws.erase w)) := Fr_perm (List.perm_cons_erase hw)
  have hg : ∀ s t, Fr (ws.erase w) s t ≤ 2 ^ 40 := fun s t => Nat.le_trans (Fr_le _ s t) (Nat.pow_le_pow_right (by decide) (by rw [List.length_erase_of_mem hw]; omega))
  have h := r_share_of k n (q + 1) w (Fr (ws.erase w)) S (by omega) (by omega) hg
  rw [r_counted_tbl, e1]
  unfold shareG
  rw [hn']
  exact h
end K54
end

section
set_option autoImplicit false
set_option linter.all false
set_option maxRecDepth 20000
namespace K54
open PySem DL
theorem all_bl (n : Nat) : o1 .all (.lst (List.replicate n (D.bl true))) = some (.bl true) := by
  have := o1_all (List.replicate n true)
  rw [List.map_replicate] at this
  rw [this]
  simp [-Option.bind_some]
theorem g_all (k : Nat) (ws : List Nat) (Q : Option E) (S : Store) (hl : ws.length < 1000) (h : ∀ w ∈ ws, w ≤ 999) :
    ev (callD tab (k + 2)) 38 (.o1 .all (.lc (.call 1 [.var 4, .cst (.int 0), .glob "MOST_GREAT_WEIGHT" (.int 999)]) (.nm 4) .tup [.var 0] [] [4])) [some (.d (.tup (ws.map natD))), Q, none, none, none] S = some (.d (.bl true), S) := by
  have ht := turns_mapI (g := ev (callD tab (k + 2)) 36) (elt := .call 1 [.var 4, .cst (.int 0), .glob "MOST_GREAT_WEIGHT" (.int 999)]) (tg := .nm 4) (own := [4]) (ρ := [some (.d (.tup (ws.map natD))), Q, none, none, none]) (S := S) natD (fun _ => .bl true) ws []
    (fun w hw => by
      refine ⟨[some (.d (.tup (ws.map natD))), Q, none, none, some (.d (natD w))], by simp [-Option.bind_some], ?_⟩
      have h1 := h w hw
      have hb := r_is_between k (w : Int) 0 999 S
      rw [decide_eq_true (by omega : (0 : Int) ≤ (w : Int)), decide_eq_true (by omega : (w : Int) ≤ 999), Bool.true_and] at hb
      simp only [ev_call, evs_cons, evs_nil, ev_var, ev_cst, ev_glob, getV_zero, getV_succ, bnd, natD, hb]) (by rw [List.length_nil]; omega)
  have e : ws.map (fun _ => D.bl true) = List.replicate ws.length (D.bl true) := by
    rw [List.map_const']
  rw [List.nil_append, e] at ht
  simp only [ev_o1, ev_lc, evs_cons, evs_nil, ev_var, getV_zero, bnd, walked_tup, ht, deref_d, all_bl]
theorem g_allT (k : Nat) (ws : List Nat) (Q : Option E) (S : Store) (hl : ws.length < 1000) (h : ∀ w ∈ ws, w ≤ 999) :
    turns (ev (callD tab (k + 2)) 36) (.call 1 [.var 4, .cst (.int 0), .glob "MOST_GREAT_WEIGHT" (.int 999)]) (.nm 4) [] [4] [some (.d (.tup (ws.map natD))), Q, none, none, none] (ws.map natD) [] S = some (List.replicate ws.length (D.bl true), S) := by
  have ht := turns_mapI (g := ev (callD tab (k + 2)) 36) (elt := .call 1 [.var 4, .cst (.int 0), .glob "MOST_GREAT_WEIGHT" (.int 999)]) (tg := .nm 4) (own := [4]) (ρ := [some (.d (.tup (ws.map natD))), Q, none, none, none]) (S := S) natD (fun _ => .bl true) ws []
    (fun w hw => by
      refine ⟨[some (.d (.tup (ws.map natD))), Q, none, none, some (.d (natD w))], by simp [-Option.bind_some], ?_⟩
      have h1 := h w hw
      have hb := r_is_between k (w : Int) 0 999 S
      rw [decide_eq_true (by omega : (0 : Int) ≤ (w : Int)), decide_eq_true (by omega : (w : Int) ≤ 999), Bool.true_and] at hb
      simp only [ev_call, evs_cons, evs_nil, ev_var, ev_cst, ev_glob, getV_zero, getV_succ, bnd, natD, hb]) (by rw [List.length_nil]; omega)
  have e : ws.map (fun _ => D.bl true) = List.replicate ws.length (D.bl true) := by
    rw [List.map_const']
  rw [List.nil_append, e] at ht
  exact ht
end K54
end

section
set_option autoImplicit false
set_option linter.all false
set_option maxRecDepth 20000
namespace K54
open PySem DL
def shV (ws : List Nat) (q : Nat) (n : Int) : D := shareG ws q n.toNat
theorem g_pairs (k : Nat) (ws : List Nat) (q : Nat) (S : Store) (z3 : Option E) (hn : ws.length ≤ 31) (hq : q < 80000) (l : List Int) (hl : ∀ n ∈ l, ∃ w ∈ ws, n = ((w : Nat) : Int)) (hl2 : l.length < 1000) :
    turns (ev (callD tab (k + 3)) 38) (.tup [.var 4, .call 10 [.var 2, .var 4, .var 1]]) (.nm 4) [] [4] [some (.d (.tup (ws.map natD))), some (.d (.int ((q + 1 : Nat) : Int))), some (.d (.lst ((countR ws (startR ws.length q)).map rowD))), z3, none] (l.map D.int) [] S = some (l.map (fun n => .tup [.int n, shV ws (q + 1) n]), S) :=
  turns_mapI D.int (fun n => .tup [.int n, shV ws (q + 1) n]) l [] (fun n hnl => by
    obtain ⟨w, hw, rfl⟩ := hl n hnl
    have hs := r_share_ws k ws q w S hn hq hw
    refine ⟨[some (.d (.tup (ws.map natD))), some (.d (.int ((q + 1 : Nat) : Int))), some (.d (.lst ((countR ws (startR ws.length q)).map rowD))), z3, some (.d (.int (w : Int)))], by simp [-Option.bind_some], ?_⟩
    simp only [ev_tup, ev_call, evs_cons, evs_nil, ev_var, getV_zero, getV_succ, bnd, hs, asDs_cons, asDs_nil, Option.map_some, List.length_cons, List.length_nil]
    rw [if_pos (by decide)]
    rfl) (by rw [List.length_nil]; omega)
theorem g_look (C : Call) (ws : List Nat) (q : Nat) (A B : Option E) (l : List Int) (S : Store) (hl : ∀ w ∈ ws, (w : Int) ∈ l) (hn : ws.length < 1000) :
    turns (ev C 38) (.idxD (.var 3) (.var 4)) (.nm 4) [] [4] [some (.d (.tup (ws.map natD))), A, B, some (.d (.dct (mergeD [] (l.map fun n => (.inl n, shV ws q n))))), none] (ws.map natD) [] S = some (ws.map (fun w => shareG ws q w), S) :=
  turns_mapI natD (fun w => shareG ws q w) ws [] (fun w hw => by
    refine ⟨[some (.d (.tup (ws.map natD))), A, B, some (.d (.dct (mergeD [] (l.map fun n => (.inl n, shV ws q n))))), some (.d (natD w))], by simp [-Option.bind_some], ?_⟩
    have hk := known (shV ws q) l (w : Int) (hl w hw)
    have hkey : keyOf (natD w) = some (.inl (w : Int)) := rfl
    simp only [ev_idxD, ev_var, getV_zero, getV_succ, bnd, asD_d, hkey, onDct_dct, hk]
    rfl) (by rw [List.length_nil]; omega)
end K54
end

section
set_option autoImplicit false
set_option linter.all false
set_option maxRecDepth 20000
namespace K54
open PySem DL
theorem intsOf_nat (ws : List Nat) : intsOf (ws.map natD) = some (ws.map fun w => ((w : Nat) : Int)) := by
  have := intsOf_map (ws.map fun w => ((w : Nat) : Int))
  rw [List.map_map] at this
  exact this
theorem o1_sumT_nat (ws : List Nat) : o1 .sumT (.tup (ws.map natD)) = some (.int ((ws.sum : Nat) : Int)) := by
  have := o1_sumT (ws.map fun w => ((w : Nat) : Int))
  rw [List.map_map, sum_cast ws (fun w => w), List.map_id'] at this
  exact this
theorem r_great (k : Nat) (ws : List Nat) (q : Nat) (S : Store) (h0 : 0 < ws.length) (hn : ws.length ≤ 31) (hw : ∀ w ∈ ws, w ≤ 999) (hs : ws.sum ≤ 4000) (hq : q + 1 ≤ 4000) (hlen : (sortSet (ws.map fun w => ((w : Nat) : Int))).length < 1000) :
    callD tab (k + 4) 11 [.d (.tup (ws.map natD)), .d (.int ((q + 1 : Nat) : Int))] S = some (.d (.tup (ws.map fun w => shareG ws (q + 1) w)), S) := by
  rw [callD_run (fn := f11) rfl rfl]
  have ga := g_allT (k + 1) ws (some (.d (.int ((q + 1 : Nat) : Int)))) S (by omega) hw
  have gb := r_is_between (k + 1) ((q + 1 : Nat) : Int) 1 4000 S
  rw [decide_eq_true (by omega : (1 : Int) ≤ ((q + 1 : Nat) : Int)), decide_eq_true (by omega : ((q + 1 : Nat) : Int) ≤ 4000), Bool.true_and] at gb
  have gc := r_counted (k + 1) ws q S (by omega) (by omega)
  have gp := g_pairs k ws q S none hn (by omega) (sortSet (ws.map fun w => ((w : Nat) : Int))) (fun n hnl => by
    rw [mem_sortSet, List.mem_map] at hnl
    obtain ⟨w, h1, h2⟩ := hnl
    exact ⟨w, h1, h2.symm⟩) hlen
  have gl := g_look (callD tab (k + 3)) ws (q + 1) (some (.d (.int ((q + 1 : Nat) : Int)))) (some (.d (.lst ((countR ws (startR ws.length q)).map rowD)))) (sortSet (ws.map fun w => ((w : Nat) : Int))) S (fun w h => by
    rw [mem_sortSet]
    exact List.mem_map_of_mem h) (by omega)
  have c1 : decide ((0 : Int) < (ws.length : Int)) = true := decide_eq_true (by omega)
  have c2 : decide ((ws.length : Int) ≤ 40) = true := decide_eq_true (by omega)
  have c3 : decide ((4000 : Int) < ((ws.sum : Nat) : Int)) = false := decide_eq_false (by omega)
  have c4 : decide (ws.length < 63) = true := decide_eq_true (by omega)
  have hisa : DL.isa .tuple (.tup (ws.map natD)) = true := rfl
  unfold f11
  simp only [exs_cons, exs_nil, ex_asgN, ex_ife, ev_isa, ev_or, ev_not, ev_chain, hisa, c1, c2, c3, c4, ga, all_bl, gb, gc, gp, gl, o1_sumT_nat, intsOf_nat, pairs_map, ev_sortSetT, ev_dictL, asL_lst, asT_tup, ev_glob, onBl_bl, o2_lt, o2_le, o2_gt, isTrueD_bl, Bool.not_true, Bool.not_false, Bool.false_eq_true, if_false, ev_lc, evs_cons, evs_nil, ev_o2, ev_o1, ev_call, ev_var, ev_cst, getV_zero, getV_succ, bnd, deref_d, asD_d, asI_int, o1_lenT, List.length_map, walked_lst, walked_tup, o1_tupleL, List.map_cons, List.map_nil, List.cons_append, List.nil_append, List.length_cons, List.length_nil, Nat.reduceAdd, Nat.reduceSub, Nat.reduceLT, if_true, List.replicate_succ, List.replicate_zero, List.set_cons_succ, List.set_cons_zero, thenO_nx, ex_ret, thenO_ret, finish_d, List.take_length]
end K54
end

section
set_option autoImplicit false
set_option linter.all false
set_option maxRecDepth 20000
namespace K54
open PySem DL
theorem ins_len (n : Int) : ∀ l : List Int, (insS n l).length ≤ l.length + 1
  | [] => by simp [-Option.bind_some, insS]
  | m :: r => by
    unfold insS
    have := ins_len n r
    split
    · simp [-Option.bind_some]
    · split
      · simp [-Option.bind_some]
      · simp only [List.length_cons]
        omega
theorem sortSet_len : ∀ l : List Int, (sortSet l).length ≤ l.length
  | [] => by simp [-Option.bind_some, sortSet]
  | n :: r => by
    unfold sortSet
    have := sortSet_len r
    have := ins_len n (sortSet r)
    rw [List.length_cons]
    omega
theorem r_great' (k : Nat) (ws : List Nat) (q : Nat) (S : Store) (h0 : 0 < ws.length) (hn : ws.length ≤ 31) (hw : ∀ w ∈ ws, w ≤ 999) (hs : ws.sum ≤ 4000) (hq : q + 1 ≤ 4000) :
    callD tab (k + 4) 11 [.d (.tup (ws.map natD)), .d (.int ((q + 1 : Nat) : Int))] S = some (.d (.tup (ws.map fun w => shareG ws (q + 1) w)), S) :=
  r_great k ws q S h0 hn hw hs hq (Nat.lt_of_le_of_lt (sortSet_len _) (by rw [List.length_map]; omega))
end K54
end

section
set_option autoImplicit false
set_option linter.all false
set_option maxRecDepth 20000
namespace K54
open PySem DL
theorem r_is_fraction (k : Nat) (a b : Nat) (S : Store) (hb0 : 0 < b) (hb : b ≤ 1000) (hg : Nat.gcd a b = 1) :
    callD tab (k + 2) 4 [.d (.tup [.int (a : Int), .int (b : Int)])] S = some (.d (.bl true), S) := by
  rw [callD_run (fn := f4) rfl rfl]
  have h2 := r_common k a b S (by have : (1000 : Nat) < 2 ^ 190 := by decide
                                  omega)
  have h0 : ∀ x : Int, callD tab (k + 1) 0 [.d (.int x)] S = some (.d (.bl true), S) := fun x => r_is_integer k (.int x) S
  rw [hg] at h2
  have hp : decide ((0 : Int) < (b : Int)) = true := decide_eq_true (by omega)
  have ha : atD [D.int (a : Int), D.int (b : Int)] 0 = some (.int (a : Int)) := rfl
  have hc : atD [D.int (a : Int), D.int (b : Int)] 1 = some (.int (b : Int)) := rfl
  simp [-Option.bind_some, f4, h2, h0, hp, ha, hc, isa, hb0]
end K54
end

section
set_option autoImplicit false
set_option linter.all false
set_option maxRecDepth 20000
namespace K54
open PySem DL
theorem j_allT (k : Nat) (ws : List Nat) (Q R : Option E) (S : Store) (hl : ws.length < 1000) (h : ∀ w ∈ ws, w ≤ 100) :
    turns (ev (callD tab (k + 2)) 36) (.call 1 [.var 5, .cst (.int 0), .glob "MOST_WEIGHT" (.int 100)]) (.nm 5) [] [5] [some (.d (.tup (ws.map natD))), Q, R, none, none, none] (ws.map natD) [] S = some (List.replicate ws.length (D.bl true), S) := by
  have ht := turns_mapI (g := ev (callD tab (k + 2)) 36) (elt := .call 1 [.var 5, .cst (.int 0), .glob "MOST_WEIGHT" (.int 100)]) (tg := .nm 5) (own := [5]) (ρ := [some (.d (.tup (ws.map natD))), Q, R, none, none, none]) (S := S) natD (fun _ => .bl true) ws []
    (fun w hw => by
      refine ⟨[some (.d (.tup (ws.map natD))), Q, R, none, none, some (.d (natD w))], by simp [-Option.bind_some], ?_⟩
      have h1 := h w hw
      have hb := r_is_between k (w : Int) 0 100 S
      rw [decide_eq_true (by omega : (0 : Int) ≤ (w : Int)), decide_eq_true (by omega : (w : Int) ≤ 100), Bool.true_and] at hb
      simp only [ev_call, evs_cons, evs_nil, ev_var, ev_cst, ev_glob, getV_zero, getV_succ, bnd, natD, hb]) (by rw [List.length_nil]; omega)
  have e : ws.map (fun _ => D.bl true) = List.replicate ws.length (D.bl true) := by
    rw [List.map_const']
  rw [List.nil_append, e] at ht
  exact ht
/-- the quota of a total -/
def quo (t a b : Nat) : Nat := t * a / b
theorem quo_lt {t a b : Nat} (h0 : 0 < t) (hab : a < b) : quo t a b < t := by
  unfold quo
  refine Nat.div_lt_of_lt_mul ?_
  rw [Nat.mul_comm b t]
  exact Nat.mul_lt_mul_of_pos_left hab h0
theorem r_quo (k : Nat) (t a b : Nat) (S : Store) (ht : t < 100000) (hab : a < b) (hb : b ≤ 10) :
    callD tab (k + 1) 13 [.d (.int (t : Int)), .d (.tup [.int (a : Int), .int (b : Int)])] S = some (.d (.int ((quo t a b + 1 : Nat) : Int)), S) := by
  rw [r_quota_by k (t : Int) (a : Int) (b : Int) S (mulOk_of (n := 20) (m := 10) (by unfold B; omega) (by unfold B; omega) (by omega)) (divOk_of (n := 10) (by omega) (by unfold B; omega) (by omega))]
  rfl
end K54
end

section
set_option autoImplicit false
set_option linter.all false
set_option maxRecDepth 20000
namespace K54
open PySem DL
/-- what joins tells of the weights at a part -/
def greatOf (ws : List Nat) (a b : Nat) : List D := ws.map fun w => shareG ws (quo ws.sum a b + 1) w
theorem sum_snoc (ws : List Nat) (w : Nat) : (ws ++ [w]).sum = ws.sum + w := by simp [-Option.bind_some]
theorem r_joins (k : Nat) (ws : List Nat) (w a b : Nat) (S : Store) (h0 : 0 < ws.length) (hn : ws.length ≤ 20) (hw : ∀ w ∈ ws, w ≤ 100) (hs0 : 0 < ws.sum) (hs : ws.sum ≤ 2000) (hw1 : w ≤ 100) (hab : a < b) (hb : b ≤ 10) (hg : Nat.gcd a b = 1) :
    callD tab (k + 5) 12 [.d (.tup (ws.map natD)), .d (.int (w : Int)), .d (.tup [.int (a : Int), .int (b : Int)])] S = some (.d (.tup (zipD (greatOf ws a b) (greatOf (ws ++ [w]) a b))), S) := by
  rw [callD_run (fn := f12) rfl rfl]
  have ga := j_allT (k + 2) ws (some (.d (.int (w : Int)))) (some (.d (.tup [.int (a : Int), .int (b : Int)]))) S (by omega) hw
  have gb := r_is_between (k + 2) (w : Int) 0 100 S
  rw [decide_eq_true (by omega : (0 : Int) ≤ (w : Int)), decide_eq_true (by omega : (w : Int) ≤ 100), Bool.true_and] at gb
  have gf := r_is_fraction (k + 2) a b S (by omega) (by omega) hg
  have q1 := quo_lt hs0 hab
  have q2 := quo_lt (t := (ws ++ [w]).sum) (by rw [sum_snoc]; omega) hab
  rw [sum_snoc] at q2
  have gq1 := r_quo (k + 3) ws.sum a b S (by omega) hab hb
  have gq2 := r_quo (k + 3) (ws.sum + w) a b S (by omega) hab hb
  have gr1 := r_great' k ws (quo ws.sum a b) S h0 (by omega) (fun x hx => by have := hw x hx; omega) (by omega) (by omega)
  have gr2 := r_great' k (ws ++ [w]) (quo (ws.sum + w) a b) S (by simp [-Option.bind_some]) (by rw [List.length_append, List.length_singleton]; omega) (fun x hx => by
    rw [List.mem_append, List.mem_singleton] at hx
    rcases hx with hx | hx
    · have := hw x hx
      omega
    · omega) (by rw [sum_snoc]; omega) (by omega)
  rw [List.map_append, List.map_singleton] at gr2
  have c1 : decide ((0 : Int) < (ws.length : Int)) = true := decide_eq_true (by omega)
  have c2 : decide ((ws.length : Int) ≤ 20) = true := decide_eq_true (by omega)
  have c3 : decide (((ws.sum : Nat) : Int) = 0) = false := decide_eq_false (by omega)
  have c4 : decide ((0 : Int) ≤ (a : Int)) = true := decide_eq_true (by omega)
  have c5 : decide ((a : Int) < (b : Int)) = true := decide_eq_true (by omega)
  have ha : atD [D.int (a : Int), D.int (b : Int)] 0 = some (.int (a : Int)) := rfl
  have hc : atD [D.int (a : Int), D.int (b : Int)] 1 = some (.int (b : Int)) := rfl
  have hisa : DL.isa .tuple (.tup (ws.map natD)) = true := rfl
  have hadd : ((ws.sum : Nat) : Int) + (w : Int) = ((ws.sum + w : Nat) : Int) := by omega
  have hcat : o2 .catT (.tup (ws.map natD)) (.tup [.int (w : Int)]) = some (.tup (ws.map natD ++ [natD w])) := by
    show (if fits ((ws.map natD).length + 1) = true then _ else _) = _
    rw [if_pos (by unfold fits; exact decide_eq_true (by rw [List.length_map]; omega))]
    rfl
  have hz : decide (ws.length ≤ (ws ++ [w]).length) = true := decide_eq_true (by simp [-Option.bind_some])
  unfold greatOf
  rw [sum_snoc]
  unfold f12
  simp only [exs_cons, exs_nil, ex_asgN, ex_ife, ev_isa, ev_or, ev_not, ev_chain, hisa, c1, c2, c3, c4, c5, ga, all_bl, gb, gf, gq1, gq2, gr1, gr2, ha, hc, hadd, hcat, hz, eqD_int, ev_idxT, onT_tup, ev_tup, ev_tupZip, asDs_cons, asDs_nil, Option.map_some, fits, o1_sumT_nat, asT_tup, ev_glob, onBl_bl, o2_lt, o2_le, o2_gt, o2_add, isTrueD_bl, Bool.not_true, Bool.not_false, Bool.false_eq_true, if_false, ev_lc, evs_cons, evs_nil, ev_o2, ev_o1, ev_call, ev_var, ev_cst, getV_zero, getV_succ, bnd, deref_d, asD_d, asI_int, o1_lenT, List.length_map, walked_lst, walked_tup, o1_tupleL, List.map_cons, List.map_nil, List.cons_append, List.nil_append, List.length_cons, List.length_nil, Nat.reduceAdd, Nat.reduceSub, Nat.reduceLT, Nat.reduceLeDiff, decide_true, if_true, List.replicate_succ, List.replicate_zero, List.set_cons_succ, List.set_cons_zero, thenO_nx, ex_ret, thenO_ret, finish_d, List.take_length]
end K54
end

section
set_option autoImplicit false
set_option linter.all false
namespace K54
/-! sums -/
def sm : Nat → (Nat → Nat) → Nat
  | 0, _ => 0
  | n + 1, f => sm n f + f n
theorem sm_list (n : Nat) (f : Nat → Nat) : ((List.range n).map f).sum = sm n f := by
  induction n with
  | zero => rfl
  | succ n ih => rw [List.range_succ, List.map_append, List.sum_append, ih]; simp [sm]
theorem sm_congr {n : Nat} {f g : Nat → Nat} (h : ∀ i, i < n → f i = g i) : sm n f = sm n g := by
  induction n with
  | zero => rfl
  | succ n ih => rw [sm, sm, ih fun i hi => h i (by omega), h n (by omega)]
theorem sm_add (n : Nat) (f g : Nat → Nat) : sm n (fun i => f i + g i) = sm n f + sm n g := by
  induction n with
  | zero => rfl
  | succ n ih => rw [sm, sm, sm, ih]; omega
theorem sm_mul (n c : Nat) (f : Nat → Nat) : sm n (fun i => c * f i) = c * sm n f := by
  induction n with
  | zero => rfl
  | succ n ih => rw [sm, sm, ih, Nat.mul_add]
theorem sm_first (n : Nat) (f : Nat → Nat) : sm (n + 1) f = f 0 + sm n (fun i => f (i + 1)) := by
  induction n with
  | zero => simp [sm]
  | succ n ih => rw [sm, ih, sm]; omega
theorem sm_two (n : Nat) (f : Nat → Nat) : sm (2 * n) f = sm n (fun b => f (2 * b) + f (2 * b + 1)) := by
  induction n with
  | zero => rfl
  | succ n ih => rw [show 2 * (n + 1) = 2 * n + 1 + 1 by omega, sm, sm, ih, sm]; omega
theorem sm_zero {n : Nat} {f : Nat → Nat} (h : ∀ i, i < n → f i = 0) : sm n f = 0 := by
  induction n with
  | zero => rfl
  | succ n ih => rw [sm, ih fun i hi => h i (by omega), h n (by omega)]
theorem sm_split (n m : Nat) (f : Nat → Nat) : sm (n + m) f = sm n f + sm m (fun i => f (n + i)) := by
  induction m with
  | zero => rfl
  | succ m ih => rw [← Nat.add_assoc, sm, ih, sm]; omega
theorem sm_le {n M : Nat} {f : Nat → Nat} (h : ∀ i, i < n → f i ≤ M) : sm n f ≤ n * M := by
  induction n with
  | zero => simp [sm]
  | succ n ih =>
    have := ih fun i hi => h i (by omega)
    have := h n (by omega)
    rw [sm, Nat.succ_mul]
    omega
theorem le_sm {n : Nat} {f : Nat → Nat} {i : Nat} (h : i < n) : f i ≤ sm n f := by
  induction n with
  | zero => omega
  | succ n ih =>
    rw [sm]
    by_cases e : i = n
    · subst e; omega
    · have := ih (by omega); omega
/-- moved by w -/
theorem sm_move (M w : Nat) (F φ : Nat → Nat) (h : ∀ t, M ≤ t → φ t = 0) : sm M (fun t => (if w ≤ t then F (t - w) else 0) * φ t) = sm M (fun t => F t * φ (t + w)) := by
  by_cases hw : w ≤ M
  · obtain ⟨d, rfl⟩ : ∃ d, M = w + d := ⟨M - w, by omega⟩
    rw [sm_split w d, sm_zero (n := w) (fun i hi => by rw [if_neg (by omega), Nat.zero_mul]), Nat.add_comm w d, sm_split d w, sm_zero (n := w) (f := fun i => F (d + i) * φ (d + i + w)) (fun i hi => by rw [h (d + i + w) (by omega), Nat.mul_zero])]
    rw [Nat.zero_add, Nat.add_zero]
    refine sm_congr fun i hi => ?_
    rw [if_pos (by omega), show w + i - w = i by omega, Nat.add_comm w i]
  · rw [sm_zero (fun i hi => by rw [if_neg (by omega), Nat.zero_mul]), sm_zero (fun i hi => by rw [h (i + w) (by omega), Nat.mul_zero])]
/-! lots as numbers -/
def held : List Nat → Nat → Nat
  | [], _ => 0
  | w :: r, b => (if b % 2 = 1 then w else 0) + held r (b / 2)
def sz : Nat → Nat → Nat
  | 0, _ => 0
  | n + 1, b => b % 2 + sz n (b / 2)
theorem sz_zero : ∀ n, sz n 0 = 0
  | 0 => rfl
  | n + 1 => by rw [sz, Nat.zero_div, sz_zero n]
theorem sz_more (m : Nat) : ∀ (n b : Nat), b < 2 ^ n → sz (n + m) b = sz n b
  | 0, b, h => by
    have : b = 0 := by simpa using h
    rw [this, sz_zero, sz_zero]
  | n + 1, b, h => by
    rw [Nat.add_right_comm, sz, sz, sz_more m n (b / 2) (by rw [Nat.pow_succ] at h; omega)]
theorem sz_le : ∀ (n b : Nat), sz n b ≤ n
  | 0, _ => Nat.le_refl _
  | n + 1, b => by
    rw [sz]
    have := sz_le n (b / 2)
    omega
/-- all lots -/
def lots (ws : List Nat) (φ : Nat → Nat → Nat) : Nat := sm (2 ^ ws.length) fun b => φ (sz ws.length b) (held ws b)
theorem lots_cons (w : Nat) (r : List Nat) (φ : Nat → Nat → Nat) : lots (w :: r) φ = lots r (fun s t => φ s t + φ (s + 1) (t + w)) := by
  unfold lots
  rw [List.length_cons, Nat.pow_succ, Nat.mul_comm, sm_two]
  refine sm_congr fun b _ => ?_
  have e1 : 2 * b % 2 = 0 := by omega
  have e2 : (2 * b + 1) % 2 = 1 := by omega
  have e3 : 2 * b / 2 = b := by omega
  have e4 : (2 * b + 1) / 2 = b := by omega
  rw [sz, sz, held, held, e1, e2, e3, e4, if_neg (by omega), if_pos rfl, Nat.zero_add, Nat.zero_add, Nat.add_comm 1, Nat.add_comm w]
/-- all lots without at -/
def lotsAt (ws : List Nat) (a : Nat) (φ : Nat → Nat → Nat) : Nat := sm (2 ^ ws.length) fun b => if b / 2 ^ a % 2 = 0 then φ (sz ws.length b) (held ws b) else 0
theorem lotsAt_eq : ∀ (ws : List Nat) (a : Nat) (φ : Nat → Nat → Nat), a < ws.length → lotsAt ws a φ = lots (ws.eraseIdx a) φ
  | [], a, φ, h => absurd h (by simp)
  | w :: r, 0, φ, _ => by
    unfold lotsAt lots
    rw [List.length_cons, Nat.pow_succ, Nat.mul_comm, sm_two, List.eraseIdx_cons_zero]
    refine sm_congr fun b _ => ?_
    have e1 : 2 * b % 2 = 0 := by omega
    have e2 : (2 * b + 1) % 2 = 1 := by omega
    have e3 : 2 * b / 2 = b := by omega
    rw [Nat.pow_zero, Nat.div_one, Nat.div_one, if_pos e1, if_neg (by omega), sz, held, e1, e3, if_neg (by omega), Nat.zero_add, Nat.zero_add, Nat.add_zero]
  | w :: r, a + 1, φ, h => by
    rw [List.eraseIdx_cons_succ, lots_cons, ← lotsAt_eq r a _ (by rw [List.length_cons] at h; omega)]
    unfold lotsAt
    rw [List.length_cons, Nat.pow_succ, Nat.mul_comm, sm_two]
    refine sm_congr fun b _ => ?_
    have e1 : 2 * b % 2 = 0 := by omega
    have e2 : (2 * b + 1) % 2 = 1 := by omega
    have e3 : 2 * b / 2 = b := by omega
    have e4 : (2 * b + 1) / 2 = b := by omega
    have e5 : 2 * b / 2 ^ (a + 1) = b / 2 ^ a := by rw [Nat.pow_succ, Nat.mul_comm (2 ^ a), ← Nat.div_div_eq_div_mul, e3]
    have e6 : (2 * b + 1) / 2 ^ (a + 1) = b / 2 ^ a := by rw [Nat.pow_succ, Nat.mul_comm (2 ^ a), ← Nat.div_div_eq_div_mul, e4]
    rw [e5, e6]
    split
    · rw [sz, sz, held, held, e1, e2, e3, e4, if_neg (by omega), if_pos rfl, Nat.zero_add, Nat.zero_add, Nat.add_comm 1, Nat.add_comm w]
    · rfl
/-- all lots by size and sum -/
theorem lots_Fr : ∀ (ws : List Nat) (N M : Nat) (φ : Nat → Nat → Nat), ws.length < N → (∀ s t, M ≤ t → φ s t = 0) → lots ws φ = sm N fun s => sm M fun t => Fr ws s t * φ s t
  | [], N, M, φ, hN, hM => by
    obtain ⟨N, rfl⟩ : ∃ n, N = n + 1 := ⟨N - 1, by rw [List.length_nil] at hN; omega⟩
    have e0 : ∀ s t, Fr [] s t = if s = 0 ∧ t = 0 then 1 else 0 := fun _ _ => rfl
    rw [sm_first, sm_zero (n := N) (fun i _ => sm_zero fun t _ => by rw [e0, if_neg (by omega), Nat.zero_mul])]
    unfold lots
    rcases M with _ | M
    · have := hM 0 0 (Nat.le_refl _)
      simp [sm, sz, held, this]
    · rw [sm_first, sm_zero (n := M) (fun t _ => by rw [e0, if_neg (by omega), Nat.zero_mul])]
      simp [sm, sz, held, e0]
  | w :: r, N, M, φ, hN, hM => by
    obtain ⟨N, rfl⟩ : ∃ n, N = n + 1 := ⟨N - 1, by rw [List.length_cons] at hN; omega⟩
    rw [List.length_cons] at hN
    have h1 := lots_Fr r (N + 1) M φ (by omega) hM
    have h2 := lots_Fr r N M (fun s t => φ (s + 1) (t + w)) (by omega) (fun s t ht => hM _ _ (by omega))
    have e : lots r (fun s t => φ s t + φ (s + 1) (t + w)) = lots r φ + lots r (fun s t => φ (s + 1) (t + w)) := sm_add _ _ _
    rw [lots_cons, e, h1, h2]
    have e2 : ∀ s t, Fr (w :: r) s t * φ s t = Fr r s t * φ s t + (if 1 ≤ s ∧ w ≤ t then Fr r (s - 1) (t - w) else 0) * φ s t := by
      intro s t
      show (Fr r s t + _) * _ = _
      rw [Nat.add_mul]
    have e3 : (sm (N + 1) fun s => sm M fun t => Fr (w :: r) s t * φ s t) = (sm (N + 1) fun s => sm M fun t => Fr r s t * φ s t) + sm (N + 1) fun s => sm M fun t => (if 1 ≤ s ∧ w ≤ t then Fr r (s - 1) (t - w) else 0) * φ s t := by
      rw [← sm_add]
      refine sm_congr fun s _ => ?_
      rw [← sm_add]
      exact sm_congr fun t _ => e2 s t
    rw [e3, sm_first N (fun s => sm M fun t => (if 1 ≤ s ∧ w ≤ t then Fr r (s - 1) (t - w) else 0) * φ s t)]
    rw [sm_zero (n := M) (fun t _ => by rw [if_neg (by omega), Nat.zero_mul]), Nat.zero_add]
    congr 1
    refine sm_congr fun s _ => ?_
    rw [← sm_move M w (fun t => Fr r s t) (fun t => φ (s + 1) t) (fun t ht => hM _ _ ht)]
    refine sm_congr fun t _ => ?_
    by_cases hw : w ≤ t
    · rw [if_pos hw, if_pos ⟨by omega, hw⟩, Nat.add_sub_cancel]
    · rw [if_neg hw, if_neg (by omega)]
theorem band_sm (q lo : Nat) (g : Nat → Nat) : band q lo g = sm q fun t => if lo ≤ t then g t else 0 := by
  unfold band
  by_cases h : lo ≤ q
  · obtain ⟨d, rfl⟩ : ∃ d, q = lo + d := ⟨q - lo, by omega⟩
    rw [List.range_add, List.drop_left' (by simp), List.map_map, sm_split, sm_zero (n := lo) (fun i hi => if_neg (by omega)), Nat.zero_add]
    rw [sm_list]
    refine sm_congr fun i _ => ?_
    rw [if_pos (by omega)]
    rfl
  · rw [List.drop_of_length_le (by rw [List.length_range]; omega), sm_zero fun i hi => if_neg (by omega)]
    rfl
theorem lots_tot (vs : List Nat) (m q w : Nat) (hm : m = vs.length + 1) : lots vs (fun s t => if t < q ∧ q ≤ t + w then fact s * fact (m - 1 - s) else 0) = tot m q (q - w) (Fr vs) := by
  rw [lots_Fr vs m q _ (by omega) (fun s t ht => if_neg (by omega))]
  unfold tot
  rw [sm_list]
  refine sm_congr fun s _ => ?_
  rw [band_sm, ← sm_mul]
  refine sm_congr fun t ht => ?_
  by_cases h : q - w ≤ t
  · rw [if_pos h, if_pos (by omega), Nat.mul_comm]
  · rw [if_neg h, if_neg (by omega), Nat.mul_zero, Nat.mul_zero]
theorem held_set : ∀ (ws : List Nat) (a b : Nat) (h : a < ws.length), b / 2 ^ a % 2 = 0 → held ws (b + 2 ^ a) = held ws b + ws[a]
  | [], a, b, h, _ => absurd h (by simp)
  | w :: r, 0, b, _, h0 => by
    rw [Nat.pow_zero, Nat.div_one] at h0
    rw [held, held, Nat.pow_zero, if_pos (by omega), if_neg (by omega), show (b + 1) / 2 = b / 2 by omega, List.getElem_cons_zero]
    omega
  | w :: r, a + 1, b, h, h0 => by
    have e5 : b / 2 ^ (a + 1) = b / 2 / 2 ^ a := by rw [Nat.pow_succ, Nat.mul_comm (2 ^ a), ← Nat.div_div_eq_div_mul]
    rw [e5] at h0
    have ih := held_set r a (b / 2) (by rw [List.length_cons] at h; omega) h0
    have e6 : (b + 2 ^ (a + 1)) % 2 = b % 2 := by rw [Nat.pow_succ]; omega
    have e7 : (b + 2 ^ (a + 1)) / 2 = b / 2 + 2 ^ a := by rw [Nat.pow_succ]; omega
    rw [held, held, e6, e7, ih, List.getElem_cons_succ]
    omega
theorem lt_set : ∀ (n a b : Nat), a < n → b < 2 ^ n → b / 2 ^ a % 2 = 0 → b + 2 ^ a < 2 ^ n
  | 0, a, b, h, _, _ => absurd h (by omega)
  | n + 1, 0, b, _, hb, h0 => by
    rw [Nat.pow_zero, Nat.div_one] at h0
    rw [Nat.pow_succ] at *
    omega
  | n + 1, a + 1, b, h, hb, h0 => by
    have e5 : b / 2 ^ (a + 1) = b / 2 / 2 ^ a := by rw [Nat.pow_succ, Nat.mul_comm (2 ^ a), ← Nat.div_div_eq_div_mul]
    rw [e5] at h0
    have ih := lt_set n a (b / 2) (by omega) (by rw [Nat.pow_succ] at hb; omega) h0
    rw [Nat.pow_succ] at *
    omega
/-- some weight turns some lot -/
theorem some_swing : ∀ (ws : List Nat) (q : Nat), 1 ≤ q → q ≤ ws.sum → ∃ a b, ∃ h : a < ws.length, b < 2 ^ ws.length ∧ b / 2 ^ a % 2 = 0 ∧ held ws b < q ∧ q ≤ held ws b + ws[a]
  | [], q, h1, h2 => absurd h2 (by simp; omega)
  | w :: r, q, h1, h2 => by
    have hz : ∀ ws : List Nat, held ws 0 = 0 := by
      intro ws
      induction ws with
      | nil => rfl
      | cons w r ih => rw [held, if_neg (by omega), Nat.zero_div, ih]
    by_cases hw : q ≤ w
    · exact ⟨0, 0, by simp, Nat.two_pow_pos _, by simp, by rw [hz]; omega, by rw [hz, List.getElem_cons_zero]; omega⟩
    · rw [List.sum_cons] at h2
      obtain ⟨a, b, h, hb, h0, h3, h4⟩ := some_swing r (q - w) (by omega) (by omega)
      have e2 : (2 * b + 1) % 2 = 1 := by omega
      have e4 : (2 * b + 1) / 2 = b := by omega
      have e6 : (2 * b + 1) / 2 ^ (a + 1) = b / 2 ^ a := by rw [Nat.pow_succ, Nat.mul_comm (2 ^ a), ← Nat.div_div_eq_div_mul, e4]
      refine ⟨a + 1, 2 * b + 1, by rw [List.length_cons]; omega, by rw [List.length_cons, Nat.pow_succ]; omega, by rw [e6]; exact h0, ?_, ?_⟩
      · rw [held, e2, e4, if_pos rfl]; omega
      · rw [held, e2, e4, if_pos rfl, List.getElem_cons_succ]; omega
/-- does the lot win -/
def wonB (ws : List Nat) (q b : Nat) : Bool := decide (q ≤ held ws b)
/-- a weight turns the lot -/
def swB (ws : List Nat) (q a b : Nat) : Bool := decide (b / 2 ^ a % 2 = 0) && (wonB ws q (b + 2 ^ a) && !wonB ws q b)
def rowsOf (ws : List Nat) (b : Nat) : Nat := fact (sz ws.length b) * fact (ws.length - 1 - sz ws.length b)
def cntOf (ws : List Nat) (q a : Nat) : Nat := sm (2 ^ ws.length) fun b => if swB ws q a b = true then rowsOf ws b else 0
theorem cntOf_eq (ws : List Nat) (q a : Nat) (h : a < ws.length) : cntOf ws q a = lots (ws.eraseIdx a) (fun s t => if t < q ∧ q ≤ t + ws[a] then fact s * fact (ws.length - 1 - s) else 0) := by
  rw [← lotsAt_eq ws a _ h]
  refine sm_congr fun b _ => ?_
  unfold swB wonB rowsOf
  by_cases h0 : b / 2 ^ a % 2 = 0
  · rw [held_set ws a b h h0]
    by_cases h1 : held ws b < q ∧ q ≤ held ws b + ws[a]
    · simp [h0, h1, Nat.not_le.mpr h1.1]
    · have : ¬ (q ≤ held ws b + ws[a] ∧ held ws b < q) := fun hc => h1 ⟨hc.2, hc.1⟩
      simp [h0, h1, this]
  · simp [h0]
theorem cnt_sum (ws : List Nat) (q : Nat) (h1 : 1 ≤ q) (h2 : q ≤ ws.sum) (hf : ∀ n, 0 < fact n) : 0 < ((List.range ws.length).map (cntOf ws q)).sum := by
  obtain ⟨a, b, h, hb, h0, h3, h4⟩ := some_swing ws q h1 h2
  rw [sm_list]
  refine Nat.lt_of_lt_of_le ?_ (le_sm (f := cntOf ws q) h)
  unfold cntOf
  refine Nat.lt_of_lt_of_le ?_ (le_sm (f := fun b => if swB ws q a b = true then rowsOf ws b else 0) hb)
  have e : swB ws q a b = true := by
    unfold swB wonB
    rw [held_set ws a b h h0]
    simp [h0, h4, Nat.not_le.mpr h3]
  rw [if_pos e]
  exact Nat.mul_pos (hf _) (hf _)
end K54
end

section
set_option autoImplicit false
set_option linter.all false
set_option maxRecDepth 20000
namespace K54
open PySem DL
theorem cons_without : ∀ (ws : List Nat) (a : Nat) (h : a < ws.length), (ws[a] :: ws.eraseIdx a).Perm ws
  | [], a, h => absurd h (by simp [-Option.bind_some])
  | w :: r, 0, _ => List.Perm.refl _
  | w :: r, a + 1, h => by
    have ih := cons_without r a (by rw [List.length_cons] at h; omega)
    rw [List.getElem_cons_succ, List.eraseIdx_cons_succ]
    exact (List.Perm.swap w _ (r.eraseIdx a)).trans (List.Perm.cons w ih)
theorem cnt_tot (ws : List Nat) (q a : Nat) (h : a < ws.length) : cntOf ws q a = tot ws.length q (q - ws[a]) (Fr (ws.erase ws[a])) := by
  have hp : (ws.eraseIdx a).Perm (ws.erase ws[a]) := by
    have h1 : (ws[a] :: ws.eraseIdx a).Perm ws := cons_without ws a h
    have h2 : ws.Perm (ws[a] :: ws.erase ws[a]) := List.perm_cons_erase (List.getElem_mem h)
    exact (h1.trans h2).cons_inv
  rw [cntOf_eq ws q a h, lots_tot (ws.eraseIdx a) ws.length q ws[a] (by rw [List.length_eraseIdx_of_lt h]; omega), Fr_perm hp]
theorem sz_less : ∀ (n a b : Nat), a < n → b / 2 ^ a % 2 = 0 → sz n b + 1 ≤ n
  | 0, a, b, h, _ => absurd h (by omega)
  | n + 1, 0, b, _, h0 => by
    rw [Nat.pow_zero, Nat.div_one] at h0
    have := sz_le n (b / 2)
    rw [sz]
    omega
  | n + 1, a + 1, b, h, h0 => by
    have e5 : b / 2 ^ (a + 1) = b / 2 / 2 ^ a := by rw [Nat.pow_succ, Nat.mul_comm (2 ^ a), ← Nat.div_div_eq_div_mul]
    rw [e5] at h0
    have := sz_less n a (b / 2) (by omega) h0
    rw [sz]
    omega
theorem sum_filter (N : Nat) (P : Nat → Bool) (f : Nat → Nat) : (((List.range N).filter P).map f).sum = sm N (fun b => if P b = true then f b else 0) := by
  induction N with
  | zero => rfl
  | succ N ih =>
    rw [List.range_succ, List.filter_append, List.map_append, List.sum_append, ih, sm]
    congr 1
    by_cases h : P N = true
    · rw [if_pos h, List.filter_cons_of_pos h]
      simp [-Option.bind_some]
    · rw [if_neg h, List.filter_cons_of_neg h]
      simp [-Option.bind_some]
def bitB (b i : Nat) : Bool := decide (b / 2 ^ i % 2 = 1)
theorem and1 (m : Nat) : Builtin.bitAnd ((m : Nat) : Int) 1 = ((m % 2 : Nat) : Int) := by
  unfold Builtin.bitAnd
  rw [decide_eq_true (by omega : (0 : Int) ≤ (m : Int)), decide_eq_true (by omega : (0 : Int) ≤ 1)]
  have : ((m : Int).toNat &&& (1 : Int).toNat) = m % 2 := by
    rw [Int.toNat_natCast]
    exact Nat.and_one_is_mod m
  dsimp only
  rw [this]
theorem bit1 (b i : Nat) : Builtin.bitAnd ((b : Int) / 2 ^ ((i : Nat) : Int).toNat) 1 = ((b / 2 ^ i % 2 : Nat) : Int) := by
  have e : (b : Int) / 2 ^ ((i : Nat) : Int).toNat = ((b / 2 ^ i : Nat) : Int) := by
    rw [Int.toNat_natCast, Int.natCast_ediv, Int.natCast_pow]
    rfl
  rw [e, and1]
theorem held_filter : ∀ (ws : List Nat) (b j : Nat), (((ws.zipIdx j).filter fun p => bitB b p.2).map fun p => p.1).sum = held ws (b / 2 ^ j)
  | [], b, j => rfl
  | w :: r, b, j => by
    have ih := held_filter r b (j + 1)
    have e5 : b / 2 ^ (j + 1) = b / 2 ^ j / 2 := by rw [Nat.pow_succ, ← Nat.div_div_eq_div_mul]
    rw [e5] at ih
    rw [List.zipIdx_cons, held]
    by_cases h : b / 2 ^ j % 2 = 1
    · rw [List.filter_cons_of_pos (by exact decide_eq_true h), if_pos h, List.map_cons, List.sum_cons, ih]
    · rw [List.filter_cons_of_neg (by unfold bitB; simp [-Option.bind_some, h]), if_neg h, ih, Nat.zero_add]
theorem sz_filter (b : Nat) : ∀ (n j : Nat), ((List.range' j n).filter fun i => bitB b i).length = sz n (b / 2 ^ j)
  | 0, j => rfl
  | n + 1, j => by
    have ih := sz_filter b n (j + 1)
    have e5 : b / 2 ^ (j + 1) = b / 2 ^ j / 2 := by rw [Nat.pow_succ, ← Nat.div_div_eq_div_mul]
    rw [e5] at ih
    rw [List.range'_succ, sz]
    by_cases h : b / 2 ^ j % 2 = 1
    · rw [List.filter_cons_of_pos (by exact decide_eq_true h), List.length_cons, ih]
      omega
    · rw [List.filter_cons_of_neg (by unfold bitB; simp [-Option.bind_some, h]), ih]
      omega
theorem turns_selI {A : Type} {g : Ev} {elt : Tm} {tg : Tg} {ifs : List Tm} {own : List Nat} {ρ : DL.Env} {S : Store} (X Y : A → D) (P : A → Bool) : ∀ (l : List A) (acc : List D),
    (∀ a ∈ l, ∃ ρ1, bindT tg (X a) (wipe ρ own) = some ρ1 ∧ evT g ifs ρ1 S = some (P a, S) ∧ (P a = true → g elt ρ1 S = some (.d (Y a), S))) → acc.length + l.length ≤ 10000000 →
    turns g elt tg ifs own ρ (l.map X) acc S = some (acc ++ (l.filter P).map Y, S)
  | [], acc, _, _ => by rw [List.map_nil, List.filter_nil, List.map_nil, List.append_nil]; rfl
  | a :: l, acc, h, hl => by
    obtain ⟨ρ1, e1, e2, e3⟩ := h a List.mem_cons_self
    rw [List.length_cons] at hl
    cases hp : P a with
    | true =>
      rw [hp] at e2
      rw [List.map_cons, turns_cons, e1, bnd, e2, bnd, if_pos rfl, e3 hp, bnd, asD_d, bnd, if_pos (by omega), turns_selI X Y P l (acc ++ [Y a]) (fun b hb => h b (List.mem_cons_of_mem _ hb)) (by rw [List.length_append, List.length_singleton]; omega), List.filter_cons_of_pos hp, List.map_cons, List.append_assoc]
      rfl
    | false =>
      rw [hp] at e2
      rw [List.map_cons, turns_cons, e1, bnd, e2, bnd, if_neg Bool.false_ne_true, turns_selI X Y P l acc (fun b hb => h b (List.mem_cons_of_mem _ hb)) (by omega), List.filter_cons_of_neg (by rw [hp]; exact Bool.false_ne_true)]
end K54
end

section
set_option autoImplicit false
set_option linter.all false
set_option maxRecDepth 20000
namespace K54
open PySem DL
theorem enumD_nat (ws : List Nat) : ∀ i, enumD i (ws.map natD) = (ws.zipIdx i).map fun p => D.tup [.int (p.2 : Int), natD p.1] := by
  induction ws with
  | nil => exact fun _ => rfl
  | cons c r ih =>
    intro i
    rw [List.map_cons, List.zipIdx_cons, List.map_cons, ← ih (i + 1)]
    rfl
/-- the test of one bit -/
theorem ev_bit (C : Call) (m vb vi b i : Nat) (ρ : DL.Env) (S : Store) (t : Nat) (h1 : getV ρ S vb = some (.d (.int (b : Int)), S)) (h2 : getV ρ S vi = some (.d (.int (i : Int)), S)) :
    ev C (m + 4) (.o2 .eq (.o2 .band (.o2 .shr (.var vb) (.var vi)) (.cst (.int 1))) (.cst (.int (t : Int)))) ρ S = some (.d (.bl (decide (b / 2 ^ i % 2 = t))), S) := by
  have e : decide (((b / 2 ^ i % 2 : Nat) : Int) = (t : Int)) = decide (b / 2 ^ i % 2 = t) := by
    by_cases h : b / 2 ^ i % 2 = t
    · rw [decide_eq_true h, decide_eq_true (by rw [h])]
    · rw [decide_eq_false h, decide_eq_false (by omega)]
  simp only [ev_o2, ev_var, ev_cst, h1, h2, bnd, deref_d, o2_shr (Int.natCast_nonneg i), o2_band, bit1, eqD_int, e]
/-- the weights in a lot -/
def heldL (ws : List Nat) (b : Nat) : List Nat := (ws.zipIdx.filter fun p => bitB b p.2).map fun p => p.1
theorem heldL_sum (ws : List Nat) (b : Nat) : (heldL ws b).sum = held ws b := by
  have := held_filter ws b 0
  rw [Nat.pow_zero, Nat.div_one] at this
  exact this
theorem r_held (k : Nat) (ws : List Nat) (b : Nat) (S : Store) (hl : ws.length < 100) :
    callD tab (k + 1) 18 [.d (.tup (ws.map natD)), .d (.int (b : Int))] S = some (.d (.lst ((heldL ws b).map natD)), S) := by
  rw [callD_run (fn := f18) rfl rfl]
  have ht := turns_selI (g := ev (callD tab k) 39) (elt := .var 3) (tg := .tp [(.nm 2), (.nm 3)]) (ifs := [.o2 .eq (.o2 .band (.o2 .shr (.var 1) (.var 2)) (.cst (.int 1))) (.cst (.int 1))]) (own := [2, 3])
    (ρ := [some (.d (.tup (ws.map natD))), some (.d (.int (b : Int))), none, none]) (S := S) (fun p : Nat × Nat => .tup [.int (p.2 : Int), natD p.1]) (fun p => natD p.1) (fun p => bitB b p.2) ws.zipIdx []
    (fun p _ => by
      refine ⟨[some (.d (.tup (ws.map natD))), some (.d (.int (b : Int))), some (.d (.int (p.2 : Int))), some (.d (natD p.1))], by simp [-Option.bind_some], ?_, fun _ => by simp [-Option.bind_some]⟩
      have he := ev_bit (callD tab k) 35 1 2 b p.2 [some (.d (.tup (ws.map natD))), some (.d (.int (b : Int))), some (.d (.int (p.2 : Int))), some (.d (natD p.1))] S 1 (by simp [-Option.bind_some]) (by simp [-Option.bind_some])
      rw [evT_cons]
      refine Eq.trans (congrArg (fun w => Option.bind w _) he) ?_
      rw [bnd, isTrueD_bl, bnd, evT_nil]
      unfold bitB
      by_cases h : b / 2 ^ p.2 % 2 = 1
      · rw [decide_eq_true h, if_pos rfl]
      · rw [decide_eq_false h, if_neg Bool.false_ne_true]) (by rw [List.length_nil, List.length_zipIdx]; omega)
  have e : (heldL ws b).map natD = (ws.zipIdx.filter fun p => bitB b p.2).map fun p => natD p.1 := by
    unfold heldL
    rw [List.map_map]
    rfl
  rw [List.nil_append, ← e, ← enumD_nat ws 0] at ht
  unfold f18
  simp only [exs_cons, ex_ret, ev_lc, evs_cons, evs_nil, ev_var, getV_zero, bnd, walked_eT, ht, List.map_cons, List.map_nil, List.cons_append, List.nil_append, List.length_cons, List.length_nil, Nat.reduceAdd, Nat.reduceSub, List.replicate_succ, List.replicate_zero, thenO_ret, finish_d, List.take_length]
theorem r_size (k : Nat) (b : Nat) (S : Store) :
    callD tab (k + 1) 19 [.d (.int (b : Int))] S = some (.d (.int ((sz 12 b : Nat) : Int)), S) := by
  rw [callD_run (fn := f19) rfl rfl]
  have hw : walked S .rng1 [.d (.int 12)] = some ((List.range' 0 12).map fun (i : Nat) => .int (i : Int)) := by
    rw [walked_r1, small62_int (by omega), if_pos rfl, ← List.range_eq_range']
    rfl
  have ht := turns_selI (g := ev (callD tab k) 38) (elt := .var 1) (tg := .nm 1) (ifs := [.o2 .eq (.o2 .band (.o2 .shr (.var 0) (.var 1)) (.cst (.int 1))) (.cst (.int 1))]) (own := [1])
    (ρ := [some (.d (.int (b : Int))), none]) (S := S) (fun i : Nat => .int (i : Int)) (fun i : Nat => .int (i : Int)) (fun i => bitB b i) (List.range' 0 12) []
    (fun i _ => by
      refine ⟨[some (.d (.int (b : Int))), some (.d (.int (i : Int)))], by simp [-Option.bind_some], ?_, fun _ => by simp [-Option.bind_some]⟩
      have he := ev_bit (callD tab k) 34 0 1 b i [some (.d (.int (b : Int))), some (.d (.int (i : Int)))] S 1 (by simp [-Option.bind_some]) (by simp [-Option.bind_some])
      rw [evT_cons]
      refine Eq.trans (congrArg (fun w => Option.bind w _) he) ?_
      rw [bnd, isTrueD_bl, bnd, evT_nil]
      unfold bitB
      by_cases h : b / 2 ^ i % 2 = 1
      · rw [decide_eq_true h, if_pos rfl]
      · rw [decide_eq_false h, if_neg Bool.false_ne_true]) (by rw [List.length_nil, List.length_range']; omega)
  have e : (((List.range' 0 12).filter fun i => bitB b i).map fun (i : Nat) => D.int (i : Int)).length = sz 12 b := by
    rw [List.length_map, sz_filter, Nat.pow_zero, Nat.div_one]
  rw [List.nil_append] at ht
  unfold f19
  simp only [exs_cons, ex_ret, ev_o1, ev_lc, evs_cons, evs_nil, ev_var, ev_cst, getV_zero, bnd, hw, ht, deref_d, o1_lenL, e, List.map_cons, List.map_nil, List.cons_append, List.nil_append, List.length_cons, List.length_nil, Nat.reduceAdd, Nat.reduceSub, List.replicate_succ, List.replicate_zero, thenO_ret, finish_d, List.take_length]
theorem walk_N (S : Store) (N : Nat) (h : N < 100000) : walked S .rng1 [.d (.int (N : Int))] = some ((List.range N).map natD) := by
  rw [walked_r1, small62_int (by omega), if_pos rfl]
  rfl
/-- all lots won -/
def wonL (ws : List Nat) (q : Nat) : List D := (List.range (2 ^ ws.length)).map fun b => .bl (wonB ws q b)
theorem wonL_len (ws : List Nat) (q : Nat) : (wonL ws q).length = 2 ^ ws.length := by simp [-Option.bind_some, wonL]
theorem wonL_at (ws : List Nat) (q b : Nat) (h : b < 2 ^ ws.length) : atD (wonL ws q) (b : Int) = some (.bl (wonB ws q b)) := by
  rw [atD_nat (i := b) (by rw [wonL_len]; exact h)]
  simp [-Option.bind_some, wonL]
theorem r_swings (k : Nat) (ws : List Nat) (q a : Nat) (S : Store) (hl : ws.length ≤ 12) (ha : a < ws.length) :
    callD tab (k + 1) 23 [.d (.lst (wonL ws q)), .d (.int (a : Int)), .d (.int (ws.length : Int))] S = some (.d (.lst (((List.range (2 ^ ws.length)).filter (swB ws q a)).map natD)), S) := by
  rw [callD_run (fn := f23) rfl rfl]
  have h2 : 2 ^ ws.length ≤ 4096 := Nat.pow_le_pow_right (n := 2) (by decide) hl
  have hw := walk_N S (2 ^ ws.length) (by omega)
  have hL : ((wonL ws q).length : Int) = ((2 ^ ws.length : Nat) : Int) := by rw [wonL_len]
  have hs : o2 .shl (.int 1) (.int (a : Int)) = some (.int ((2 ^ a : Nat) : Int)) := by
    have : shlOk 1 (a : Int) = true := by
      unfold shlOk
      rw [decide_eq_true (by omega : (0 : Int) ≤ (a : Int)), decide_eq_true (by omega : (a : Int) ≤ 1000000)]
      decide
    show (if shlOk 1 (a : Int) = true then _ else _) = _
    rw [if_pos this, Int.toNat_natCast, Int.one_mul, Int.natCast_pow]
    rfl
  have ht := turns_selI (g := ev (callD tab k) 39) (elt := .var 3) (tg := .nm 3) (ifs := [.and (.o2 .eq (.o2 .band (.o2 .shr (.var 3) (.var 1)) (.cst (.int 1))) (.cst (.int 0))) (.and (.idxL (.var 0) (.o2 .add (.var 3) (.o2 .shl (.cst (.int 1)) (.var 1)))) (.not (.idxL (.var 0) (.var 3))))]) (own := [3])
    (ρ := [some (.d (.lst (wonL ws q))), some (.d (.int (a : Int))), some (.d (.int (ws.length : Int))), none]) (S := S) natD natD (swB ws q a) (List.range (2 ^ ws.length)) []
    (fun b hb => by
      rw [List.mem_range] at hb
      refine ⟨[some (.d (.lst (wonL ws q))), some (.d (.int (a : Int))), some (.d (.int (ws.length : Int))), some (.d (natD b))], by simp [-Option.bind_some], ?_, fun _ => by simp [-Option.bind_some]⟩
      have he := ev_bit (callD tab k) 34 3 1 b a [some (.d (.lst (wonL ws q))), some (.d (.int (a : Int))), some (.d (.int (ws.length : Int))), some (.d (natD b))] S 0 (by simp [-Option.bind_some, natD]) (by simp [-Option.bind_some])
      rw [evT_cons, ev_and]
      refine Eq.trans (congrArg (fun w => Option.bind (Option.bind w _) _) he) ?_
      rw [bnd, isTrueD_bl, bnd]
      by_cases h : b / 2 ^ a % 2 = 0
      · rw [decide_eq_true h, if_pos rfl]
        have h3 := lt_set ws.length a b ha hb h
        have e1 : (b : Int) + ((2 ^ a : Nat) : Int) = ((b + 2 ^ a : Nat) : Int) := by omega
        have w1 := wonL_at ws q (b + 2 ^ a) h3
        have w2 := wonL_at ws q b hb
        unfold swB
        rw [decide_eq_true h, Bool.true_and]
        cases hx : wonB ws q (b + 2 ^ a) <;> cases hy : wonB ws q b <;> rw [hx] at w1 <;> rw [hy] at w2 <;>
          simp only [ev_and, ev_not, ev_idxL, ev_o2, ev_var, ev_cst, getV_zero, getV_succ, bnd, deref_d, asD_d, asI_int, onSeq_lst, natD, hs, o2_add, e1, w1, w2, isTrueD_bl, Bool.false_eq_true, if_true, if_false, Bool.not_true, Bool.not_false, Bool.and_true, Bool.and_false, Bool.true_and, Bool.false_and, evT_nil]
      · unfold swB
        rw [decide_eq_false h, Bool.false_and, if_neg Bool.false_ne_true, bnd, isTrueD_bl, bnd, if_neg Bool.false_ne_true]) (by rw [List.length_nil, List.length_range]; omega)
  rw [List.nil_append] at ht
  unfold f23
  simp only [exs_cons, ex_ret, ev_o1, ev_lc, evs_cons, evs_nil, ev_var, getV_zero, bnd, deref_d, o1_lenL, hL, hw, ht, List.map_cons, List.map_nil, List.cons_append, List.nil_append, List.length_cons, List.length_nil, Nat.reduceAdd, Nat.reduceSub, List.replicate_succ, List.replicate_zero, thenO_ret, finish_d, List.take_length]
end K54
end

section
set_option autoImplicit false
set_option linter.all false
set_option maxRecDepth 20000
namespace K54
open PySem DL
theorem exs_nx {g : Ex} {s : Stm} {r : List Stm} {ρ ρ1 : DL.Env} {S S1 : Store} (h : g s ρ S = some (.nx ρ1, S1)) : exs g (s :: r) ρ S = exs g r ρ1 S1 := by
  rw [exs_cons, h, bnd, thenO_nx]
theorem exs_rt {g : Ex} {s : Stm} {r : List Stm} {ρ : DL.Env} {x : E} {S S1 : Store} (h : g s ρ S = some (.ret x, S1)) : exs g (s :: r) ρ S = some (.ret x, S1) := by
  rw [exs_cons, h, bnd, thenO_ret]
theorem o1_sum_nat (l : List Nat) (f : Nat → Nat) : o1 .sum (.lst (l.map fun b => natD (f b))) = some (.int (((l.map f).sum : Nat) : Int)) := by
  have := o1_sum (l.map fun b => ((f b : Nat) : Int))
  rw [List.map_map, sum_cast] at this
  exact this
def pvA : Tm := .lc (.call 19 [.var 5]) (.nm 5) .lst [.call 23 [.var 0, .var 3, .var 1]] [] [5]
def pvB : Tm := .o1 .sum (.lc (.o2 .mul (.call 24 [.var 6]) (.call 24 [.o2 .sub (.o2 .sub (.var 1) (.cst (.int 1))) (.var 6)])) (.nm 6) .lst [.var 4] [] [6])
def pvBody : List Stm := [.asg (.nm 4) pvA, .expr (.app (.var 2) pvB)]
theorem pv_a (k : Nat) (ws : List Nat) (q a : Nat) (z2 z4 : Option E) (S : Store) (hl : ws.length ≤ 12) (ha : a < ws.length) :
    ev (callD tab (k + 1)) 40 pvA [some (.d (.lst (wonL ws q))), some (.d (.int (ws.length : Int))), z2, some (.d (.int (a : Int))), z4, none, none] S = some (.d (.lst (((List.range (2 ^ ws.length)).filter (swB ws q a)).map fun b => natD (sz ws.length b))), S) := by
  have h1 := r_swings k ws q a S hl ha
  have h2 : 2 ^ ws.length ≤ 4096 := Nat.pow_le_pow_right (n := 2) (by decide) hl
  have ht := turns_mapI (g := ev (callD tab (k + 1)) 39) (elt := .call 19 [.var 5]) (tg := .nm 5) (own := [5])
    (ρ := [some (.d (.lst (wonL ws q))), some (.d (.int (ws.length : Int))), z2, some (.d (.int (a : Int))), z4, none, none]) (S := S) natD (fun b => natD (sz ws.length b)) ((List.range (2 ^ ws.length)).filter (swB ws q a)) []
    (fun b hb => by
      rw [List.mem_filter, List.mem_range] at hb
      refine ⟨[some (.d (.lst (wonL ws q))), some (.d (.int (ws.length : Int))), z2, some (.d (.int (a : Int))), z4, some (.d (.int (b : Int))), none], by simp [-Option.bind_some, natD], ?_⟩
      have h3 := r_size k b S
      have h4 := sz_more (12 - ws.length) ws.length b hb.1
      rw [show ws.length + (12 - ws.length) = 12 by omega] at h4
      rw [h4] at h3
      simp only [ev_call, evs_cons, evs_nil, ev_var, getV_zero, getV_succ, bnd, h3, natD]) (by
        have := List.length_filter_le (swB ws q a) (List.range (2 ^ ws.length))
        rw [List.length_range] at this
        rw [List.length_nil]
        omega)
  rw [List.nil_append] at ht
  unfold pvA
  simp only [ev_lc, ev_call, evs_cons, evs_nil, ev_var, getV_zero, getV_succ, bnd, h1, walked_lst, ht]
theorem pv_b (k : Nat) (ws : List Nat) (q a : Nat) (z0 z2 z3 : Option E) (S : Store) (hl : ws.length ≤ 12) (ha : a < ws.length) :
    ev (callD tab (k + 1)) 39 pvB [z0, some (.d (.int (ws.length : Int))), z2, z3, some (.d (.lst (((List.range (2 ^ ws.length)).filter (swB ws q a)).map fun b => natD (sz ws.length b)))), none, none] S = some (.d (natD (cntOf ws q a)), S) := by
  have h2 : 2 ^ ws.length ≤ 4096 := Nat.pow_le_pow_right (n := 2) (by decide) hl
  have ht := turns_mapI (g := ev (callD tab (k + 1)) 37) (elt := .o2 .mul (.call 24 [.var 6]) (.call 24 [.o2 .sub (.o2 .sub (.var 1) (.cst (.int 1))) (.var 6)])) (tg := .nm 6) (own := [6])
    (ρ := [z0, some (.d (.int (ws.length : Int))), z2, z3, some (.d (.lst (((List.range (2 ^ ws.length)).filter (swB ws q a)).map fun b => natD (sz ws.length b)))), none, none]) (S := S) (fun b => natD (sz ws.length b)) (fun b => natD (rowsOf ws b)) ((List.range (2 ^ ws.length)).filter (swB ws q a)) []
    (fun b hb => by
      rw [List.mem_filter, List.mem_range] at hb
      refine ⟨[z0, some (.d (.int (ws.length : Int))), z2, z3, some (.d (.lst (((List.range (2 ^ ws.length)).filter (swB ws q a)).map fun b => natD (sz ws.length b)))), none, some (.d (.int ((sz ws.length b : Nat) : Int)))], by simp [-Option.bind_some, natD], ?_⟩
      have h0 : b / 2 ^ a % 2 = 0 := by
        have := hb.2
        unfold swB at this
        rw [Bool.and_eq_true] at this
        exact of_decide_eq_true this.1
      have hs := sz_less ws.length a b ha h0
      have e1 : (ws.length : Int) - 1 - ((sz ws.length b : Nat) : Int) = ((ws.length - 1 - sz ws.length b : Nat) : Int) := by omega
      have p1 := r_lproduct k (sz ws.length b) S (by omega)
      have p2 := r_lproduct k (ws.length - 1 - sz ws.length b) S (by omega)
      have f1 := fact_small (n := sz ws.length b) (by omega)
      have f2 := fact_small (n := ws.length - 1 - sz ws.length b) (by omega)
      have hm := mulOk_of (i := ((fact (sz ws.length b) : Nat) : Int)) (j := ((fact (ws.length - 1 - sz ws.length b) : Nat) : Int)) (n := 190) (m := 190) (by unfold B; omega) (by unfold B; omega) (by omega)
      simp only [ev_call, ev_o2, evs_cons, evs_nil, ev_var, ev_cst, getV_zero, getV_succ, bnd, deref_d, o2_sub, e1, p1, p2, o2_mul hm, natD, rowsOf, Int.natCast_mul]) (by
        have := List.length_filter_le (swB ws q a) (List.range (2 ^ ws.length))
        rw [List.length_range] at this
        rw [List.length_nil]
        omega)
  have hsum := o1_sum_nat ((List.range (2 ^ ws.length)).filter (swB ws q a)) (rowsOf ws)
  rw [sum_filter] at hsum
  rw [List.nil_append] at ht
  unfold pvB
  simp only [ev_o1, ev_lc, evs_cons, evs_nil, ev_var, getV_zero, getV_succ, bnd, walked_lst, ht, deref_d, hsum]
  rfl
theorem pv_step (k : Nat) (ws : List Nat) (q a : Nat) (S : Store) (z4 : Option E) (acc : List D) (hl : ws.length ≤ 12) (ha : a < ws.length) (hacc : acc.length < 1000) :
    ∃ z4', exs (ex (callD tab (k + 1)) 19) pvBody [some (.d (.lst (wonL ws q))), some (.d (.int (ws.length : Int))), some (.r S.length), some (.d (.int (a : Int))), z4, none, none] (S ++ [some acc]) =
      some (.nx [some (.d (.lst (wonL ws q))), some (.d (.int (ws.length : Int))), some (.r S.length), some (.d (.int (a : Int))), z4', none, none], S ++ [some (acc ++ [natD (cntOf ws q a)])]) := by
  have h1 := pv_a k ws q a (some (.r S.length)) z4 (S ++ [some acc]) hl ha
  have h2 := pv_b k ws q a (some (.d (.lst (wonL ws q)))) (some (.r S.length)) (some (.d (.int (a : Int)))) (S ++ [some acc]) hl ha
  have hn : acc.length < 10000000 := by omega
  refine ⟨some (.d (.lst (((List.range (2 ^ ws.length)).filter (swB ws q a)).map fun b => natD (sz ws.length b)))), ?_⟩
  unfold pvBody
  simp only [exs_cons, exs_nil, ex_asgN, ex_expr, ev_app, h1, h2, ev_var, getV_zero, getV_succ, bnd, deref_snoc, asD_d, onR_r, getS_snoc, hn, if_true, List.length_cons, List.length_nil, Nat.reduceAdd, Nat.reduceLT, List.set_cons_succ, List.set_cons_zero, thenO_nx, List.set_append_right, Nat.le_refl, Nat.sub_self]
theorem pv_loop (k : Nat) (ws : List Nat) (q : Nat) (S : Store) (hl : ws.length ≤ 12) : ∀ (m j : Nat) (z3 z4 : Option E) (acc : List D), j + m ≤ ws.length → acc.length + m < 1000 →
    ∃ z3' z4', forL (ex (callD tab (k + 1)) 19) (.nm 3) pvBody ((List.range' j m).map natD) [some (.d (.lst (wonL ws q))), some (.d (.int (ws.length : Int))), some (.r S.length), z3, z4, none, none] (S ++ [some acc]) =
      some (.nx [some (.d (.lst (wonL ws q))), some (.d (.int (ws.length : Int))), some (.r S.length), z3', z4', none, none], S ++ [some (acc ++ (List.range' j m).map fun a => natD (cntOf ws q a))])
  | 0, j, z3, z4, acc, _, _ => ⟨z3, z4, by simp [-Option.bind_some]⟩
  | m + 1, j, z3, z4, acc, hj, ha => by
    obtain ⟨z, st⟩ := pv_step k ws q j S z4 acc hl (by omega) (by omega)
    obtain ⟨z3', z4', ih⟩ := pv_loop k ws q S hl m (j + 1) (some (.d (.int (j : Int)))) z (acc ++ [natD (cntOf ws q j)]) (by omega) (by rw [List.length_append, List.length_singleton]; omega)
    refine ⟨z3', z4', ?_⟩
    rw [List.range'_succ, List.map_cons, forL_cons, bindT_nm, if_pos (by simp [-Option.bind_some]), bnd]
    rw [show ([some (.d (.lst (wonL ws q))), some (.d (.int (ws.length : Int))), some (.r S.length), z3, z4, none, none] : DL.Env).set 3 (some (.d (natD j))) = [some (.d (.lst (wonL ws q))), some (.d (.int (ws.length : Int))), some (.r S.length), some (.d (.int (j : Int))), z4, none, none] from rfl, st, bnd, thenO_nx, ih, List.map_cons, List.append_assoc]
    rfl
def cntsD (ws : List Nat) (q : Nat) : List D := (List.range ws.length).map fun a => natD (cntOf ws q a)
theorem r_pivots (k : Nat) (ws : List Nat) (q : Nat) (S : Store) (hl : ws.length ≤ 12) :
    callD tab (k + 2) 25 [.d (.lst (wonL ws q)), .d (.int (ws.length : Int))] S = some (.d (.lst (cntsD ws q)), S) := by
  rw [callD_run (fn := f25) rfl rfl]
  obtain ⟨z3, z4, e⟩ := pv_loop k ws q S hl ws.length 0 none none [] (by omega) (by rw [List.length_nil]; omega)
  have hw : ∀ S : Store, walked S .rng1 [.d (.int (ws.length : Int))] = some ((List.range' 0 ws.length).map natD) := fun S => by
    rw [walked_r1, small62_int (by omega), if_pos rfl, ← List.range_eq_range']
    rfl
  rw [List.nil_append, ← List.range_eq_range'] at e
  have h1 : ex (callD tab (k + 1)) 20 (.asg (.nm 2) (.new (.lst []))) [some (.d (.lst (wonL ws q))), some (.d (.int (ws.length : Int))), none, none, none, none, none] S = some (.nx [some (.d (.lst (wonL ws q))), some (.d (.int (ws.length : Int))), some (.r S.length), none, none, none, none], S ++ [some []]) := by
    simp [-Option.bind_some, fits]
  have h2 : ex (callD tab (k + 1)) 20 (.for_ (.nm 3) .rng1 [.var 1] pvBody) [some (.d (.lst (wonL ws q))), some (.d (.int (ws.length : Int))), some (.r S.length), none, none, none, none] (S ++ [some []]) = some (.nx [some (.d (.lst (wonL ws q))), some (.d (.int (ws.length : Int))), some (.r S.length), z3, z4, none, none], S ++ [some (cntsD ws q)]) := by
    rw [ex_for]
    simp only [evs_cons, evs_nil, ev_var, getV_zero, getV_succ, bnd, hw, ← List.range_eq_range']
    exact e
  have h3 : ex (callD tab (k + 1)) 20 (.frz 2) [some (.d (.lst (wonL ws q))), some (.d (.int (ws.length : Int))), some (.r S.length), z3, z4, none, none] (S ++ [some (cntsD ws q)]) = some (.nx [some (.d (.lst (wonL ws q))), some (.d (.int (ws.length : Int))), some (.d (.lst (cntsD ws q))), z3, z4, none, none], S ++ [none]) := by
    simp [-Option.bind_some]
  have h4 : ex (callD tab (k + 1)) 20 (.ret (.var 2)) [some (.d (.lst (wonL ws q))), some (.d (.int (ws.length : Int))), some (.d (.lst (cntsD ws q))), z3, z4, none, none] (S ++ [none]) = some (.ret (.d (.lst (cntsD ws q))), S ++ [none]) := by
    simp [-Option.bind_some]
  have hb : f25.body = [.asg (.nm 2) (.new (.lst [])), .for_ (.nm 3) .rng1 [.var 1] pvBody, .frz 2, .ret (.var 2)] := rfl
  rw [hb]
  show Option.bind (exs _ _ [some (.d (.lst (wonL ws q))), some (.d (.int (ws.length : Int))), none, none, none, none, none] S) _ = _
  rw [exs_nx h1, exs_nx h2, exs_nx h3, exs_rt h4, bnd, thenO_ret, finish_d, List.take_left]
end K54
end

section
set_option autoImplicit false
set_option linter.all false
set_option maxRecDepth 20000
namespace K54
open PySem DL
theorem o2_eq_of {x y : D} (hx : eqOk x = true) (hy : eqOk y = true) : o2 .eq x y = some (.bl (eqD x y)) := by
  show (if (eqOk x && eqOk y) = true then some (D.bl (eqD x y)) else none) = _
  rw [hx, hy]
  rfl
theorem eqD_refl {x : D} (h : eqOk x = true) : eqD x x = true := by
  unfold eqOk at h
  rw [Bool.and_eq_true] at h
  exact SeqAt.eqv_refl _ (SeqAt.canLay_of_shaped h.2)
theorem o2_eq_refl {x : D} (h : eqOk x = true) : o2 .eq x x = some (.bl true) := by
  rw [o2_eq_of h h, eqD_refl h]
theorem fact_mono {a b : Nat} (h : a ≤ b) : fact a ≤ fact b := by
  induction h with
  | refl => exact Nat.le_refl _
  | step h ih => exact Nat.le_trans ih (Nat.le_mul_of_pos_left _ (Nat.succ_pos _))
def swShare (ws : List Nat) (q a : Nat) : D := redF (cntOf ws q a) (fact ws.length)
theorem r_shares (k : Nat) (ws : List Nat) (q : Nat) (S : Store) (hl : ws.length ≤ 12) (h0 : 0 < ((List.range ws.length).map (cntOf ws q)).sum) :
    callD tab (k + 3) 27 [.d (.lst (wonL ws q)), .d (.int (ws.length : Int)), .d (.str "pivot")] S = some (.d (.tup ((List.range ws.length).map (swShare ws q))), S) := by
  rw [callD_run (fn := f27) rfl rfl]
  have hp := r_pivots k ws q S hl
  have hpr := r_lproduct (k + 1) ws.length S (by omega)
  have hsum := o1_sum_nat (List.range ws.length) (cntOf ws q)
  have hs0 : decide ((((((List.range ws.length).map (cntOf ws q)).sum : Nat)) : Int) = 0) = false := decide_eq_false (by omega)
  have heq : o2 .eq (.str "pivot") (.str "pivot") = some (.bl true) := o2_eq_refl (by decide +kernel)
  have ht := turns_mapI (g := ev (callD tab (k + 2)) 38) (elt := .call 21 [.var 13, .call 24 [.var 1]]) (tg := .nm 13) (own := [13])
    (ρ := [some (.d (.lst (wonL ws q))), some (.d (.int (ws.length : Int))), some (.d (.str "pivot")), some (.d (.lst (cntsD ws q))), none, none, none, none, none, none, none, none, none, none]) (S := S) (fun a => natD (cntOf ws q a)) (swShare ws q) (List.range ws.length) []
    (fun a ha => by
      refine ⟨[some (.d (.lst (wonL ws q))), some (.d (.int (ws.length : Int))), some (.d (.str "pivot")), some (.d (.lst (cntsD ws q))), none, none, none, none, none, none, none, none, none, some (.d (.int ((cntOf ws q a : Nat) : Int)))], by simp [-Option.bind_some, natD], ?_⟩
      have hr := r_lpart k (cntOf ws q a) (fact ws.length) S (fact_pos _) (fact_small (by omega))
      simp only [ev_call, evs_cons, evs_nil, ev_var, getV_zero, getV_succ, bnd, hpr, hr, swShare]) (by rw [List.length_nil, List.length_range]; omega)
  rw [List.nil_append] at ht
  have h1 : ex (callD tab (k + 2)) 20 (.asg (.nm 3) (.call 25 [.var 0, .var 1])) [some (.d (.lst (wonL ws q))), some (.d (.int (ws.length : Int))), some (.d (.str "pivot")), none, none, none, none, none, none, none, none, none, none, none] S = some (.nx [some (.d (.lst (wonL ws q))), some (.d (.int (ws.length : Int))), some (.d (.str "pivot")), some (.d (.lst (cntsD ws q))), none, none, none, none, none, none, none, none, none, none], S) := by
    simp only [ex_asgN, ev_call, evs_cons, evs_nil, ev_var, getV_zero, getV_succ, bnd, hp, List.length_cons, List.length_nil, Nat.reduceAdd, Nat.reduceLT, if_true, List.set_cons_succ, List.set_cons_zero]
  have h2 : ex (callD tab (k + 2)) 20 (.ife (.o2 .eq (.o1 .sum (.var 3)) (.cst (.int 0))) [.ret (.dead)] []) [some (.d (.lst (wonL ws q))), some (.d (.int (ws.length : Int))), some (.d (.str "pivot")), some (.d (.lst (cntsD ws q))), none, none, none, none, none, none, none, none, none, none] S = some (.nx [some (.d (.lst (wonL ws q))), some (.d (.int (ws.length : Int))), some (.d (.str "pivot")), some (.d (.lst (cntsD ws q))), none, none, none, none, none, none, none, none, none, none], S) := by
    simp only [ex_ife, ev_o2, ev_o1, ev_var, ev_cst, getV_zero, getV_succ, bnd, deref_d, cntsD, hsum, eqD_int, hs0, isTrueD_bl, Bool.false_eq_true, if_false, exs_nil]
  have h3 : ex (callD tab (k + 2)) 20 (.ife (.o2 .eq (.var 2) (.cst (.str "pivot"))) [.ret (.o1 .tupleL (.lc (.call 21 [.var 13, .call 24 [.var 1]]) (.nm 13) .lst [.var 3] [] [13]))] []) [some (.d (.lst (wonL ws q))), some (.d (.int (ws.length : Int))), some (.d (.str "pivot")), some (.d (.lst (cntsD ws q))), none, none, none, none, none, none, none, none, none, none] S = some (.ret (.d (.tup ((List.range ws.length).map (swShare ws q)))), S) := by
    have hc : walked S .lst [.d (.lst (cntsD ws q))] = some ((List.range ws.length).map fun a => natD (cntOf ws q a)) := rfl
    simp only [ex_ife, ev_o2, ev_var, ev_cst, getV_zero, getV_succ, bnd, deref_d, heq, isTrueD_bl, if_true, exs_cons, ex_ret, ev_o1, ev_lc, evs_cons, evs_nil, hc, ht, o1_tupleL, thenO_ret]
  unfold f27
  show Option.bind (exs _ _ [some (.d (.lst (wonL ws q))), some (.d (.int (ws.length : Int))), some (.d (.str "pivot")), none, none, none, none, none, none, none, none, none, none, none] S) _ = _
  rw [exs_nx h1, exs_nx h2, exs_rt h3, bnd, thenO_ret, finish_d, List.take_length]
theorem swShare_eq (ws : List Nat) (q : Nat) : (List.range ws.length).map (swShare ws q) = ws.map fun w => shareG ws q w := by
  apply List.ext_getElem
  · simp [-Option.bind_some]
  · intro i h1 h2
    have hi : i < ws.length := by simpa using h2
    rw [List.getElem_map, List.getElem_map, List.getElem_range]
    unfold swShare shareG
    rw [cnt_tot ws q i hi]
theorem r_by_lots (k : Nat) (ws : List Nat) (q : Nat) (S : Store) (hl : ws.length ≤ 12) (h1 : 1 ≤ q) (h2 : q ≤ ws.sum) :
    callD tab (k + 4) 29 [.d (.tup (ws.map natD)), .d (.int (q : Int))] S = some (.d (.tup (ws.map fun w => shareG ws q w)), S) := by
  rw [callD_run (fn := f29) rfl rfl]
  have hs := r_shares k ws q S hl (cnt_sum ws q h1 h2 fact_pos)
  rw [swShare_eq] at hs
  have hp : 2 ^ ws.length ≤ 4096 := Nat.pow_le_pow_right (n := 2) (by decide) hl
  have hsh : o2 .shl (.int 1) (.int (ws.length : Int)) = some (.int ((2 ^ ws.length : Nat) : Int)) := by
    have : shlOk 1 (ws.length : Int) = true := by
      unfold shlOk
      rw [decide_eq_true (by omega : (0 : Int) ≤ (ws.length : Int)), decide_eq_true (by omega : (ws.length : Int) ≤ 1000000)]
      decide
    show (if shlOk 1 (ws.length : Int) = true then _ else _) = _
    rw [if_pos this, Int.toNat_natCast, Int.one_mul, Int.natCast_pow]
    rfl
  have hw := walk_N S (2 ^ ws.length) (by omega)
  have ht := turns_mapI (g := ev (callD tab (k + 3)) 39) (elt := .o2 .ge (.o1 .sum (.call 18 [.var 0, .var 4])) (.var 1)) (tg := .nm 4) (own := [4])
    (ρ := [some (.d (.tup (ws.map natD))), some (.d (.int (q : Int))), some (.d (.int (ws.length : Int))), none, none]) (S := S) natD (fun b => .bl (wonB ws q b)) (List.range (2 ^ ws.length)) []
    (fun b hb => by
      refine ⟨[some (.d (.tup (ws.map natD))), some (.d (.int (q : Int))), some (.d (.int (ws.length : Int))), none, some (.d (.int (b : Int)))], by simp [-Option.bind_some, natD], ?_⟩
      have hh := r_held (k + 2) ws b S (by omega)
      have hsum := o1_sum_nat (heldL ws b) (fun w => w)
      rw [List.map_id', heldL_sum] at hsum
      have hd : decide ((q : Int) ≤ ((held ws b : Nat) : Int)) = wonB ws q b := by
        unfold wonB
        by_cases h : q ≤ held ws b
        · rw [decide_eq_true h, decide_eq_true (by omega)]
        · rw [decide_eq_false h, decide_eq_false (by omega)]
      simp only [ev_o2, ev_o1, ev_call, evs_cons, evs_nil, ev_var, getV_zero, getV_succ, bnd, hh, deref_d, hsum, o2_ge, hd]) (by rw [List.length_nil, List.length_range]; omega)
  rw [List.nil_append] at ht
  unfold f29
  have hW : ∀ {α : Type} (f : List D → Option α), f ((List.range (2 ^ ws.length)).map fun b => .bl (wonB ws q b)) = f (wonL ws q) := fun f => rfl
  simp only [exs_cons, exs_nil, ex_asgN, ex_ret, ev_lc, ev_o1, ev_o2, ev_call, evs_cons, evs_nil, ev_var, ev_cst, getV_zero, getV_succ, bnd, deref_d, o1_lenT, List.length_map, hsh, hw, ht, List.map_cons, List.map_nil, List.cons_append, List.nil_append, List.length_cons, List.length_nil, Nat.reduceAdd, Nat.reduceSub, Nat.reduceLT, if_true, List.replicate_succ, List.replicate_zero, List.set_cons_succ, List.set_cons_zero, thenO_nx]
  rw [show ((List.range (2 ^ ws.length)).map fun b => D.bl (wonB ws q b)) = wonL ws q from rfl, hs]
  simp only [bnd, thenO_ret, finish_d, List.take_length]
end K54
end

section
set_option autoImplicit false
set_option linter.all false
set_option maxRecDepth 20000
namespace K54
open PySem DL
def pr (a b : Nat) : D := .tup [.int (a : Int), .int (b : Int)]
theorem redF_pr (t l a b : Nat) (h1 : t / Nat.gcd t l = a) (h2 : l / Nat.gcd t l = b) : redF t l = pr a b := by
  unfold redF pr
  rw [h1, h2]
theorem known1 : greatOf [4, 2, 1] 1 2 = [pr 1 1, pr 0 1, pr 0 1] := by
  have e : quo ([4, 2, 1] : List Nat).sum 1 2 + 1 = 4 := by decide
  have h1 : shareG [4, 2, 1] 4 4 = pr 1 1 := redF_pr _ _ 1 1 (by decide +kernel) (by decide +kernel)
  have h2 : shareG [4, 2, 1] 4 2 = pr 0 1 := redF_pr _ _ 0 1 (by decide +kernel) (by decide +kernel)
  have h3 : shareG [4, 2, 1] 4 1 = pr 0 1 := redF_pr _ _ 0 1 (by decide +kernel) (by decide +kernel)
  unfold greatOf
  rw [e, List.map_cons, List.map_cons, List.map_cons, List.map_nil, h1, h2, h3]
theorem known2 : greatOf ([4, 2, 1] ++ [1]) 1 2 = [pr 3 4, pr 1 12, pr 1 12, pr 1 12] := by
  have e : quo ([4, 2, 1, 1] : List Nat).sum 1 2 + 1 = 5 := by decide
  have h1 : shareG [4, 2, 1, 1] 5 4 = pr 3 4 := redF_pr _ _ 3 4 (by decide +kernel) (by decide +kernel)
  have h2 : shareG [4, 2, 1, 1] 5 2 = pr 1 12 := redF_pr _ _ 1 12 (by decide +kernel) (by decide +kernel)
  have h3 : shareG [4, 2, 1, 1] 5 1 = pr 1 12 := redF_pr _ _ 1 12 (by decide +kernel) (by decide +kernel)
  unfold greatOf
  rw [show ([4, 2, 1] ++ [1] : List Nat) = [4, 2, 1, 1] from rfl, e, List.map_cons, List.map_cons, List.map_cons, List.map_cons, List.map_nil, h1, h2, h3]
theorem o2_ne_refl {x : D} (h : eqOk x = true) : o2 .ne x x = some (.bl false) := by
  show (if (eqOk x && eqOk x) = true then some (D.bl (!eqD x x)) else none) = _
  rw [h, eqD_refl h]
  rfl
theorem r_known (k : Nat) (S : Store) : callD tab (k + 6) 33 [] S = some (.d (.bl true), S) := by
  rw [callD_run (fn := f33) rfl rfl]
  have hj := r_joins k [4, 2, 1] 1 1 2 S (by decide) (by decide) (by decide) (by decide) (by decide) (by decide) (by decide) (by decide) (by decide)
  rw [known1, known2] at hj
  have hj2 : callD tab (k + 5) 12 [.d (.tup [.int 4, .int 2, .int 1]), .d (.int 1), .d (.tup [.int 1, .int 2])] S = some (.d (.tup [.tup [pr 1 1, pr 3 4], .tup [pr 0 1, pr 1 12], .tup [pr 0 1, pr 1 12]]), S) := hj
  have e1 : eqOk (.lst [.tup [.int 1, .int 1], .tup [.int 0, .int 1], .tup [.int 0, .int 1]]) = true := by decide +kernel
  have e2 : eqOk (.lst [.tup [.int 3, .int 4], .tup [.int 1, .int 12], .tup [.int 1, .int 12]]) = true := by decide +kernel
  have hb1 : ∀ (x y : D) (z1 z2 : Option E) (T : D), bindT (.tp [.nm 1, .nm 2]) (.tup [x, y]) (wipe [some (.d T), z1, z2] [1, 2]) = some [some (.d T), some (.d x), some (.d y)] := fun x y z1 z2 T => by simp [-Option.bind_some]
  have ht1 := turns_mapI (g := ev (callD tab (k + 5)) 38) (elt := .var 1) (tg := .tp [(.nm 1), (.nm 2)]) (own := [1, 2]) (ρ := [some (.d (.tup [.tup [pr 1 1, pr 3 4], .tup [pr 0 1, pr 1 12], .tup [pr 0 1, pr 1 12]])), none, none]) (S := S) (fun p : D × D => .tup [p.1, p.2]) (fun p => p.1) [(pr 1 1, pr 3 4), (pr 0 1, pr 1 12), (pr 0 1, pr 1 12)] []
    (fun p _ => ⟨_, hb1 _ _ _ _ _, by simp [-Option.bind_some]⟩) (by decide)
  have ht2 := turns_mapI (g := ev (callD tab (k + 5)) 38) (elt := .var 2) (tg := .tp [(.nm 1), (.nm 2)]) (own := [1, 2]) (ρ := [some (.d (.tup [.tup [pr 1 1, pr 3 4], .tup [pr 0 1, pr 1 12], .tup [pr 0 1, pr 1 12]])), none, none]) (S := S) (fun p : D × D => .tup [p.1, p.2]) (fun p => p.2) [(pr 1 1, pr 3 4), (pr 0 1, pr 1 12), (pr 0 1, pr 1 12)] []
    (fun p _ => ⟨_, hb1 _ _ _ _ _, by simp [-Option.bind_some]⟩) (by decide)
  have ht1' : turns (ev (callD tab (k + 5)) 38) (.var 1) (.tp [(.nm 1), (.nm 2)]) [] [1, 2] [some (.d (.tup [.tup [pr 1 1, pr 3 4], .tup [pr 0 1, pr 1 12], .tup [pr 0 1, pr 1 12]])), none, none] [.tup [pr 1 1, pr 3 4], .tup [pr 0 1, pr 1 12], .tup [pr 0 1, pr 1 12]] [] S = some ([pr 1 1, pr 0 1, pr 0 1], S) := ht1
  have ht2' : turns (ev (callD tab (k + 5)) 38) (.var 2) (.tp [(.nm 1), (.nm 2)]) [] [1, 2] [some (.d (.tup [.tup [pr 1 1, pr 3 4], .tup [pr 0 1, pr 1 12], .tup [pr 0 1, pr 1 12]])), none, none] [.tup [pr 1 1, pr 3 4], .tup [pr 0 1, pr 1 12], .tup [pr 0 1, pr 1 12]] [] S = some ([pr 3 4, pr 1 12, pr 1 12], S) := ht2
  have n1 : o2 .ne (.lst [pr 1 1, pr 0 1, pr 0 1]) (.lst [.tup [.int 1, .int 1], .tup [.int 0, .int 1], .tup [.int 0, .int 1]]) = some (.bl false) := o2_ne_refl e1
  have n2 : o2 .eq (.lst [pr 3 4, pr 1 12, pr 1 12]) (.lst [.tup [.int 3, .int 4], .tup [.int 1, .int 12], .tup [.int 1, .int 12]]) = some (.bl true) := o2_eq_refl e2
  have h2 : decide (2 ≤ 10000000) = true := by decide
  have h3 : decide (3 ≤ 10000000) = true := by decide
  unfold f33
  simp only [exs_cons, exs_nil, ex_asgN, ex_ife, ex_ret, ev_call, ev_o2, ev_tup, ev_lst, ev_lc, evs_cons, evs_nil, ev_cst, ev_var, asDs_cons, asDs_nil, Option.map_some, fits, h2, h3, hj2, walked_tup, ht1', ht2', n1, n2, isTrueD_bl, Bool.false_eq_true, if_true, if_false, getV_zero, getV_succ, bnd, deref_d, asD_d, List.map_cons, List.map_nil, List.cons_append, List.nil_append, List.length_cons, List.length_nil, Nat.reduceAdd, Nat.reduceSub, Nat.reduceLT, Nat.zero_add, List.replicate_succ, List.replicate_zero, List.set_cons_succ, List.set_cons_zero, thenO_nx, thenO_ret, finish_d, List.take_length]
end K54
end

section
set_option autoImplicit false
set_option linter.all false
set_option maxRecDepth 20000
namespace K54
open PySem DL
theorem Pot.self {n : Int} {S : Store} {p : Nat} (h : Pot n S p) : ∃ xs, S = S.set p (some xs) := by
  have hl := h.lt
  obtain ⟨o, m, c, hS, _⟩ := h
  refine ⟨potD o m c, ?_⟩
  apply List.ext_getElem?
  intro i
  by_cases hi : p = i
  · subst hi
    rw [hS, List.getElem?_set_self hl]
  · rw [List.getElem?_set_ne hi]
/-- numbers drawn one after the other -/
theorem turns_draw {C : Call} {f v p : Nat} {elt : Tm} {ρ : DL.Env} (U : Nat → Prop) (d : Int) (hd : 0 ≤ d) (hv : v < ρ.length)
    (h : ∀ (x : D) (m : Int) (S : Store), Pot m S p → m < 700000 → ∃ w xs, ev C f elt ((ρ.set v none).set v (some (.d x))) S = some (.d (natD w), S.set p (some xs)) ∧ U w ∧ Pot (m + d) (S.set p (some xs)) p) :
    ∀ (l : List D) (ws0 : List Nat) (m : Int) (S : Store), Pot m S p → m + d * l.length < 700000 → ws0.length + l.length ≤ 10000000 →
    ∃ ws xs, turns (ev C f) elt (.nm v) [] [v] ρ l (ws0.map natD) S = some ((ws0 ++ ws).map natD, S.set p (some xs)) ∧ ws.length = l.length ∧ (∀ w ∈ ws, U w) ∧ Pot (m + d * l.length) (S.set p (some xs)) p
  | [], ws0, m, S, hp, _, _ => by
    obtain ⟨xs, hx⟩ := hp.self
    refine ⟨[], xs, ?_, rfl, by simp [-Option.bind_some], ?_⟩
    · rw [turns_nil, List.append_nil, ← hx]
    · rw [← hx]
      have e : m + d * (([] : List D).length : Int) = m := by simp [-Option.bind_some]
      rw [e]
      exact hp
  | x :: l, ws0, m, S, hp, hm, hl => by
    rw [List.length_cons] at hm hl
    have e : d * ((l.length + 1 : Nat) : Int) = d + d * (l.length : Int) := by
      rw [Int.natCast_add, Int.mul_add, Int.add_comm]
      show d * 1 + _ = _
      rw [Int.mul_one]
    have hdl : 0 ≤ d * (l.length : Int) := Int.mul_nonneg hd (by omega)
    rw [e] at hm
    obtain ⟨w, xs, e1, hU, hp1⟩ := h x m S hp (by omega)
    obtain ⟨ws, ys, e2, h1, h2, h3⟩ := turns_draw U d hd hv h l (ws0 ++ [w]) (m + d) (S.set p (some xs)) hp1 (by omega) (by rw [List.length_append, List.length_singleton]; omega)
    refine ⟨w :: ws, ys, ?_, by rw [List.length_cons, List.length_cons, h1], ?_, ?_⟩
    · have hb : bindT (.nm v) x (wipe ρ [v]) = some ((ρ.set v none).set v (some (.d x))) := by
        rw [wipe_cons, wipe_nil, bindT_nm, if_pos (by rw [List.length_set]; exact hv)]
      rw [turns_cons, hb, bnd, evT_nil, bnd, if_pos rfl, e1, bnd, asD_d, bnd, if_pos (by rw [List.length_map]; omega)]
      rw [List.map_append, List.map_singleton] at e2
      rw [e2, List.set_set, List.append_assoc]
      rfl
    · intro z hz
      rw [List.mem_cons] at hz
      rcases hz with rfl | hz
      · exact hU
      · exact h2 z hz
    · rw [List.set_set] at h3
      rw [List.length_cons, e, ← Int.add_assoc]
      exact h3
def isPr (x : D) : Prop := ∃ i j : Int, x = .tup [.int i, .int j]
theorem isPr_share (ws : List Nat) (q w : Nat) : isPr (shareG ws q w) := ⟨_, _, rfl⟩
theorem isPr_map {x : D} (ws vs : List Nat) (q : Nat) (h : x ∈ vs.map fun w => shareG ws q w) : isPr x := by
  rw [List.mem_map] at h
  obtain ⟨w, _, rfl⟩ := h
  exact isPr_share ws q w
theorem nice_zip : ∀ A B : List D, (∀ x ∈ A, isPr x) → (∀ x ∈ B, isPr x) → D.flats (zipD A B) = true ∧ PyData.canLayAll0 (D.pys (zipD A B)) = true ∧ PyData.depthAll (D.pys (zipD A B)) ≤ 2
  | [], B, _, _ => ⟨rfl, rfl, Nat.zero_le _⟩
  | x :: A, [], _, _ => ⟨rfl, rfl, Nat.zero_le _⟩
  | x :: A, y :: B, hA, hB => by
    obtain ⟨i, j, rfl⟩ := hA x List.mem_cons_self
    obtain ⟨i', j', rfl⟩ := hB y List.mem_cons_self
    obtain ⟨h1, h2, h3⟩ := nice_zip A B (fun x h => hA x (List.mem_cons_of_mem _ h)) (fun x h => hB x (List.mem_cons_of_mem _ h))
    refine ⟨?_, ?_, ?_⟩
    · simp only [zipD, D.flats, D.flat, h1, Bool.and_true]
    · simp only [zipD, D.pys, D.py, PyData.canLayAll0, PyData.canLay0, h2, Bool.and_true]
    · simp only [zipD, D.pys, D.py, PyData.depthAll, PyData.depth]
      omega
theorem eqOk_zip (A B : List D) (hA : ∀ x ∈ A, isPr x) (hB : ∀ x ∈ B, isPr x) : eqOk (.tup (zipD A B)) = true := by
  obtain ⟨h1, h2, h3⟩ := nice_zip A B hA hB
  have h4 : PyData.depthAll (D.pys (zipD A B)) + 1 ≤ 64 := by omega
  simp only [eqOk, SeqAt.shaped, D.flat, D.py, PyData.canLay0, PyData.depth, h1, h2, h4, decide_true, Bool.and_true]
theorem sum_le {M : Nat} : ∀ ws : List Nat, (∀ w ∈ ws, w ≤ M) → ws.sum ≤ ws.length * M
  | [], _ => Nat.zero_le _
  | w :: ws, h => by
    have h1 := h w List.mem_cons_self
    have h2 := sum_le ws fun x hx => h x (List.mem_cons_of_mem _ hx)
    rw [List.sum_cons, List.length_cons, Nat.succ_mul]
    omega
theorem le_sum {m : Nat} : ∀ ws : List Nat, (∀ w ∈ ws, m ≤ w) → ws.length * m ≤ ws.sum
  | [], _ => by simp [-Option.bind_some]
  | w :: ws, h => by
    have h1 := h w List.mem_cons_self
    have h2 := le_sum ws fun x hx => h x (List.mem_cons_of_mem _ hx)
    rw [List.sum_cons, List.length_cons, Nat.succ_mul]
    omega
theorem hcat (ws : List Nat) (w : Nat) (h : ws.length < 1000) : o2 .catT (.tup (ws.map natD)) (.tup [natD w]) = some (.tup ((ws ++ [w]).map natD)) := by
  show (if fits ((ws.map natD).length + 1) = true then _ else _) = _
  rw [if_pos (by unfold fits; exact decide_eq_true (by rw [List.length_map]; omega)), List.map_append]
  rfl
theorem many_w (k : Nat) {n : Int} {S : Store} {p : Nat} (h : Pot n S p) (hn : n < 500000) :
    ∃ (ws : List Nat) (xs : List D), ev (callD tab (k + 1)) 40 (.o1 .tupleL (.lc (.o1 .int (.o2 .add (.cst (.int 1)) (.call 15 [.var 0, .cst (.int 9)]))) (.nm 6) .rng1 [.o2 .add (.cst (.int 8)) (.call 15 [.var 0, .cst (.int 13)])] [] [6])) [some (.r p), none, none, none, none, none, none] S = some (.d (.tup (ws.map natD)), S.set p (some xs)) ∧
      8 ≤ ws.length ∧ ws.length ≤ 20 ∧ (∀ w ∈ ws, 1 ≤ w ∧ w ≤ 9) ∧ Pot (n + 50) (S.set p (some xs)) p := by
  obtain ⟨r, xs, e, h1, h2, h3⟩ := r_take k 13 h (by omega) (by omega)
  have hw : ∀ S : Store, walked S .rng1 [.d (.int (8 + r))] = some ((List.range (8 + r).toNat).map fun (i : Nat) => .int (i : Int)) := fun S => by
    rw [walked_r1, small62_int (by omega), if_pos rfl]
  obtain ⟨ws, ys, e1, g1, g2, g3⟩ := turns_draw (C := callD tab (k + 1)) (f := 38) (v := 6) (p := p) (elt := .o1 .int (.o2 .add (.cst (.int 1)) (.call 15 [.var 0, .cst (.int 9)]))) (ρ := [some (.r p), none, none, none, none, none, none]) (fun w => 1 ≤ w ∧ w ≤ 9) 1 (by omega) (by simp [-Option.bind_some])
    (fun x m S hp hm => by
      obtain ⟨r, xs, e, h1, h2, h3⟩ := r_take k 9 hp (by omega) (by omega)
      obtain ⟨t, rfl⟩ : ∃ t : Nat, r = (t : Int) := ⟨r.toNat, by omega⟩
      refine ⟨1 + t, xs, ?_, by omega, h3⟩
      have e2 : (1 : Int) + (t : Int) = ((1 + t : Nat) : Int) := by omega
      simp only [List.set_cons_succ, List.set_cons_zero, ev_o1, ev_o2, ev_call, evs_cons, evs_nil, ev_var, ev_cst, getV_zero, bnd, e, deref_d, o2_add, o1_int, e2, natD])
    ((List.range (8 + r).toNat).map fun (i : Nat) => .int (i : Int)) [] (n + 1) (S.set p (some xs)) h3 (by rw [List.length_map, List.length_range]; omega) (by rw [List.length_map, List.length_range, List.length_nil]; omega)
  rw [List.length_map, List.length_range] at g1 g3
  rw [List.set_set] at e1 g3
  refine ⟨ws, ys, ?_, by omega, by omega, g2, g3.mono (by omega)⟩
  rw [List.map_nil, List.nil_append] at e1
  simp only [ev_o1, ev_o2, ev_lc, ev_call, evs_cons, evs_nil, ev_var, ev_cst, getV_zero, bnd, e, deref_d, o2_add, hw, e1, o1_tupleL]
theorem r_many (k : Nat) {n : Int} {S : Store} {p : Nat} (h : Pot n S p) (hn : n < 500000) :
    ∃ xs, callD tab (k + 6) 32 [.r p] S = some (.d (.bl true), S.set p (some xs)) ∧ Pot (n + 100) (S.set p (some xs)) p := by
  obtain ⟨ws, xs, e1, l1, l2, hw, hp1⟩ := many_w (k + 4) h hn
  obtain ⟨r, ys, e2, r0, r1, hp2⟩ := r_take (k + 4) 10 hp1 (by omega) (by omega)
  obtain ⟨a, b, zs, e3, hab, hb, hg, hp3⟩ := r_fraction (k + 2) hp2 (by omega)
  obtain ⟨w, rfl⟩ : ∃ t : Nat, r = (t : Int) := ⟨r.toNat, by omega⟩
  simp only [List.set_set] at e2 e3 hp2 hp3
  refine ⟨zs, ?_, hp3.mono (by omega)⟩
  have hs1 := le_sum ws fun w hx => (hw w hx).1
  have hs2 := sum_le ws fun w hx => (hw w hx).2
  have hs3 := sum_snoc ws w
  have q1 := quo_lt (t := ws.sum) (by omega) hab
  have q2 := quo_lt (t := (ws ++ [w]).sum) (by omega) hab
  have lq1 := r_lquota (k + 4) ws.sum a b (S.set p (some zs)) (by omega) (by omega) hab hb
  have lq2 := r_lquota (k + 4) (ws ++ [w]).sum a b (S.set p (some zs)) (by omega) (by omega) hab hb
  rw [show ws.sum * a / b + 1 = quo ws.sum a b + 1 from rfl] at lq1
  rw [show (ws ++ [w]).sum * a / b + 1 = quo (ws ++ [w]).sum a b + 1 from rfl] at lq2
  have gr1 := r_great' (k + 1) ws (quo ws.sum a b) (S.set p (some zs)) (by omega) (by omega) (fun x hx => by have := (hw x hx).2; omega) (by omega) (by omega)
  have gr2 := r_great' (k + 1) (ws ++ [w]) (quo (ws ++ [w]).sum a b) (S.set p (some zs)) (by simp [-Option.bind_some]) (by rw [List.length_append, List.length_singleton]; omega) (fun x hx => by
    rw [List.mem_append, List.mem_singleton] at hx
    rcases hx with hx | hx
    · have := (hw x hx).2
      omega
    · omega) (by omega) (by omega)
  have gj := r_joins k ws w a b (S.set p (some zs)) (by omega) (by omega) (fun x hx => by have := (hw x hx).2; omega) (by omega) (by omega) (by omega) hab hb hg
  have hz : decide (ws.length ≤ (ws ++ [w]).length) = true := decide_eq_true (by simp [-Option.bind_some])
  have hq := o2_eq_refl (eqOk_zip (greatOf ws a b) (greatOf (ws ++ [w]) a b) (fun x hx => isPr_map _ _ _ hx) (fun x hx => isPr_map _ _ _ hx))
  have hc := hcat ws w (by omega)
  have hadd : ((ws.sum : Nat) : Int) + (w : Int) = (((ws ++ [w]).sum : Nat) : Int) := by omega
  have h1 : decide (1 ≤ 10000000) = true := by decide
  unfold greatOf at gj hq
  rw [callD_run (fn := f32) rfl rfl]
  have s1 : ex (callD tab (k + 5)) 20 (.asg (.nm 1) (.o1 .tupleL (.lc (.o1 .int (.o2 .add (.cst (.int 1)) (.call 15 [.var 0, .cst (.int 9)]))) (.nm 6) .rng1 [.o2 .add (.cst (.int 8)) (.call 15 [.var 0, .cst (.int 13)])] [] [6]))) [some (.r p), none, none, none, none, none, none] S = some (.nx [some (.r p), some (.d (.tup (ws.map natD))), none, none, none, none, none], S.set p (some xs)) := by
    rw [ex_asgN, e1, bnd]
    rfl
  have s2 : ex (callD tab (k + 5)) 20 (.par 2 3 (.o1 .int (.call 15 [.var 0, .cst (.int 10)])) (.call 30 [.var 0])) [some (.r p), some (.d (.tup (ws.map natD))), none, none, none, none, none] (S.set p (some xs)) = some (.nx [some (.r p), some (.d (.tup (ws.map natD))), some (.d (natD w)), some (.d (pr a b)), none, none, none], S.set p (some zs)) := by
    simp only [ex_par, ev_o1, ev_call, evs_cons, evs_nil, ev_var, ev_cst, getV_zero, bnd, e2, e3, deref_d, o1_int, List.length_cons, List.length_nil, Nat.reduceAdd, Nat.reduceLT, and_self, if_true, List.set_cons_succ, List.set_cons_zero, natD, pr]
  have s3 : ex (callD tab (k + 5)) 20 (.asg (.nm 4) (.call 11 [.var 1, .call 28 [.o1 .sumT (.var 1), .var 3]])) [some (.r p), some (.d (.tup (ws.map natD))), some (.d (natD w)), some (.d (pr a b)), none, none, none] (S.set p (some zs)) = some (.nx [some (.r p), some (.d (.tup (ws.map natD))), some (.d (natD w)), some (.d (pr a b)), some (.d (.tup (ws.map fun v => shareG ws (quo ws.sum a b + 1) v))), none, none], S.set p (some zs)) := by
    simp only [ex_asgN, ev_o1, ev_call, evs_cons, evs_nil, ev_var, ev_cst, getV_zero, getV_succ, bnd, deref_d, o1_sumT_nat, pr, lq1, gr1, List.length_cons, List.length_nil, Nat.reduceAdd, Nat.reduceLT, if_true, List.set_cons_succ, List.set_cons_zero]
  have s4 : ex (callD tab (k + 5)) 20 (.asg (.nm 5) (.call 11 [.o2 .catT (.var 1) (.tup [.var 2]), .call 28 [.o2 .add (.o1 .sumT (.var 1)) (.var 2), .var 3]])) [some (.r p), some (.d (.tup (ws.map natD))), some (.d (natD w)), some (.d (pr a b)), some (.d (.tup (ws.map fun v => shareG ws (quo ws.sum a b + 1) v))), none, none] (S.set p (some zs)) = some (.nx [some (.r p), some (.d (.tup (ws.map natD))), some (.d (natD w)), some (.d (pr a b)), some (.d (.tup (ws.map fun v => shareG ws (quo ws.sum a b + 1) v))), some (.d (.tup ((ws ++ [w]).map fun v => shareG (ws ++ [w]) (quo (ws ++ [w]).sum a b + 1) v))), none], S.set p (some zs)) := by
    have hnat : ∀ v : Nat, natD v = .int (v : Int) := fun _ => rfl
    have hc' := hc
    rw [hnat] at hc'
    simp only [ex_asgN, ev_o1, ev_o2, ev_tup, asDs_cons, asDs_nil, Option.map_some, fits, h1, ev_call, evs_cons, evs_nil, ev_var, ev_cst, getV_zero, getV_succ, bnd, deref_d, o1_sumT_nat, pr, hc', hnat w, o2_add, hadd, lq2, gr2, List.length_cons, List.length_nil, Nat.reduceAdd, Nat.reduceLT, Nat.zero_add, if_true, List.set_cons_succ, List.set_cons_zero]
  have s5 : ex (callD tab (k + 5)) 20 (.ret (.o2 .eq (.call 12 [.var 1, .var 2, .var 3]) (.tupZip (.var 4) (.var 5)))) [some (.r p), some (.d (.tup (ws.map natD))), some (.d (natD w)), some (.d (pr a b)), some (.d (.tup (ws.map fun v => shareG ws (quo ws.sum a b + 1) v))), some (.d (.tup ((ws ++ [w]).map fun v => shareG (ws ++ [w]) (quo (ws ++ [w]).sum a b + 1) v))), none] (S.set p (some zs)) = some (.ret (.d (.bl true)), S.set p (some zs)) := by
    have gj' : callD tab (k + 5) 12 [.d (.tup (ws.map natD)), .d (natD w), .d (pr a b)] (S.set p (some zs)) = _ := gj
    simp only [ex_ret, ev_o2, ev_call, ev_tupZip, evs_cons, evs_nil, ev_var, getV_zero, getV_succ, bnd, gj', asD_d, asT_tup, List.length_map, hz, if_true, deref_d, hq]
  unfold f32
  show Option.bind (exs _ _ [some (.r p), none, none, none, none, none, none] S) _ = _
  rw [exs_nx s1, exs_nx s2, exs_nx s3, exs_nx s4, exs_rt s5, bnd, thenO_ret, finish_d, take_set_len]
end K54
end

section
set_option autoImplicit false
set_option linter.all false
set_option maxRecDepth 20000
namespace K54
open PySem DL
/-! what is shown -/
theorem so_of (s : String) : PyData.strOk (Str.ofString s) = true := by
  rw [Str.ofString_eq_toList]
  unfold PyData.strOk
  rw [Array.all_eq_true']
  intro x hx
  rw [List.mem_toArray, List.mem_map] at hx
  obtain ⟨c, _, rfl⟩ := hx
  have h := c.valid
  have h2 : c.toNat < 0x110000 := by
    rcases h with h | ⟨_, h⟩
    · exact Nat.lt_trans h (by decide)
    · exact h
  exact decide_eq_true h2
theorem so_app (a b : Str) (ha : PyData.strOk a = true) (hb : PyData.strOk b = true) : PyData.strOk (a ++ b) = true := by
  show (a.cps ++ b.cps).all _ = true
  rw [Array.all_append]
  unfold PyData.strOk at ha hb
  rw [ha, hb]
  rfl
theorem so_join (sep : Str) (hs : PyData.strOk sep = true) : ∀ ts : List Str, (∀ t ∈ ts, PyData.strOk t = true) → PyData.strOk (Str.join sep ts) = true
  | [], _ => by
    show PyData.strOk Str.empty = true
    decide +kernel
  | [x], h => h x List.mem_cons_self
  | x :: y :: r, h => by
    show PyData.strOk (x ++ sep ++ Str.join sep (y :: r)) = true
    exact so_app _ _ (so_app _ _ (h x List.mem_cons_self) hs) (so_join sep hs (y :: r) fun t ht => h t (List.mem_cons_of_mem _ ht))
theorem so_tuple (ts : List Str) (h : ∀ t ∈ ts, PyData.strOk t = true) : PyData.strOk (tupleText ts) = true := by
  unfold tupleText
  refine so_app _ _ (so_app _ _ (so_of _) (so_join _ (so_of _) ts h)) ?_
  split <;> exact so_of _
theorem so_int (i : Int) : PyData.strOk (PyData.shown (.int i)) = true := by
  simp only [PyData.shown]
  exact so_of _
theorem int_short {i : Nat} (h : i < 10 ^ 20) : (PyData.shown (.int (i : Int))).length ≤ 20 := by
  have e : PyData.shown (.int (i : Int)) = ⟨((Nat.toDigits 10 i).map Char.toNat).toArray⟩ := by
    simp only [PyData.shown]
    exact PyProof.Rows.text_ofNat i
  rw [e]
  show (((Nat.toDigits 10 i).map Char.toNat).toArray).size ≤ 20
  rw [List.size_toArray, List.length_map]
  exact PyProof.Rows.digits10_le (by decide) h
theorem log_small {i : Nat} (h : i < 10 ^ 20) : i.log2 < 70 := by
  by_cases h0 : i = 0
  · subst h0
    decide
  · exact (Nat.log2_lt h0).mpr (Nat.lt_of_lt_of_le h (by decide))
/-- a pair of numbers that are not great -/
def isPrB (x : D) : Prop := ∃ i j : Nat, x = .tup [.int (i : Int), .int (j : Int)] ∧ i < 10 ^ 20 ∧ j < 10 ^ 20
theorem show_zip : ∀ A B : List D, (∀ x ∈ A, isPrB x) → (∀ x ∈ B, isPrB x) → D.flats (zipD A B) = true ∧ PyData.showableAll (D.pys (zipD A B)) = true ∧ PyData.depthAll (D.pys (zipD A B)) ≤ 2 ∧
    PyData.leavesShortAll 20 (D.pys (zipD A B)) = true ∧ PyData.weightAll (D.pys (zipD A B)) ≤ 400 * A.length ∧ ∀ t ∈ PyData.shownAll (D.pys (zipD A B)), PyData.strOk t = true
  | [], B, _, _ => ⟨rfl, rfl, Nat.zero_le _, rfl, Nat.le_refl _, by simp [-Option.bind_some, zipD, D.pys, PyData.shownAll]⟩
  | x :: A, [], _, _ => ⟨rfl, rfl, Nat.zero_le _, rfl, Nat.zero_le _, by simp [-Option.bind_some, zipD, D.pys, PyData.shownAll]⟩
  | x :: A, y :: B, hA, hB => by
    obtain ⟨i, j, rfl, hi, hj⟩ := hA x List.mem_cons_self
    obtain ⟨i', j', rfl, hi', hj'⟩ := hB y List.mem_cons_self
    obtain ⟨h1, h2, h3, h4, h5, h6⟩ := show_zip A B (fun x h => hA x (List.mem_cons_of_mem _ h)) (fun x h => hB x (List.mem_cons_of_mem _ h))
    have l1 := log_small hi
    have l2 := log_small hj
    have l3 := log_small hi'
    have l4 := log_small hj'
    have s1 := int_short hi
    have s2 := int_short hj
    have s3 := int_short hi'
    have s4 := int_short hj'
    have d1 : i.log2 < 1920 := by omega
    have d2 : j.log2 < 1920 := by omega
    have d3 : i'.log2 < 1920 := by omega
    have d4 : j'.log2 < 1920 := by omega
    have w : ∀ n : Nat, n.log2 < 70 → PyData.weight (.int (n : Int)) ≤ 70 := by
      intro n hn
      simp only [PyData.weight]
      split
      · omega
      · rw [Int.natAbs_natCast]
        omega
    have w1 := w i l1
    have w2 := w j l2
    have w3 := w i' l3
    have w4 := w j' l4
    refine ⟨?_, ?_, ?_, ?_, ?_, ?_⟩
    · simp only [zipD, D.flats, D.flat, h1, Bool.and_true]
    · simp only [zipD, D.pys, D.py, PyData.showableAll, PyData.showable, h2, Int.natAbs_natCast, d1, d2, d3, d4, decide_true, Bool.and_true]
    · simp only [zipD, D.pys, D.py, PyData.depthAll, PyData.depth]
      omega
    · simp only [zipD, D.pys, D.py, PyData.leavesShortAll, PyData.leavesShort, h4, s1, s2, s3, s4, decide_true, Bool.and_true]
    · rw [List.length_cons]
      have e : PyData.weightAll (D.pys (zipD (.tup [.int (i : Int), .int (j : Int)] :: A) (.tup [.int (i' : Int), .int (j' : Int)] :: B))) = PyData.weight (.int (i : Int)) + 1 + (PyData.weight (.int (j : Int)) + 1 + 0) + 1 + (PyData.weight (.int (i' : Int)) + 1 + (PyData.weight (.int (j' : Int)) + 1 + 0) + 1 + 0) + 1 + PyData.weightAll (D.pys (zipD A B)) := by
        simp only [zipD, D.pys, D.py, PyData.weightAll, PyData.weight]
      rw [e]
      omega
    · intro t ht
      simp only [zipD, D.pys, D.py, PyData.shownAll] at ht
      rw [List.mem_cons] at ht
      rcases ht with rfl | ht
      · have hp : ∀ a b : Int, PyData.strOk (PyData.shown (.tuple [.int a, .int b])) = true := by
          intro a b
          have e : PyData.shown (.tuple [.int a, .int b]) = tupleText [PyData.shown (.int a), PyData.shown (.int b)] := by
            simp only [PyData.shown, PyData.shownAll]
          rw [e]
          refine so_tuple _ ?_
          intro t ht
          rw [List.mem_cons, List.mem_singleton] at ht
          rcases ht with rfl | rfl <;> exact so_int _
        have e : PyData.shown (.tuple [.tuple [.int (i : Int), .int (j : Int)], .tuple [.int (i' : Int), .int (j' : Int)]]) = tupleText [PyData.shown (.tuple [.int (i : Int), .int (j : Int)]), PyData.shown (.tuple [.int (i' : Int), .int (j' : Int)])] := by
          simp only [PyData.shown, PyData.shownAll]
        rw [e]
        refine so_tuple _ ?_
        intro t ht
        rw [List.mem_cons, List.mem_singleton] at ht
        rcases ht with rfl | rfl <;> exact hp _ _
      · exact h6 t ht
/-- the text of what is told -/
theorem repr_zip (A B : List D) (hA : ∀ x ∈ A, isPrB x) (hB : ∀ x ∈ B, isPrB x) (hl : A.length ≤ 20) : ∃ s, o1 .repr (.tup (zipD A B)) = some (.str s) ∧ o2 .eq (.str s) (.str s) = some (.bl true) := by
  obtain ⟨h1, h2, h3, h4, h5, h6⟩ := show_zip A B hA hB
  have hw : PyData.weight (D.py (.tup (zipD A B))) ≤ 8000 := by
    simp only [D.py, PyData.weight]
    omega
  have hsh := PyData.shown_le 20 (by decide) (D.py (.tup (zipD A B))) (by simp only [D.py, PyData.leavesShort]; exact h4)
  have hlen : (D.py (.tup (zipD A B))).shown.length ≤ 10000000 := by omega
  have hok : showOk (.tup (zipD A B)) = true := by
    have d1 : PyData.depthAll (D.pys (zipD A B)) + 1 ≤ 60 := by omega
    unfold showOk fits
    rw [decide_eq_true hlen]
    simp only [D.flat, D.py, PyData.showable, PyData.depth, h1, h2, d1, decide_true, Bool.and_true]
  refine ⟨(D.py (.tup (zipD A B))).shown, ?_, o2_eq_refl ?_⟩
  · show (if showOk _ = true then _ else _) = _
    rw [if_pos hok]
  · have hs : PyData.strOk (D.py (.tup (zipD A B))).shown = true := by
      simp only [D.py, PyData.shown]
      exact so_tuple _ h6
    generalize (D.py (.tup (zipD A B))).shown = s at hs
    simp only [eqOk, SeqAt.shaped, D.flat, D.py, PyData.canLay0, PyData.depth, hs, Nat.zero_le, decide_true, Bool.and_true]
/-! the shares are not great -/
theorem fact_le8 {n : Nat} (h : n ≤ 8) : fact n ≤ 40320 := Nat.le_trans (fact_mono h) (by decide)
theorem cnt_small (ws : List Nat) (q a : Nat) (h : ws.length ≤ 8) : cntOf ws q a ≤ 256 * 1625702400 := by
  have hp : 2 ^ ws.length ≤ 256 := Nat.pow_le_pow_right (n := 2) (by decide) h
  refine Nat.le_trans (sm_le (M := 1625702400) fun b _ => ?_) (Nat.mul_le_mul_right _ hp)
  split
  · have f1 := fact_le8 (n := sz ws.length b) (Nat.le_trans (sz_le _ _) h)
    have f2 := fact_le8 (n := ws.length - 1 - sz ws.length b) (by omega)
    exact Nat.le_trans (Nat.mul_le_mul f1 f2) (by decide)
  · exact Nat.zero_le _
theorem share_small (ws : List Nat) (q w : Nat) (h : ws.length ≤ 8) (hw : w ∈ ws) : isPrB (shareG ws q w) := by
  obtain ⟨a, ha, rfl⟩ := List.mem_iff_getElem.mp hw
  have h1 := cnt_small ws q a h
  rw [cnt_tot ws q a ha] at h1
  have h2 := fact_le8 h
  refine ⟨_, _, rfl, ?_, ?_⟩
  · exact Nat.lt_of_le_of_lt (Nat.le_trans (Nat.div_le_self _ _) h1) (by decide)
  · exact Nat.lt_of_le_of_lt (Nat.le_trans (Nat.div_le_self _ _) h2) (by decide)
end K54
end

section
set_option autoImplicit false
set_option linter.all false
set_option maxRecDepth 20000
namespace K54
open PySem DL
theorem few_w (k : Nat) {n : Int} {S : Store} {p : Nat} (h : Pot n S p) (hn : n < 500000) :
    ∃ (ws : List Nat) (xs : List D), ev (callD tab (k + 2)) 40 (.o1 .tupleL (.lc (.o1 .int (.call 15 [.var 0, .call 16 [.var 0, .lst [.cst (.int 2), .cst (.int 6), .cst (.int 30)]]])) (.nm 7) .rng1 [.o2 .add (.cst (.int 1)) (.call 15 [.var 0, .cst (.int 7)])] [] [7])) [some (.r p), none, none, none, none, none, none, none] S = some (.d (.tup (ws.map natD)), S.set p (some xs)) ∧
      1 ≤ ws.length ∧ ws.length ≤ 7 ∧ (∀ w ∈ ws, w ≤ 29) ∧ Pot (n + 50) (S.set p (some xs)) p := by
  obtain ⟨r, xs, e, h1, h2, h3⟩ := r_take (k + 1) 7 h (by omega) (by omega)
  have hw : ∀ S : Store, walked S .rng1 [.d (.int (1 + r))] = some ((List.range (1 + r).toNat).map fun (i : Nat) => .int (i : Int)) := fun S => by
    rw [walked_r1, small62_int (by omega), if_pos rfl]
  have hf3 : decide (3 ≤ 10000000) = true := by decide
  obtain ⟨ws, ys, e1, g1, g2, g3⟩ := turns_draw (C := callD tab (k + 2)) (f := 38) (v := 7) (p := p) (elt := .o1 .int (.call 15 [.var 0, .call 16 [.var 0, .lst [.cst (.int 2), .cst (.int 6), .cst (.int 30)]]])) (ρ := [some (.r p), none, none, none, none, none, none, none]) (fun w => w ≤ 29) 2 (by omega) (by simp [-Option.bind_some])
    (fun x m S hp hm => by
      obtain ⟨u, xs, e, hu, h3⟩ := r_of k [.int 2, .int 6, .int 30] hp (by omega) (by simp [-Option.bind_some])
      obtain ⟨u, rfl, hu0, hu1⟩ : ∃ i : Int, u = .int i ∧ 0 < i ∧ i ≤ 30 := by
        simp only [List.mem_cons, List.not_mem_nil, or_false] at hu
        rcases hu with h | h | h <;> exact ⟨_, h, by omega, by omega⟩
      obtain ⟨r, ys, e', h1', h2', h3'⟩ := r_take (k + 1) u h3 (by omega) (by omega)
      obtain ⟨t, rfl⟩ : ∃ t : Nat, r = (t : Int) := ⟨r.toNat, by omega⟩
      rw [List.set_set] at e' h3'
      refine ⟨t, ys, ?_, by omega, h3'.mono (by omega)⟩
      simp only [List.set_cons_succ, List.set_cons_zero, ev_o1, ev_lst, asDs_cons, asDs_nil, Option.map_some, fits, hf3, List.length_cons, List.length_nil, Nat.reduceAdd, Nat.zero_add, if_true, ev_call, evs_cons, evs_nil, ev_var, ev_cst, getV_zero, bnd, e, e', deref_d, o1_int, natD])
    ((List.range (1 + r).toNat).map fun (i : Nat) => .int (i : Int)) [] (n + 1) (S.set p (some xs)) h3 (by rw [List.length_map, List.length_range]; omega) (by rw [List.length_map, List.length_range, List.length_nil]; omega)
  rw [List.length_map, List.length_range] at g1 g3
  rw [List.set_set] at e1 g3
  refine ⟨ws, ys, ?_, by omega, by omega, g2, g3.mono (by omega)⟩
  rw [List.map_nil, List.nil_append] at e1
  simp only [ev_o1, ev_o2, ev_lc, ev_call, evs_cons, evs_nil, ev_var, ev_cst, getV_zero, bnd, e, deref_d, o2_add, hw, e1, o1_tupleL]
theorem r_few (k : Nat) {n : Int} {S : Store} {p : Nat} (h : Pot n S p) (hn : n < 500000) :
    ∃ xs, callD tab (k + 6) 31 [.r p] S = some (.d (.bl true), S.set p (some xs)) ∧ Pot (n + 100) (S.set p (some xs)) p := by
  obtain ⟨vs, xs, e1, l1', l2', hw', hp1⟩ := few_w (k + 3) h hn
  obtain ⟨r, ys, e2, r0, r1, hp2⟩ := r_take (k + 4) 20 hp1 (by omega) (by omega)
  obtain ⟨a, b, zs, e3, hab, hb, hg, hp3⟩ := r_fraction (k + 2) hp2 (by omega)
  obtain ⟨w, rfl⟩ : ∃ t : Nat, r = (t : Int) := ⟨r.toNat, by omega⟩
  simp only [List.set_set] at e2 e3 hp2 hp3
  refine ⟨zs, ?_, hp3.mono (by omega)⟩
  have h1 : decide (1 ≤ 10000000) = true := by decide
  obtain ⟨ws, ei, l1, l2, hw, hpos⟩ : ∃ ws : List Nat, (∀ (z2 z3 z4 z5 z6 z7 : Option E) (S : Store), ev (callD tab (k + 5)) 40 (.ite (.o2 .gt (.o1 .sumT (.var 1)) (.cst (.int 0))) (.var 1) (.tup [.cst (.int 1)])) [some (.r p), some (.d (.tup (vs.map natD))), z2, z3, z4, z5, z6, z7] S = some (.d (.tup (ws.map natD)), S)) ∧ 1 ≤ ws.length ∧ ws.length ≤ 7 ∧ (∀ w ∈ ws, w ≤ 29) ∧ 0 < ws.sum := by
    by_cases hs : 0 < vs.sum
    · refine ⟨vs, fun z2 z3 z4 z5 z6 z7 S => ?_, l1', l2', hw', hs⟩
      have hd : decide ((0 : Int) < ((vs.sum : Nat) : Int)) = true := decide_eq_true (by omega)
      simp only [ev_ite, ev_o2, ev_o1, ev_var, ev_cst, getV_zero, getV_succ, bnd, deref_d, o1_sumT_nat, o2_gt, hd, isTrueD_bl, if_true]
    · refine ⟨[1], fun z2 z3 z4 z5 z6 z7 S => ?_, by decide, by decide, by decide, by decide⟩
      have hd : decide ((0 : Int) < ((vs.sum : Nat) : Int)) = false := decide_eq_false (by omega)
      simp only [ev_ite, ev_o2, ev_o1, ev_tup, evs_cons, evs_nil, asDs_cons, asDs_nil, Option.map_some, fits, h1, List.length_cons, List.length_nil, Nat.reduceAdd, Nat.zero_add, ev_var, ev_cst, getV_zero, getV_succ, bnd, deref_d, o1_sumT_nat, o2_gt, hd, isTrueD_bl, Bool.false_eq_true, if_false, if_true]
      rfl
  have hs2 := sum_le ws fun w hx => hw w hx
  have hs3 := sum_snoc ws w
  have q1 := quo_lt (t := ws.sum) (by omega) hab
  have q2 := quo_lt (t := (ws ++ [w]).sum) (by omega) hab
  have hlen : (ws ++ [w]).length = ws.length + 1 := by simp [-Option.bind_some]
  have lq1 := r_lquota (k + 4) ws.sum a b (S.set p (some zs)) (by omega) (by omega) hab hb
  have lq2 := r_lquota (k + 4) (ws ++ [w]).sum a b (S.set p (some zs)) (by omega) (by omega) hab hb
  rw [show ws.sum * a / b + 1 = quo ws.sum a b + 1 from rfl] at lq1
  rw [show (ws ++ [w]).sum * a / b + 1 = quo (ws ++ [w]).sum a b + 1 from rfl] at lq2
  have gr1 := r_by_lots (k + 1) ws (quo ws.sum a b + 1) (S.set p (some zs)) (by omega) (by omega) (by omega)
  have gr2 := r_by_lots (k + 1) (ws ++ [w]) (quo (ws ++ [w]).sum a b + 1) (S.set p (some zs)) (by omega) (by omega) (by omega)
  have gj := r_joins k ws w a b (S.set p (some zs)) (by omega) (by omega) (fun x hx => by have := hw x hx; omega) (by omega) (by omega) (by omega) hab hb hg
  have hz : decide (ws.length ≤ (ws ++ [w]).length) = true := decide_eq_true (by omega)
  obtain ⟨s, hr, hq⟩ := repr_zip (greatOf ws a b) (greatOf (ws ++ [w]) a b) (fun x hx => by
    unfold greatOf at hx
    rw [List.mem_map] at hx
    obtain ⟨v, hv, rfl⟩ := hx
    exact share_small ws _ v (by omega) hv) (fun x hx => by
    unfold greatOf at hx
    rw [List.mem_map] at hx
    obtain ⟨v, hv, rfl⟩ := hx
    exact share_small (ws ++ [w]) _ v (by omega) hv) (by unfold greatOf; rw [List.length_map]; omega)
  have hc := hcat ws w (by omega)
  have hadd : ((ws.sum : Nat) : Int) + (w : Int) = (((ws ++ [w]).sum : Nat) : Int) := by omega
  unfold greatOf at gj hr
  rw [callD_run (fn := f31) rfl rfl]
  have s1 : ex (callD tab (k + 5)) 20 (.asg (.nm 1) (.o1 .tupleL (.lc (.o1 .int (.call 15 [.var 0, .call 16 [.var 0, .lst [.cst (.int 2), .cst (.int 6), .cst (.int 30)]]])) (.nm 7) .rng1 [.o2 .add (.cst (.int 1)) (.call 15 [.var 0, .cst (.int 7)])] [] [7]))) [some (.r p), none, none, none, none, none, none, none] S = some (.nx [some (.r p), some (.d (.tup (vs.map natD))), none, none, none, none, none, none], S.set p (some xs)) := by
    rw [ex_asgN, e1, bnd]
    rfl
  have s2 : ex (callD tab (k + 5)) 20 (.par3 1 2 3 (.ite (.o2 .gt (.o1 .sumT (.var 1)) (.cst (.int 0))) (.var 1) (.tup [.cst (.int 1)])) (.o1 .int (.call 15 [.var 0, .cst (.int 20)])) (.call 30 [.var 0])) [some (.r p), some (.d (.tup (vs.map natD))), none, none, none, none, none, none] (S.set p (some xs)) = some (.nx [some (.r p), some (.d (.tup (ws.map natD))), some (.d (natD w)), some (.d (pr a b)), none, none, none, none], S.set p (some zs)) := by
    rw [ex_par3, ei, bnd]
    simp only [ev_o1, ev_call, evs_cons, evs_nil, ev_var, ev_cst, getV_zero, bnd, e2, e3, deref_d, o1_int, List.length_cons, List.length_nil, Nat.reduceAdd, Nat.reduceLT, and_self, if_true, List.set_cons_succ, List.set_cons_zero, natD, pr]
  have s3 : ex (callD tab (k + 5)) 20 (.asg (.nm 4) (.call 29 [.var 1, .call 28 [.o1 .sumT (.var 1), .var 3]])) [some (.r p), some (.d (.tup (ws.map natD))), some (.d (natD w)), some (.d (pr a b)), none, none, none, none] (S.set p (some zs)) = some (.nx [some (.r p), some (.d (.tup (ws.map natD))), some (.d (natD w)), some (.d (pr a b)), some (.d (.tup (ws.map fun v => shareG ws (quo ws.sum a b + 1) v))), none, none, none], S.set p (some zs)) := by
    simp only [ex_asgN, ev_o1, ev_call, evs_cons, evs_nil, ev_var, ev_cst, getV_zero, getV_succ, bnd, deref_d, o1_sumT_nat, pr, lq1, gr1, List.length_cons, List.length_nil, Nat.reduceAdd, Nat.reduceLT, if_true, List.set_cons_succ, List.set_cons_zero]
  have s4 : ex (callD tab (k + 5)) 20 (.asg (.nm 5) (.call 29 [.o2 .catT (.var 1) (.tup [.var 2]), .call 28 [.o2 .add (.o1 .sumT (.var 1)) (.var 2), .var 3]])) [some (.r p), some (.d (.tup (ws.map natD))), some (.d (natD w)), some (.d (pr a b)), some (.d (.tup (ws.map fun v => shareG ws (quo ws.sum a b + 1) v))), none, none, none] (S.set p (some zs)) = some (.nx [some (.r p), some (.d (.tup (ws.map natD))), some (.d (natD w)), some (.d (pr a b)), some (.d (.tup (ws.map fun v => shareG ws (quo ws.sum a b + 1) v))), some (.d (.tup ((ws ++ [w]).map fun v => shareG (ws ++ [w]) (quo (ws ++ [w]).sum a b + 1) v))), none, none], S.set p (some zs)) := by
    have hnat : ∀ v : Nat, natD v = .int (v : Int) := fun _ => rfl
    have hc' := hc
    rw [hnat] at hc'
    simp only [ex_asgN, ev_o1, ev_o2, ev_tup, asDs_cons, asDs_nil, Option.map_some, fits, h1, ev_call, evs_cons, evs_nil, ev_var, ev_cst, getV_zero, getV_succ, bnd, deref_d, o1_sumT_nat, pr, hc', hnat w, o2_add, hadd, lq2, gr2, List.length_cons, List.length_nil, Nat.reduceAdd, Nat.reduceLT, Nat.zero_add, if_true, List.set_cons_succ, List.set_cons_zero]
  have s5 : ex (callD tab (k + 5)) 20 (.asg (.nm 6) (.callK 12 [.var 1, .var 2, .var 3])) [some (.r p), some (.d (.tup (ws.map natD))), some (.d (natD w)), some (.d (pr a b)), some (.d (.tup (ws.map fun v => shareG ws (quo ws.sum a b + 1) v))), some (.d (.tup ((ws ++ [w]).map fun v => shareG (ws ++ [w]) (quo (ws ++ [w]).sum a b + 1) v))), none, none] (S.set p (some zs)) = some (.nx [some (.r p), some (.d (.tup (ws.map natD))), some (.d (natD w)), some (.d (pr a b)), some (.d (.tup (ws.map fun v => shareG ws (quo ws.sum a b + 1) v))), some (.d (.tup ((ws ++ [w]).map fun v => shareG (ws ++ [w]) (quo (ws ++ [w]).sum a b + 1) v))), some (.d (.tup (zipD (ws.map fun v => shareG ws (quo ws.sum a b + 1) v) ((ws ++ [w]).map fun v => shareG (ws ++ [w]) (quo (ws ++ [w]).sum a b + 1) v)))), none], S.set p (some zs)) := by
    have gj' : callD tab (k + 5) 12 [.d (.tup (ws.map natD)), .d (natD w), .d (pr a b)] (S.set p (some zs)) = _ := gj
    simp only [ex_asgN, ev_callK, evs_cons, evs_nil, ev_var, getV_zero, getV_succ, bnd, gj', List.length_cons, List.length_nil, Nat.reduceAdd, Nat.reduceLT, if_true, List.set_cons_succ, List.set_cons_zero]
  have s6 : ex (callD tab (k + 5)) 20 (.ret (.o2 .eq (.o1 .repr (.var 6)) (.o1 .repr (.tupZip (.var 4) (.var 5))))) [some (.r p), some (.d (.tup (ws.map natD))), some (.d (natD w)), some (.d (pr a b)), some (.d (.tup (ws.map fun v => shareG ws (quo ws.sum a b + 1) v))), some (.d (.tup ((ws ++ [w]).map fun v => shareG (ws ++ [w]) (quo (ws ++ [w]).sum a b + 1) v))), some (.d (.tup (zipD (ws.map fun v => shareG ws (quo ws.sum a b + 1) v) ((ws ++ [w]).map fun v => shareG (ws ++ [w]) (quo (ws ++ [w]).sum a b + 1) v)))), none] (S.set p (some zs)) = some (.ret (.d (.bl true)), S.set p (some zs)) := by
    simp only [ex_ret, ev_o2, ev_o1, ev_tupZip, ev_var, getV_zero, getV_succ, bnd, asD_d, asT_tup, List.length_map, hz, if_true, deref_d, hr, hq]
  unfold f31
  show Option.bind (exs _ _ [some (.r p), none, none, none, none, none, none, none] S) _ = _
  rw [exs_nx s1, exs_nx s2, exs_nx s3, exs_nx s4, exs_nx s5, exs_rt s6, bnd, thenO_ret, finish_d, take_set_len]
end K54
end

section
set_option autoImplicit false
set_option linter.all false
set_option maxRecDepth 20000
namespace K54
open PySem DL
theorem turns_few (k p : Nat) (z0 z1 z3 : Option E) : ∀ (l : List D) (c : Nat) (n : Int) (S : Store), Pot n S p → n + 100 * (l.length : Int) < 400000 → c + l.length < 1000 →
    ∃ xs, turns (ev (callD tab (k + 6)) 36) (.call 31 [.var 2]) (.nm 3) [] [3] [z0, z1, some (.r p), z3] l (List.replicate c (.bl true)) S = some (List.replicate (c + l.length) (.bl true), S.set p (some xs)) ∧ Pot (n + 100 * (l.length : Int)) (S.set p (some xs)) p
  | [], c, n, S, h, _, _ => by
    obtain ⟨xs, hx⟩ := h.self
    refine ⟨xs, ?_, ?_⟩
    · rw [turns_nil, ← hx]
      rfl
    · rw [← hx]
      have e : n + 100 * (([] : List D).length : Int) = n := by simp [-Option.bind_some]
      rw [e]
      exact h
  | x :: l, c, n, S, h, hn, hc => by
    rw [List.length_cons] at hn hc
    obtain ⟨xs, e1, h1⟩ := r_few k h (by omega)
    obtain ⟨ys, e2, h2⟩ := turns_few k p z0 z1 z3 l (c + 1) (n + 100) (S.set p (some xs)) h1 (by omega) (by omega)
    refine ⟨ys, ?_, ?_⟩
    · have hb : bindT (.nm 3) x (wipe [z0, z1, some (.r p), z3] [3]) = some [z0, z1, some (.r p), some (.d x)] := by simp [-Option.bind_some]
      have he : ev (callD tab (k + 6)) 36 (.call 31 [.var 2]) [z0, z1, some (.r p), some (.d x)] S = some (.d (.bl true), S.set p (some xs)) := by
        simp only [ev_call, evs_cons, evs_nil, ev_var, getV_zero, getV_succ, bnd, e1]
      have hr : List.replicate c (D.bl true) ++ [D.bl true] = List.replicate (c + 1) (D.bl true) := by rw [List.replicate_succ']
      rw [turns_cons, hb, bnd, evT_nil, bnd, if_pos rfl, he, bnd, asD_d, bnd, if_pos (by rw [List.length_replicate]; omega), hr, e2, List.set_set, List.length_cons]
      congr 3
      omega
    · rw [List.set_set] at h2
      rw [List.length_cons]
      exact h2.mono (by omega)
def lawBody : List Stm := [.asg (.nm 2) (.call 14 [.var 0, .var 1]), .ife (.or (.not (.o1 .all (.lc (.call 31 [.var 2]) (.nm 3) .rng1 [.cst (.int 3)] [] [3]))) (.not (.call 32 [.var 2]))) [.ret (.cst (.bl false))] [], .ife (.not (.call 33 [])) [.ret (.cst (.bl false))] []]
theorem law_step (k : Nat) (ns : List Int) (pl : Nat) (hp : pl ≤ 1) (z2 : Option E) (S : Store) : ∃ z2' S', exs (ex (callD tab (k + 6)) 19) lawBody [some (.d (.scr (ns.map D.int))), some (.d (.int (pl : Int))), z2, none] S = some (.nx [some (.d (.scr (ns.map D.int))), some (.d (.int (pl : Int))), z2', none], S') := by
  obtain ⟨xs, e1, h1⟩ := r_pot (k + 5) ns pl hp S
  obtain ⟨ys, e2, h2⟩ := turns_few k S.length (some (.d (.scr (ns.map D.int)))) (some (.d (.int (pl : Int)))) none [natD 0, natD 1, natD 2] 0 0 (S ++ [some xs]) h1 (by simp [-Option.bind_some]) (by simp [-Option.bind_some])
  obtain ⟨zs, e3, h3⟩ := r_many k h2 (by simp [-Option.bind_some])
  have e4 := fun S => r_known k S
  have hw : ∀ S : Store, walked S .rng1 [.d (.int 3)] = some [natD 0, natD 1, natD 2] := fun S => walk_N S 3 (by omega)
  have e2' : turns (ev (callD tab (k + 6)) 36) (.call 31 [.var 2]) (.nm 3) [] [3] [some (.d (.scr (ns.map D.int))), some (.d (.int (pl : Int))), some (.r S.length), none] [natD 0, natD 1, natD 2] [] (S ++ [some xs]) = some (List.replicate 3 (.bl true), (S ++ [some xs]).set S.length (some ys)) := e2
  refine ⟨some (.r S.length), ((S ++ [some xs]).set S.length (some ys)).set S.length (some zs), ?_⟩
  have s1 : ex (callD tab (k + 6)) 19 (.asg (.nm 2) (.call 14 [.var 0, .var 1])) [some (.d (.scr (ns.map D.int))), some (.d (.int (pl : Int))), z2, none] S = some (.nx [some (.d (.scr (ns.map D.int))), some (.d (.int (pl : Int))), some (.r S.length), none], S ++ [some xs]) := by
    simp only [ex_asgN, ev_call, evs_cons, evs_nil, ev_var, getV_zero, getV_succ, bnd, e1, List.length_cons, List.length_nil, Nat.reduceAdd, Nat.reduceLT, if_true, List.set_cons_succ, List.set_cons_zero]
  have s2 : ex (callD tab (k + 6)) 19 (.ife (.or (.not (.o1 .all (.lc (.call 31 [.var 2]) (.nm 3) .rng1 [.cst (.int 3)] [] [3]))) (.not (.call 32 [.var 2]))) [.ret (.cst (.bl false))] []) [some (.d (.scr (ns.map D.int))), some (.d (.int (pl : Int))), some (.r S.length), none] (S ++ [some xs]) = some (.nx [some (.d (.scr (ns.map D.int))), some (.d (.int (pl : Int))), some (.r S.length), none], ((S ++ [some xs]).set S.length (some ys)).set S.length (some zs)) := by
    simp only [ex_ife, ev_or, ev_not, ev_o1, ev_lc, ev_call, evs_cons, evs_nil, ev_var, ev_cst, getV_zero, getV_succ, bnd, hw, e2', deref_d, all_bl, isTrueD_bl, Bool.not_true, Bool.false_eq_true, if_false, e3, exs_nil]
  have s3 : ex (callD tab (k + 6)) 19 (.ife (.not (.call 33 [])) [.ret (.cst (.bl false))] []) [some (.d (.scr (ns.map D.int))), some (.d (.int (pl : Int))), some (.r S.length), none] (((S ++ [some xs]).set S.length (some ys)).set S.length (some zs)) = some (.nx [some (.d (.scr (ns.map D.int))), some (.d (.int (pl : Int))), some (.r S.length), none], ((S ++ [some xs]).set S.length (some ys)).set S.length (some zs)) := by
    simp only [ex_ife, ev_not, ev_call, evs_nil, bnd, e4, isTrueD_bl, Bool.not_true, Bool.false_eq_true, if_false, exs_nil]
  unfold lawBody
  rw [exs_nx s1, exs_nx s2, exs_nx s3, exs_nil]
theorem law_loop (k : Nat) (ns : List Int) : ∀ (l : List Nat) (z1 z2 : Option E) (S : Store), (∀ x ∈ l, x ≤ 1) →
    ∃ z1' z2' S', forL (ex (callD tab (k + 6)) 19) (.nm 1) lawBody (l.map natD) [some (.d (.scr (ns.map D.int))), z1, z2, none] S = some (.nx [some (.d (.scr (ns.map D.int))), z1', z2', none], S')
  | [], z1, z2, S, _ => ⟨z1, z2, S, by rw [List.map_nil, forL_nil]⟩
  | x :: l, z1, z2, S, h => by
    obtain ⟨z, S1, st⟩ := law_step k ns x (h x List.mem_cons_self) z2 S
    obtain ⟨z1', z2', S', ih⟩ := law_loop k ns l (some (.d (.int (x : Int)))) z S1 fun y hy => h y (List.mem_cons_of_mem _ hy)
    refine ⟨z1', z2', S', ?_⟩
    rw [List.map_cons, forL_cons, bindT_nm, if_pos (by simp [-Option.bind_some]), bnd]
    rw [show ([some (.d (.scr (ns.map D.int))), z1, z2, none] : DL.Env).set 1 (some (.d (natD x))) = [some (.d (.scr (ns.map D.int))), some (.d (.int (x : Int))), z2, none] from rfl, st, bnd, thenO_nx]
    exact ih
theorem r_law (k : Nat) (ns : List Int) : callD tab (k + 7) 34 [.d (.scr (ns.map D.int))] [] = some (.d (.bl true), []) := by
  rw [callD_run (fn := f34) rfl rfl]
  obtain ⟨j, j1, j2, e1⟩ := r_cells (k + 5) (ns.map D.int) []
  obtain ⟨z1, z2, S', e2⟩ := law_loop k ns (List.range j.toNat) none none [] fun x hx => by
    rw [List.mem_range] at hx
    omega
  have hr : rangeD 0 j = (List.range j.toNat).map natD := by
    unfold rangeD
    rw [Int.sub_zero]
    refine List.map_congr_left fun i _ => ?_
    rw [Int.zero_add]
    rfl
  rw [hr] at e1
  have s1 : ex (callD tab (k + 6)) 20 (.for_ (.nm 1) .lst [.call 17 [.var 0, .cst (.int 2)]] lawBody) [some (.d (.scr (ns.map D.int))), none, none, none] [] = some (.nx [some (.d (.scr (ns.map D.int))), z1, z2, none], S') := by
    rw [ex_for]
    simp only [ev_call, evs_cons, evs_nil, ev_var, ev_cst, getV_zero, bnd, e1, walked_lst]
    exact e2
  have s2 : ex (callD tab (k + 6)) 20 (.ret (.cst (.bl true))) [some (.d (.scr (ns.map D.int))), z1, z2, none] S' = some (.ret (.d (.bl true)), S') := by
    simp only [ex_ret, ev_cst, bnd]
  show Option.bind (exs _ [.for_ (.nm 1) .lst [.call 17 [.var 0, .cst (.int 2)]] lawBody, .ret (.cst (.bl true))] [some (.d (.scr (ns.map D.int))), none, none, none] []) _ = _
  rw [exs_nx s1, exs_rt s2, bnd, thenO_ret, finish_d]
  rfl
theorem main (ns : List Int) (_ : ns.length ≤ 63) (_ : ∀ z ∈ ns, Builtin.Int.intBits z ≤ 1048576) : callD prm.T 40 34 [.d (.scr (ns.map D.int))] [] = some (.d (.bl true), []) := r_law 33 ns
end K54
end

namespace K54
open PySem L2 DL
theorem b0 (kV doc pm : Value) (an : Option Addr) (cdv ct : Value) : ∀ us : List Value, us.length = f0.ps.length → bindArgs (PySem.W.fnOf f0.name f0.name (defArgs (top 7)) (defBody (top 7)) (defScope (top 7)) .none kV doc pm an cdv ct) ⟨us, []⟩ = pure (f0.ps.zip us)
  | [_], _ => rfl
theorem k0 (kV doc pm : Value) (an : Option Addr) (cdv ct : Value) : ∀ us : List Value, us.length = f0.ps.length → bindArgs (PySem.W.fnOf f0.name f0.name (defArgs (top 7)) (defBody (top 7)) (defScope (top 7)) .none kV doc pm an cdv ct) ⟨[], f0.ps.zip us⟩ = pure (f0.ps.zip us)
  | [_], _ => rfl
theorem b1 (kV doc pm : Value) (an : Option Addr) (cdv ct : Value) : ∀ us : List Value, us.length = f1.ps.length → bindArgs (PySem.W.fnOf f1.name f1.name (defArgs (top 8)) (defBody (top 8)) (defScope (top 8)) .none kV doc pm an cdv ct) ⟨us, []⟩ = pure (f1.ps.zip us)
  | [_, _, _], _ => rfl
theorem k1 (kV doc pm : Value) (an : Option Addr) (cdv ct : Value) : ∀ us : List Value, us.length = f1.ps.length → bindArgs (PySem.W.fnOf f1.name f1.name (defArgs (top 8)) (defBody (top 8)) (defScope (top 8)) .none kV doc pm an cdv ct) ⟨[], f1.ps.zip us⟩ = pure (f1.ps.zip us)
  | [_, _, _], _ => rfl
theorem b2 (kV doc pm : Value) (an : Option Addr) (cdv ct : Value) : ∀ us : List Value, us.length = f2.ps.length → bindArgs (PySem.W.fnOf f2.name f2.name (defArgs (top 9)) (defBody (top 9)) (defScope (top 9)) .none kV doc pm an cdv ct) ⟨us, []⟩ = pure (f2.ps.zip us)
  | [_, _], _ => rfl
theorem k2 (kV doc pm : Value) (an : Option Addr) (cdv ct : Value) : ∀ us : List Value, us.length = f2.ps.length → bindArgs (PySem.W.fnOf f2.name f2.name (defArgs (top 9)) (defBody (top 9)) (defScope (top 9)) .none kV doc pm an cdv ct) ⟨[], f2.ps.zip us⟩ = pure (f2.ps.zip us)
  | [_, _], _ => rfl
theorem b3 (kV doc pm : Value) (an : Option Addr) (cdv ct : Value) : ∀ us : List Value, us.length = f3.ps.length → bindArgs (PySem.W.fnOf f3.name f3.name (defArgs (top 10)) (defBody (top 10)) (defScope (top 10)) .none kV doc pm an cdv ct) ⟨us, []⟩ = pure (f3.ps.zip us)
  | [_, _], _ => rfl
theorem k3 (kV doc pm : Value) (an : Option Addr) (cdv ct : Value) : ∀ us : List Value, us.length = f3.ps.length → bindArgs (PySem.W.fnOf f3.name f3.name (defArgs (top 10)) (defBody (top 10)) (defScope (top 10)) .none kV doc pm an cdv ct) ⟨[], f3.ps.zip us⟩ = pure (f3.ps.zip us)
  | [_, _], _ => rfl
theorem b4 (kV doc pm : Value) (an : Option Addr) (cdv ct : Value) : ∀ us : List Value, us.length = f4.ps.length → bindArgs (PySem.W.fnOf f4.name f4.name (defArgs (top 11)) (defBody (top 11)) (defScope (top 11)) .none kV doc pm an cdv ct) ⟨us, []⟩ = pure (f4.ps.zip us)
  | [_], _ => rfl
theorem k4 (kV doc pm : Value) (an : Option Addr) (cdv ct : Value) : ∀ us : List Value, us.length = f4.ps.length → bindArgs (PySem.W.fnOf f4.name f4.name (defArgs (top 11)) (defBody (top 11)) (defScope (top 11)) .none kV doc pm an cdv ct) ⟨[], f4.ps.zip us⟩ = pure (f4.ps.zip us)
  | [_], _ => rfl
theorem b5 (kV doc pm : Value) (an : Option Addr) (cdv ct : Value) : ∀ us : List Value, us.length = f5.ps.length → bindArgs (PySem.W.fnOf f5.name f5.name (defArgs (top 16)) (defBody (top 16)) (defScope (top 16)) .none kV doc pm an cdv ct) ⟨us, []⟩ = pure (f5.ps.zip us)
  | [_], _ => rfl
theorem k5 (kV doc pm : Value) (an : Option Addr) (cdv ct : Value) : ∀ us : List Value, us.length = f5.ps.length → bindArgs (PySem.W.fnOf f5.name f5.name (defArgs (top 16)) (defBody (top 16)) (defScope (top 16)) .none kV doc pm an cdv ct) ⟨[], f5.ps.zip us⟩ = pure (f5.ps.zip us)
  | [_], _ => rfl
theorem b6 (kV doc pm : Value) (an : Option Addr) (cdv ct : Value) : ∀ us : List Value, us.length = f6.ps.length → bindArgs (PySem.W.fnOf f6.name f6.name (defArgs (top 17)) (defBody (top 17)) (defScope (top 17)) .none kV doc pm an cdv ct) ⟨us, []⟩ = pure (f6.ps.zip us)
  | [_], _ => rfl
theorem k6 (kV doc pm : Value) (an : Option Addr) (cdv ct : Value) : ∀ us : List Value, us.length = f6.ps.length → bindArgs (PySem.W.fnOf f6.name f6.name (defArgs (top 17)) (defBody (top 17)) (defScope (top 17)) .none kV doc pm an cdv ct) ⟨[], f6.ps.zip us⟩ = pure (f6.ps.zip us)
  | [_], _ => rfl
theorem b7 (kV doc pm : Value) (an : Option Addr) (cdv ct : Value) : ∀ us : List Value, us.length = f7.ps.length → bindArgs (PySem.W.fnOf f7.name f7.name (defArgs (top 18)) (defBody (top 18)) (defScope (top 18)) .none kV doc pm an cdv ct) ⟨us, []⟩ = pure (f7.ps.zip us)
  | [_, _], _ => rfl
theorem k7 (kV doc pm : Value) (an : Option Addr) (cdv ct : Value) : ∀ us : List Value, us.length = f7.ps.length → bindArgs (PySem.W.fnOf f7.name f7.name (defArgs (top 18)) (defBody (top 18)) (defScope (top 18)) .none kV doc pm an cdv ct) ⟨[], f7.ps.zip us⟩ = pure (f7.ps.zip us)
  | [_, _], _ => rfl
theorem b8 (kV doc pm : Value) (an : Option Addr) (cdv ct : Value) : ∀ us : List Value, us.length = f8.ps.length → bindArgs (PySem.W.fnOf f8.name f8.name (defArgs (top 19)) (defBody (top 19)) (defScope (top 19)) .none kV doc pm an cdv ct) ⟨us, []⟩ = pure (f8.ps.zip us)
  | [_, _, _], _ => rfl
theorem k8 (kV doc pm : Value) (an : Option Addr) (cdv ct : Value) : ∀ us : List Value, us.length = f8.ps.length → bindArgs (PySem.W.fnOf f8.name f8.name (defArgs (top 19)) (defBody (top 19)) (defScope (top 19)) .none kV doc pm an cdv ct) ⟨[], f8.ps.zip us⟩ = pure (f8.ps.zip us)
  | [_, _, _], _ => rfl
theorem b9 (kV doc pm : Value) (an : Option Addr) (cdv ct : Value) : ∀ us : List Value, us.length = f9.ps.length → bindArgs (PySem.W.fnOf f9.name f9.name (defArgs (top 20)) (defBody (top 20)) (defScope (top 20)) .none kV doc pm an cdv ct) ⟨us, []⟩ = pure (f9.ps.zip us)
  | [_, _], _ => rfl
theorem k9 (kV doc pm : Value) (an : Option Addr) (cdv ct : Value) : ∀ us : List Value, us.length = f9.ps.length → bindArgs (PySem.W.fnOf f9.name f9.name (defArgs (top 20)) (defBody (top 20)) (defScope (top 20)) .none kV doc pm an cdv ct) ⟨[], f9.ps.zip us⟩ = pure (f9.ps.zip us)
  | [_, _], _ => rfl
theorem b10 (kV doc pm : Value) (an : Option Addr) (cdv ct : Value) : ∀ us : List Value, us.length = f10.ps.length → bindArgs (PySem.W.fnOf f10.name f10.name (defArgs (top 21)) (defBody (top 21)) (defScope (top 21)) .none kV doc pm an cdv ct) ⟨us, []⟩ = pure (f10.ps.zip us)
  | [_, _, _], _ => rfl
theorem k10 (kV doc pm : Value) (an : Option Addr) (cdv ct : Value) : ∀ us : List Value, us.length = f10.ps.length → bindArgs (PySem.W.fnOf f10.name f10.name (defArgs (top 21)) (defBody (top 21)) (defScope (top 21)) .none kV doc pm an cdv ct) ⟨[], f10.ps.zip us⟩ = pure (f10.ps.zip us)
  | [_, _, _], _ => rfl
theorem b11 (kV doc pm : Value) (an : Option Addr) (cdv ct : Value) : ∀ us : List Value, us.length = f11.ps.length → bindArgs (PySem.W.fnOf f11.name f11.name (defArgs (top 22)) (defBody (top 22)) (defScope (top 22)) .none kV doc pm an cdv ct) ⟨us, []⟩ = pure (f11.ps.zip us)
  | [_, _], _ => rfl
theorem k11 (kV doc pm : Value) (an : Option Addr) (cdv ct : Value) : ∀ us : List Value, us.length = f11.ps.length → bindArgs (PySem.W.fnOf f11.name f11.name (defArgs (top 22)) (defBody (top 22)) (defScope (top 22)) .none kV doc pm an cdv ct) ⟨[], f11.ps.zip us⟩ = pure (f11.ps.zip us)
  | [_, _], _ => rfl
theorem b12 (kV doc pm : Value) (an : Option Addr) (cdv ct : Value) : ∀ us : List Value, us.length = f12.ps.length → bindArgs (PySem.W.fnOf f12.name f12.name (defArgs (top 26)) (defBody (top 26)) (defScope (top 26)) .none kV doc pm an cdv ct) ⟨us, []⟩ = pure (f12.ps.zip us)
  | [_, _, _], _ => rfl
theorem k12 (kV doc pm : Value) (an : Option Addr) (cdv ct : Value) : ∀ us : List Value, us.length = f12.ps.length → bindArgs (PySem.W.fnOf f12.name f12.name (defArgs (top 26)) (defBody (top 26)) (defScope (top 26)) .none kV doc pm an cdv ct) ⟨[], f12.ps.zip us⟩ = pure (f12.ps.zip us)
  | [_, _, _], _ => rfl
theorem b13 (kV doc pm : Value) (an : Option Addr) (cdv ct : Value) : ∀ us : List Value, us.length = f13.ps.length → bindArgs (PySem.W.fnOf f13.name f13.name (defArgs (top 27)) (defBody (top 27)) (defScope (top 27)) .none kV doc pm an cdv ct) ⟨us, []⟩ = pure (f13.ps.zip us)
  | [_, _], _ => rfl
theorem k13 (kV doc pm : Value) (an : Option Addr) (cdv ct : Value) : ∀ us : List Value, us.length = f13.ps.length → bindArgs (PySem.W.fnOf f13.name f13.name (defArgs (top 27)) (defBody (top 27)) (defScope (top 27)) .none kV doc pm an cdv ct) ⟨[], f13.ps.zip us⟩ = pure (f13.ps.zip us)
  | [_, _], _ => rfl
theorem b14 (kV doc pm : Value) (an : Option Addr) (cdv ct : Value) : ∀ us : List Value, us.length = f14.ps.length → bindArgs (PySem.W.fnOf f14.name f14.name (defArgs (top 29)) (defBody (top 29)) (defScope (top 29)) .none kV doc pm an cdv ct) ⟨us, []⟩ = pure (f14.ps.zip us)
  | [_, _], _ => rfl
theorem k14 (kV doc pm : Value) (an : Option Addr) (cdv ct : Value) : ∀ us : List Value, us.length = f14.ps.length → bindArgs (PySem.W.fnOf f14.name f14.name (defArgs (top 29)) (defBody (top 29)) (defScope (top 29)) .none kV doc pm an cdv ct) ⟨[], f14.ps.zip us⟩ = pure (f14.ps.zip us)
  | [_, _], _ => rfl
theorem b15 (kV doc pm : Value) (an : Option Addr) (cdv ct : Value) : ∀ us : List Value, us.length = f15.ps.length → bindArgs (PySem.W.fnOf f15.name f15.name (defArgs (top 30)) (defBody (top 30)) (defScope (top 30)) .none kV doc pm an cdv ct) ⟨us, []⟩ = pure (f15.ps.zip us)
  | [_, _], _ => rfl
theorem k15 (kV doc pm : Value) (an : Option Addr) (cdv ct : Value) : ∀ us : List Value, us.length = f15.ps.length → bindArgs (PySem.W.fnOf f15.name f15.name (defArgs (top 30)) (defBody (top 30)) (defScope (top 30)) .none kV doc pm an cdv ct) ⟨[], f15.ps.zip us⟩ = pure (f15.ps.zip us)
  | [_, _], _ => rfl
theorem b16 (kV doc pm : Value) (an : Option Addr) (cdv ct : Value) : ∀ us : List Value, us.length = f16.ps.length → bindArgs (PySem.W.fnOf f16.name f16.name (defArgs (top 31)) (defBody (top 31)) (defScope (top 31)) .none kV doc pm an cdv ct) ⟨us, []⟩ = pure (f16.ps.zip us)
  | [_, _], _ => rfl
theorem k16 (kV doc pm : Value) (an : Option Addr) (cdv ct : Value) : ∀ us : List Value, us.length = f16.ps.length → bindArgs (PySem.W.fnOf f16.name f16.name (defArgs (top 31)) (defBody (top 31)) (defScope (top 31)) .none kV doc pm an cdv ct) ⟨[], f16.ps.zip us⟩ = pure (f16.ps.zip us)
  | [_, _], _ => rfl
theorem b17 (kV doc pm : Value) (an : Option Addr) (cdv ct : Value) : ∀ us : List Value, us.length = f17.ps.length → bindArgs (PySem.W.fnOf f17.name f17.name (defArgs (top 32)) (defBody (top 32)) (defScope (top 32)) .none kV doc pm an cdv ct) ⟨us, []⟩ = pure (f17.ps.zip us)
  | [_, _], _ => rfl
theorem k17 (kV doc pm : Value) (an : Option Addr) (cdv ct : Value) : ∀ us : List Value, us.length = f17.ps.length → bindArgs (PySem.W.fnOf f17.name f17.name (defArgs (top 32)) (defBody (top 32)) (defScope (top 32)) .none kV doc pm an cdv ct) ⟨[], f17.ps.zip us⟩ = pure (f17.ps.zip us)
  | [_, _], _ => rfl
theorem b18 (kV doc pm : Value) (an : Option Addr) (cdv ct : Value) : ∀ us : List Value, us.length = f18.ps.length → bindArgs (PySem.W.fnOf f18.name f18.name (defArgs (top 33)) (defBody (top 33)) (defScope (top 33)) .none kV doc pm an cdv ct) ⟨us, []⟩ = pure (f18.ps.zip us)
  | [_, _], _ => rfl
theorem k18 (kV doc pm : Value) (an : Option Addr) (cdv ct : Value) : ∀ us : List Value, us.length = f18.ps.length → bindArgs (PySem.W.fnOf f18.name f18.name (defArgs (top 33)) (defBody (top 33)) (defScope (top 33)) .none kV doc pm an cdv ct) ⟨[], f18.ps.zip us⟩ = pure (f18.ps.zip us)
  | [_, _], _ => rfl
theorem b19 (kV doc pm : Value) (an : Option Addr) (cdv ct : Value) : ∀ us : List Value, us.length = f19.ps.length → bindArgs (PySem.W.fnOf f19.name f19.name (defArgs (top 34)) (defBody (top 34)) (defScope (top 34)) .none kV doc pm an cdv ct) ⟨us, []⟩ = pure (f19.ps.zip us)
  | [_], _ => rfl
theorem k19 (kV doc pm : Value) (an : Option Addr) (cdv ct : Value) : ∀ us : List Value, us.length = f19.ps.length → bindArgs (PySem.W.fnOf f19.name f19.name (defArgs (top 34)) (defBody (top 34)) (defScope (top 34)) .none kV doc pm an cdv ct) ⟨[], f19.ps.zip us⟩ = pure (f19.ps.zip us)
  | [_], _ => rfl
theorem b20 (kV doc pm : Value) (an : Option Addr) (cdv ct : Value) : ∀ us : List Value, us.length = f20.ps.length → bindArgs (PySem.W.fnOf f20.name f20.name (defArgs (top 35)) (defBody (top 35)) (defScope (top 35)) .none kV doc pm an cdv ct) ⟨us, []⟩ = pure (f20.ps.zip us)
  | [_, _], _ => rfl
theorem k20 (kV doc pm : Value) (an : Option Addr) (cdv ct : Value) : ∀ us : List Value, us.length = f20.ps.length → bindArgs (PySem.W.fnOf f20.name f20.name (defArgs (top 35)) (defBody (top 35)) (defScope (top 35)) .none kV doc pm an cdv ct) ⟨[], f20.ps.zip us⟩ = pure (f20.ps.zip us)
  | [_, _], _ => rfl
theorem b21 (kV doc pm : Value) (an : Option Addr) (cdv ct : Value) : ∀ us : List Value, us.length = f21.ps.length → bindArgs (PySem.W.fnOf f21.name f21.name (defArgs (top 36)) (defBody (top 36)) (defScope (top 36)) .none kV doc pm an cdv ct) ⟨us, []⟩ = pure (f21.ps.zip us)
  | [_, _], _ => rfl
theorem k21 (kV doc pm : Value) (an : Option Addr) (cdv ct : Value) : ∀ us : List Value, us.length = f21.ps.length → bindArgs (PySem.W.fnOf f21.name f21.name (defArgs (top 36)) (defBody (top 36)) (defScope (top 36)) .none kV doc pm an cdv ct) ⟨[], f21.ps.zip us⟩ = pure (f21.ps.zip us)
  | [_, _], _ => rfl
theorem b22 (kV doc pm : Value) (an : Option Addr) (cdv ct : Value) : ∀ us : List Value, us.length = f22.ps.length → bindArgs (PySem.W.fnOf f22.name f22.name (defArgs (top 37)) (defBody (top 37)) (defScope (top 37)) .none kV doc pm an cdv ct) ⟨us, []⟩ = pure (f22.ps.zip us)
  | [_, _], _ => rfl
theorem k22 (kV doc pm : Value) (an : Option Addr) (cdv ct : Value) : ∀ us : List Value, us.length = f22.ps.length → bindArgs (PySem.W.fnOf f22.name f22.name (defArgs (top 37)) (defBody (top 37)) (defScope (top 37)) .none kV doc pm an cdv ct) ⟨[], f22.ps.zip us⟩ = pure (f22.ps.zip us)
  | [_, _], _ => rfl
theorem b23 (kV doc pm : Value) (an : Option Addr) (cdv ct : Value) : ∀ us : List Value, us.length = f23.ps.length → bindArgs (PySem.W.fnOf f23.name f23.name (defArgs (top 38)) (defBody (top 38)) (defScope (top 38)) .none kV doc pm an cdv ct) ⟨us, []⟩ = pure (f23.ps.zip us)
  | [_, _, _], _ => rfl
theorem k23 (kV doc pm : Value) (an : Option Addr) (cdv ct : Value) : ∀ us : List Value, us.length = f23.ps.length → bindArgs (PySem.W.fnOf f23.name f23.name (defArgs (top 38)) (defBody (top 38)) (defScope (top 38)) .none kV doc pm an cdv ct) ⟨[], f23.ps.zip us⟩ = pure (f23.ps.zip us)
  | [_, _, _], _ => rfl
theorem b24 (kV doc pm : Value) (an : Option Addr) (cdv ct : Value) : ∀ us : List Value, us.length = f24.ps.length → bindArgs (PySem.W.fnOf f24.name f24.name (defArgs (top 39)) (defBody (top 39)) (defScope (top 39)) .none kV doc pm an cdv ct) ⟨us, []⟩ = pure (f24.ps.zip us)
  | [_], _ => rfl
theorem k24 (kV doc pm : Value) (an : Option Addr) (cdv ct : Value) : ∀ us : List Value, us.length = f24.ps.length → bindArgs (PySem.W.fnOf f24.name f24.name (defArgs (top 39)) (defBody (top 39)) (defScope (top 39)) .none kV doc pm an cdv ct) ⟨[], f24.ps.zip us⟩ = pure (f24.ps.zip us)
  | [_], _ => rfl
theorem b25 (kV doc pm : Value) (an : Option Addr) (cdv ct : Value) : ∀ us : List Value, us.length = f25.ps.length → bindArgs (PySem.W.fnOf f25.name f25.name (defArgs (top 40)) (defBody (top 40)) (defScope (top 40)) .none kV doc pm an cdv ct) ⟨us, []⟩ = pure (f25.ps.zip us)
  | [_, _], _ => rfl
theorem k25 (kV doc pm : Value) (an : Option Addr) (cdv ct : Value) : ∀ us : List Value, us.length = f25.ps.length → bindArgs (PySem.W.fnOf f25.name f25.name (defArgs (top 40)) (defBody (top 40)) (defScope (top 40)) .none kV doc pm an cdv ct) ⟨[], f25.ps.zip us⟩ = pure (f25.ps.zip us)
  | [_, _], _ => rfl
theorem b26 (kV doc pm : Value) (an : Option Addr) (cdv ct : Value) : ∀ us : List Value, us.length = f26.ps.length → bindArgs (PySem.W.fnOf f26.name f26.name (defArgs (top 41)) (defBody (top 41)) (defScope (top 41)) .none kV doc pm an cdv ct) ⟨us, []⟩ = pure (f26.ps.zip us)
  | [_, _], _ => rfl
theorem k26 (kV doc pm : Value) (an : Option Addr) (cdv ct : Value) : ∀ us : List Value, us.length = f26.ps.length → bindArgs (PySem.W.fnOf f26.name f26.name (defArgs (top 41)) (defBody (top 41)) (defScope (top 41)) .none kV doc pm an cdv ct) ⟨[], f26.ps.zip us⟩ = pure (f26.ps.zip us)
  | [_, _], _ => rfl
theorem b27 (kV doc pm : Value) (an : Option Addr) (cdv ct : Value) : ∀ us : List Value, us.length = f27.ps.length → bindArgs (PySem.W.fnOf f27.name f27.name (defArgs (top 42)) (defBody (top 42)) (defScope (top 42)) .none kV doc pm an cdv ct) ⟨us, []⟩ = pure (f27.ps.zip us)
  | [_, _, _], _ => rfl
theorem k27 (kV doc pm : Value) (an : Option Addr) (cdv ct : Value) : ∀ us : List Value, us.length = f27.ps.length → bindArgs (PySem.W.fnOf f27.name f27.name (defArgs (top 42)) (defBody (top 42)) (defScope (top 42)) .none kV doc pm an cdv ct) ⟨[], f27.ps.zip us⟩ = pure (f27.ps.zip us)
  | [_, _, _], _ => rfl
theorem b28 (kV doc pm : Value) (an : Option Addr) (cdv ct : Value) : ∀ us : List Value, us.length = f28.ps.length → bindArgs (PySem.W.fnOf f28.name f28.name (defArgs (top 43)) (defBody (top 43)) (defScope (top 43)) .none kV doc pm an cdv ct) ⟨us, []⟩ = pure (f28.ps.zip us)
  | [_, _], _ => rfl
theorem k28 (kV doc pm : Value) (an : Option Addr) (cdv ct : Value) : ∀ us : List Value, us.length = f28.ps.length → bindArgs (PySem.W.fnOf f28.name f28.name (defArgs (top 43)) (defBody (top 43)) (defScope (top 43)) .none kV doc pm an cdv ct) ⟨[], f28.ps.zip us⟩ = pure (f28.ps.zip us)
  | [_, _], _ => rfl
theorem b29 (kV doc pm : Value) (an : Option Addr) (cdv ct : Value) : ∀ us : List Value, us.length = f29.ps.length → bindArgs (PySem.W.fnOf f29.name f29.name (defArgs (top 44)) (defBody (top 44)) (defScope (top 44)) .none kV doc pm an cdv ct) ⟨us, []⟩ = pure (f29.ps.zip us)
  | [_, _], _ => rfl
theorem k29 (kV doc pm : Value) (an : Option Addr) (cdv ct : Value) : ∀ us : List Value, us.length = f29.ps.length → bindArgs (PySem.W.fnOf f29.name f29.name (defArgs (top 44)) (defBody (top 44)) (defScope (top 44)) .none kV doc pm an cdv ct) ⟨[], f29.ps.zip us⟩ = pure (f29.ps.zip us)
  | [_, _], _ => rfl
theorem b30 (kV doc pm : Value) (an : Option Addr) (cdv ct : Value) : ∀ us : List Value, us.length = f30.ps.length → bindArgs (PySem.W.fnOf f30.name f30.name (defArgs (top 45)) (defBody (top 45)) (defScope (top 45)) .none kV doc pm an cdv ct) ⟨us, []⟩ = pure (f30.ps.zip us)
  | [_], _ => rfl
theorem k30 (kV doc pm : Value) (an : Option Addr) (cdv ct : Value) : ∀ us : List Value, us.length = f30.ps.length → bindArgs (PySem.W.fnOf f30.name f30.name (defArgs (top 45)) (defBody (top 45)) (defScope (top 45)) .none kV doc pm an cdv ct) ⟨[], f30.ps.zip us⟩ = pure (f30.ps.zip us)
  | [_], _ => rfl
theorem b31 (kV doc pm : Value) (an : Option Addr) (cdv ct : Value) : ∀ us : List Value, us.length = f31.ps.length → bindArgs (PySem.W.fnOf f31.name f31.name (defArgs (top 46)) (defBody (top 46)) (defScope (top 46)) .none kV doc pm an cdv ct) ⟨us, []⟩ = pure (f31.ps.zip us)
  | [_], _ => rfl
theorem k31 (kV doc pm : Value) (an : Option Addr) (cdv ct : Value) : ∀ us : List Value, us.length = f31.ps.length → bindArgs (PySem.W.fnOf f31.name f31.name (defArgs (top 46)) (defBody (top 46)) (defScope (top 46)) .none kV doc pm an cdv ct) ⟨[], f31.ps.zip us⟩ = pure (f31.ps.zip us)
  | [_], _ => rfl
theorem b32 (kV doc pm : Value) (an : Option Addr) (cdv ct : Value) : ∀ us : List Value, us.length = f32.ps.length → bindArgs (PySem.W.fnOf f32.name f32.name (defArgs (top 47)) (defBody (top 47)) (defScope (top 47)) .none kV doc pm an cdv ct) ⟨us, []⟩ = pure (f32.ps.zip us)
  | [_], _ => rfl
theorem k32 (kV doc pm : Value) (an : Option Addr) (cdv ct : Value) : ∀ us : List Value, us.length = f32.ps.length → bindArgs (PySem.W.fnOf f32.name f32.name (defArgs (top 47)) (defBody (top 47)) (defScope (top 47)) .none kV doc pm an cdv ct) ⟨[], f32.ps.zip us⟩ = pure (f32.ps.zip us)
  | [_], _ => rfl
theorem b33 (kV doc pm : Value) (an : Option Addr) (cdv ct : Value) : ∀ us : List Value, us.length = f33.ps.length → bindArgs (PySem.W.fnOf f33.name f33.name (defArgs (top 48)) (defBody (top 48)) (defScope (top 48)) .none kV doc pm an cdv ct) ⟨us, []⟩ = pure (f33.ps.zip us)
  | [], _ => rfl
theorem k33 (kV doc pm : Value) (an : Option Addr) (cdv ct : Value) : ∀ us : List Value, us.length = f33.ps.length → bindArgs (PySem.W.fnOf f33.name f33.name (defArgs (top 48)) (defBody (top 48)) (defScope (top 48)) .none kV doc pm an cdv ct) ⟨[], f33.ps.zip us⟩ = pure (f33.ps.zip us)
  | [], _ => rfl
theorem b34 (kV doc pm : Value) (an : Option Addr) (cdv ct : Value) : ∀ us : List Value, us.length = f34.ps.length → bindArgs (PySem.W.fnOf f34.name f34.name (defArgs (top 49)) (defBody (top 49)) (defScope (top 49)) .none kV doc pm an cdv ct) ⟨us, []⟩ = pure (f34.ps.zip us)
  | [_], _ => rfl
theorem k34 (kV doc pm : Value) (an : Option Addr) (cdv ct : Value) : ∀ us : List Value, us.length = f34.ps.length → bindArgs (PySem.W.fnOf f34.name f34.name (defArgs (top 49)) (defBody (top 49)) (defScope (top 49)) .none kV doc pm an cdv ct) ⟨[], f34.ps.zip us⟩ = pure (f34.ps.zip us)
  | [_], _ => rfl
theorem all_mk {K : PySem.W.Frag} {mg : Str → Option Value} {h : Heap} (X : K.In h) (G : h.Ns mainGlobals mg) {g0 g1 g2 g3 g4 g5 g6 g7 g8 g9 g10 g11 g12 g13 g14 g15 g16 g17 g18 g19 g20 g21 g22 g23 g24 g25 g26 g27 g28 g29 g30 g31 g32 g33 g34 : Addr}
    {oc0 kv0 dc0 pm0 cd0 ct0 oc1 kv1 dc1 pm1 cd1 ct1 oc2 kv2 dc2 pm2 cd2 ct2 oc3 kv3 dc3 pm3 cd3 ct3 oc4 kv4 dc4 pm4 cd4 ct4 oc5 kv5 dc5 pm5 cd5 ct5 oc6 kv6 dc6 pm6 cd6 ct6 oc7 kv7 dc7 pm7 cd7 ct7 oc8 kv8 dc8 pm8 cd8 ct8 oc9 kv9 dc9 pm9 cd9 ct9 oc10 kv10 dc10 pm10 cd10 ct10 oc11 kv11 dc11 pm11 cd11 ct11 oc12 kv12 dc12 pm12 cd12 ct12 oc13 kv13 dc13 pm13 cd13 ct13 oc14 kv14 dc14 pm14 cd14 ct14 oc15 kv15 dc15 pm15 cd15 ct15 oc16 kv16 dc16 pm16 cd16 ct16 oc17 kv17 dc17 pm17 cd17 ct17 oc18 kv18 dc18 pm18 cd18 ct18 oc19 kv19 dc19 pm19 cd19 ct19 oc20 kv20 dc20 pm20 cd20 ct20 oc21 kv21 dc21 pm21 cd21 ct21 oc22 kv22 dc22 pm22 cd22 ct22 oc23 kv23 dc23 pm23 cd23 ct23 oc24 kv24 dc24 pm24 cd24 ct24 oc25 kv25 dc25 pm25 cd25 ct25 oc26 kv26 dc26 pm26 cd26 ct26 oc27 kv27 dc27 pm27 cd27 ct27 oc28 kv28 dc28 pm28 cd28 ct28 oc29 kv29 dc29 pm29 cd29 ct29 oc30 kv30 dc30 pm30 cd30 ct30 oc31 kv31 dc31 pm31 cd31 ct31 oc32 kv32 dc32 pm32 cd32 ct32 oc33 kv33 dc33 pm33 cd33 ct33 oc34 kv34 dc34 pm34 cd34 ct34 : Value}
    {od0 an0 od1 an1 od2 an2 od3 an3 od4 an4 od5 an5 od6 an6 od7 an7 od8 an8 od9 an9 od10 an10 od11 an11 od12 an12 od13 an13 od14 an14 od15 an15 od16 an16 od17 an17 od18 an18 od19 an19 od20 an20 od21 an21 od22 an22 od23 an23 od24 an24 od25 an25 od26 an26 od27 an27 od28 an28 od29 an29 od30 an30 od31 an31 od32 an32 od33 an33 od34 an34 : Option Addr}
    {sl0 sl1 sl2 sl3 sl4 sl5 sl6 sl7 sl8 sl9 sl10 sl11 sl12 sl13 sl14 sl15 sl16 sl17 sl18 sl19 sl20 sl21 sl22 sl23 sl24 sl25 sl26 sl27 sl28 sl29 sl30 sl31 sl32 sl33 sl34 : Array (Option Value)}
    {t0 t1 t2 t3 t4 : Tok}
    (a0 : PySem.W.nsIn K mainGlobals "is_integer" = some (some (.ref g0))) (l0 : K.lookup g0 = some ⟨oc0, od0, .func (PySem.W.fnOf "is_integer" "is_integer" (defArgs (top 7)) (defBody (top 7)) (defScope (top 7)) .none kv0 dc0 pm0 an0 cd0 ct0), sl0⟩) (e0 : PySem.W.codeIn K cd0 "is_integer" = true) (p0 : PySem.W.keepIn K (.ref g0) = true)
    (a1 : PySem.W.nsIn K mainGlobals "is_between" = some (some (.ref g1))) (l1 : K.lookup g1 = some ⟨oc1, od1, .func (PySem.W.fnOf "is_between" "is_between" (defArgs (top 8)) (defBody (top 8)) (defScope (top 8)) .none kv1 dc1 pm1 an1 cd1 ct1), sl1⟩) (e1 : PySem.W.codeIn K cd1 "is_between" = true) (p1 : PySem.W.keepIn K (.ref g1) = true)
    (a2 : PySem.W.nsIn K mainGlobals "common" = some (some (.ref g2))) (l2 : K.lookup g2 = some ⟨oc2, od2, .func (PySem.W.fnOf "common" "common" (defArgs (top 9)) (defBody (top 9)) (defScope (top 9)) .none kv2 dc2 pm2 an2 cd2 ct2), sl2⟩) (e2 : PySem.W.codeIn K cd2 "common" = true) (p2 : PySem.W.keepIn K (.ref g2) = true)
    (a3 : PySem.W.nsIn K mainGlobals "reduced" = some (some (.ref g3))) (l3 : K.lookup g3 = some ⟨oc3, od3, .func (PySem.W.fnOf "reduced" "reduced" (defArgs (top 10)) (defBody (top 10)) (defScope (top 10)) .none kv3 dc3 pm3 an3 cd3 ct3), sl3⟩) (e3 : PySem.W.codeIn K cd3 "reduced" = true) (p3 : PySem.W.keepIn K (.ref g3) = true)
    (a4 : PySem.W.nsIn K mainGlobals "is_fraction" = some (some (.ref g4))) (l4 : K.lookup g4 = some ⟨oc4, od4, .func (PySem.W.fnOf "is_fraction" "is_fraction" (defArgs (top 11)) (defBody (top 11)) (defScope (top 11)) .none kv4 dc4 pm4 an4 cd4 ct4), sl4⟩) (e4 : PySem.W.codeIn K cd4 "is_fraction" = true) (p4 : PySem.W.keepIn K (.ref g4) = true)
    (a5 : PySem.W.nsIn K mainGlobals "rows_by" = some (some (.ref g5))) (l5 : K.lookup g5 = some ⟨oc5, od5, .func (PySem.W.fnOf "rows_by" "rows_by" (defArgs (top 16)) (defBody (top 16)) (defScope (top 16)) .none kv5 dc5 pm5 an5 cd5 ct5), sl5⟩) (e5 : PySem.W.codeIn K cd5 "rows_by" = true) (p5 : PySem.W.keepIn K (.ref g5) = true)
    (a6 : PySem.W.nsIn K mainGlobals "all_rows" = some (some (.ref g6))) (l6 : K.lookup g6 = some ⟨oc6, od6, .func (PySem.W.fnOf "all_rows" "all_rows" (defArgs (top 17)) (defBody (top 17)) (defScope (top 17)) .none kv6 dc6 pm6 an6 cd6 ct6), sl6⟩) (e6 : PySem.W.codeIn K cd6 "all_rows" = true) (p6 : PySem.W.keepIn K (.ref g6) = true)
    (a7 : PySem.W.nsIn K mainGlobals "counted" = some (some (.ref g7))) (l7 : K.lookup g7 = some ⟨oc7, od7, .func (PySem.W.fnOf "counted" "counted" (defArgs (top 18)) (defBody (top 18)) (defScope (top 18)) .none kv7 dc7 pm7 an7 cd7 ct7), sl7⟩) (e7 : PySem.W.codeIn K cd7 "counted" = true) (p7 : PySem.W.keepIn K (.ref g7) = true)
    (a8 : PySem.W.nsIn K mainGlobals "shifted" = some (some (.ref g8))) (l8 : K.lookup g8 = some ⟨oc8, od8, .func (PySem.W.fnOf "shifted" "shifted" (defArgs (top 19)) (defBody (top 19)) (defScope (top 19)) .none kv8 dc8 pm8 an8 cd8 ct8), sl8⟩) (e8 : PySem.W.codeIn K cd8 "shifted" = true) (p8 : PySem.W.keepIn K (.ref g8) = true)
    (a9 : PySem.W.nsIn K mainGlobals "taken_out" = some (some (.ref g9))) (l9 : K.lookup g9 = some ⟨oc9, od9, .func (PySem.W.fnOf "taken_out" "taken_out" (defArgs (top 20)) (defBody (top 20)) (defScope (top 20)) .none kv9 dc9 pm9 an9 cd9 ct9), sl9⟩) (e9 : PySem.W.codeIn K cd9 "taken_out" = true) (p9 : PySem.W.keepIn K (.ref g9) = true)
    (a10 : PySem.W.nsIn K mainGlobals "share_of" = some (some (.ref g10))) (l10 : K.lookup g10 = some ⟨oc10, od10, .func (PySem.W.fnOf "share_of" "share_of" (defArgs (top 21)) (defBody (top 21)) (defScope (top 21)) .none kv10 dc10 pm10 an10 cd10 ct10), sl10⟩) (e10 : PySem.W.codeIn K cd10 "share_of" = true) (p10 : PySem.W.keepIn K (.ref g10) = true)
    (a11 : PySem.W.nsIn K mainGlobals "great" = some (some (.ref g11))) (l11 : K.lookup g11 = some ⟨oc11, od11, .func (PySem.W.fnOf "great" "great" (defArgs (top 22)) (defBody (top 22)) (defScope (top 22)) .none kv11 dc11 pm11 an11 cd11 ct11), sl11⟩) (e11 : PySem.W.codeIn K cd11 "great" = true) (p11 : PySem.W.keepIn K (.ref g11) = true)
    (a12 : PySem.W.nsIn K mainGlobals "joins" = some (some (.ref g12))) (l12 : K.lookup g12 = some ⟨oc12, od12, .func (PySem.W.fnOf "joins" "joins" (defArgs (top 26)) (defBody (top 26)) (defScope (top 26)) .none kv12 dc12 pm12 an12 cd12 ct12), sl12⟩) (e12 : PySem.W.codeIn K cd12 "joins" = true) (p12 : PySem.W.keepIn K (.ref g12) = true)
    (a13 : PySem.W.nsIn K mainGlobals "quota_by" = some (some (.ref g13))) (l13 : K.lookup g13 = some ⟨oc13, od13, .func (PySem.W.fnOf "quota_by" "quota_by" (defArgs (top 27)) (defBody (top 27)) (defScope (top 27)) .none kv13 dc13 pm13 an13 cd13 ct13), sl13⟩) (e13 : PySem.W.codeIn K cd13 "quota_by" = true) (p13 : PySem.W.keepIn K (.ref g13) = true)
    (a14 : PySem.W.nsIn K mainGlobals "_law_pot" = some (some (.ref g14))) (l14 : K.lookup g14 = some ⟨oc14, od14, .func (PySem.W.fnOf "_law_pot" "_law_pot" (defArgs (top 29)) (defBody (top 29)) (defScope (top 29)) .none kv14 dc14 pm14 an14 cd14 ct14), sl14⟩) (e14 : PySem.W.codeIn K cd14 "_law_pot" = true) (p14 : PySem.W.keepIn K (.ref g14) = true)
    (a15 : PySem.W.nsIn K mainGlobals "_law_take" = some (some (.ref g15))) (l15 : K.lookup g15 = some ⟨oc15, od15, .func (PySem.W.fnOf "_law_take" "_law_take" (defArgs (top 30)) (defBody (top 30)) (defScope (top 30)) .none kv15 dc15 pm15 an15 cd15 ct15), sl15⟩) (e15 : PySem.W.codeIn K cd15 "_law_take" = true) (p15 : PySem.W.keepIn K (.ref g15) = true)
    (a16 : PySem.W.nsIn K mainGlobals "_law_of" = some (some (.ref g16))) (l16 : K.lookup g16 = some ⟨oc16, od16, .func (PySem.W.fnOf "_law_of" "_law_of" (defArgs (top 31)) (defBody (top 31)) (defScope (top 31)) .none kv16 dc16 pm16 an16 cd16 ct16), sl16⟩) (e16 : PySem.W.codeIn K cd16 "_law_of" = true) (p16 : PySem.W.keepIn K (.ref g16) = true)
    (a17 : PySem.W.nsIn K mainGlobals "_law_cells" = some (some (.ref g17))) (l17 : K.lookup g17 = some ⟨oc17, od17, .func (PySem.W.fnOf "_law_cells" "_law_cells" (defArgs (top 32)) (defBody (top 32)) (defScope (top 32)) .none kv17 dc17 pm17 an17 cd17 ct17), sl17⟩) (e17 : PySem.W.codeIn K cd17 "_law_cells" = true) (p17 : PySem.W.keepIn K (.ref g17) = true)
    (a18 : PySem.W.nsIn K mainGlobals "_law_held" = some (some (.ref g18))) (l18 : K.lookup g18 = some ⟨oc18, od18, .func (PySem.W.fnOf "_law_held" "_law_held" (defArgs (top 33)) (defBody (top 33)) (defScope (top 33)) .none kv18 dc18 pm18 an18 cd18 ct18), sl18⟩) (e18 : PySem.W.codeIn K cd18 "_law_held" = true) (p18 : PySem.W.keepIn K (.ref g18) = true)
    (a19 : PySem.W.nsIn K mainGlobals "_law_size" = some (some (.ref g19))) (l19 : K.lookup g19 = some ⟨oc19, od19, .func (PySem.W.fnOf "_law_size" "_law_size" (defArgs (top 34)) (defBody (top 34)) (defScope (top 34)) .none kv19 dc19 pm19 an19 cd19 ct19), sl19⟩) (e19 : PySem.W.codeIn K cd19 "_law_size" = true) (p19 : PySem.W.keepIn K (.ref g19) = true)
    (a20 : PySem.W.nsIn K mainGlobals "_law_common" = some (some (.ref g20))) (l20 : K.lookup g20 = some ⟨oc20, od20, .func (PySem.W.fnOf "_law_common" "_law_common" (defArgs (top 35)) (defBody (top 35)) (defScope (top 35)) .none kv20 dc20 pm20 an20 cd20 ct20), sl20⟩) (e20 : PySem.W.codeIn K cd20 "_law_common" = true) (p20 : PySem.W.keepIn K (.ref g20) = true)
    (a21 : PySem.W.nsIn K mainGlobals "_law_part" = some (some (.ref g21))) (l21 : K.lookup g21 = some ⟨oc21, od21, .func (PySem.W.fnOf "_law_part" "_law_part" (defArgs (top 36)) (defBody (top 36)) (defScope (top 36)) .none kv21 dc21 pm21 an21 cd21 ct21), sl21⟩) (e21 : PySem.W.codeIn K cd21 "_law_part" = true) (p21 : PySem.W.keepIn K (.ref g21) = true)
    (a22 : PySem.W.nsIn K mainGlobals "_law_plus" = some (some (.ref g22))) (l22 : K.lookup g22 = some ⟨oc22, od22, .func (PySem.W.fnOf "_law_plus" "_law_plus" (defArgs (top 37)) (defBody (top 37)) (defScope (top 37)) .none kv22 dc22 pm22 an22 cd22 ct22), sl22⟩) (e22 : PySem.W.codeIn K cd22 "_law_plus" = true) (p22 : PySem.W.keepIn K (.ref g22) = true)
    (a23 : PySem.W.nsIn K mainGlobals "_law_swings" = some (some (.ref g23))) (l23 : K.lookup g23 = some ⟨oc23, od23, .func (PySem.W.fnOf "_law_swings" "_law_swings" (defArgs (top 38)) (defBody (top 38)) (defScope (top 38)) .none kv23 dc23 pm23 an23 cd23 ct23), sl23⟩) (e23 : PySem.W.codeIn K cd23 "_law_swings" = true) (p23 : PySem.W.keepIn K (.ref g23) = true)
    (a24 : PySem.W.nsIn K mainGlobals "_law_product" = some (some (.ref g24))) (l24 : K.lookup g24 = some ⟨oc24, od24, .func (PySem.W.fnOf "_law_product" "_law_product" (defArgs (top 39)) (defBody (top 39)) (defScope (top 39)) .none kv24 dc24 pm24 an24 cd24 ct24), sl24⟩) (e24 : PySem.W.codeIn K cd24 "_law_product" = true) (p24 : PySem.W.keepIn K (.ref g24) = true)
    (a25 : PySem.W.nsIn K mainGlobals "_law_pivots" = some (some (.ref g25))) (l25 : K.lookup g25 = some ⟨oc25, od25, .func (PySem.W.fnOf "_law_pivots" "_law_pivots" (defArgs (top 40)) (defBody (top 40)) (defScope (top 40)) .none kv25 dc25 pm25 an25 cd25 ct25), sl25⟩) (e25 : PySem.W.codeIn K cd25 "_law_pivots" = true) (p25 : PySem.W.keepIn K (.ref g25) = true)
    (a26 : PySem.W.nsIn K mainGlobals "_law_needed" = some (some (.ref g26))) (l26 : K.lookup g26 = some ⟨oc26, od26, .func (PySem.W.fnOf "_law_needed" "_law_needed" (defArgs (top 41)) (defBody (top 41)) (defScope (top 41)) .none kv26 dc26 pm26 an26 cd26 ct26), sl26⟩) (e26 : PySem.W.codeIn K cd26 "_law_needed" = true) (p26 : PySem.W.keepIn K (.ref g26) = true)
    (a27 : PySem.W.nsIn K mainGlobals "_law_shares" = some (some (.ref g27))) (l27 : K.lookup g27 = some ⟨oc27, od27, .func (PySem.W.fnOf "_law_shares" "_law_shares" (defArgs (top 42)) (defBody (top 42)) (defScope (top 42)) .none kv27 dc27 pm27 an27 cd27 ct27), sl27⟩) (e27 : PySem.W.codeIn K cd27 "_law_shares" = true) (p27 : PySem.W.keepIn K (.ref g27) = true)
    (a28 : PySem.W.nsIn K mainGlobals "_law_quota" = some (some (.ref g28))) (l28 : K.lookup g28 = some ⟨oc28, od28, .func (PySem.W.fnOf "_law_quota" "_law_quota" (defArgs (top 43)) (defBody (top 43)) (defScope (top 43)) .none kv28 dc28 pm28 an28 cd28 ct28), sl28⟩) (e28 : PySem.W.codeIn K cd28 "_law_quota" = true) (p28 : PySem.W.keepIn K (.ref g28) = true)
    (a29 : PySem.W.nsIn K mainGlobals "_law_by_lots" = some (some (.ref g29))) (l29 : K.lookup g29 = some ⟨oc29, od29, .func (PySem.W.fnOf "_law_by_lots" "_law_by_lots" (defArgs (top 44)) (defBody (top 44)) (defScope (top 44)) .none kv29 dc29 pm29 an29 cd29 ct29), sl29⟩) (e29 : PySem.W.codeIn K cd29 "_law_by_lots" = true) (p29 : PySem.W.keepIn K (.ref g29) = true)
    (a30 : PySem.W.nsIn K mainGlobals "_law_fraction" = some (some (.ref g30))) (l30 : K.lookup g30 = some ⟨oc30, od30, .func (PySem.W.fnOf "_law_fraction" "_law_fraction" (defArgs (top 45)) (defBody (top 45)) (defScope (top 45)) .none kv30 dc30 pm30 an30 cd30 ct30), sl30⟩) (e30 : PySem.W.codeIn K cd30 "_law_fraction" = true) (p30 : PySem.W.keepIn K (.ref g30) = true)
    (a31 : PySem.W.nsIn K mainGlobals "_law_are_few_right" = some (some (.ref g31))) (l31 : K.lookup g31 = some ⟨oc31, od31, .func (PySem.W.fnOf "_law_are_few_right" "_law_are_few_right" (defArgs (top 46)) (defBody (top 46)) (defScope (top 46)) .none kv31 dc31 pm31 an31 cd31 ct31), sl31⟩) (e31 : PySem.W.codeIn K cd31 "_law_are_few_right" = true) (p31 : PySem.W.keepIn K (.ref g31) = true)
    (a32 : PySem.W.nsIn K mainGlobals "_law_are_many_right" = some (some (.ref g32))) (l32 : K.lookup g32 = some ⟨oc32, od32, .func (PySem.W.fnOf "_law_are_many_right" "_law_are_many_right" (defArgs (top 47)) (defBody (top 47)) (defScope (top 47)) .none kv32 dc32 pm32 an32 cd32 ct32), sl32⟩) (e32 : PySem.W.codeIn K cd32 "_law_are_many_right" = true) (p32 : PySem.W.keepIn K (.ref g32) = true)
    (a33 : PySem.W.nsIn K mainGlobals "_law_is_known_right" = some (some (.ref g33))) (l33 : K.lookup g33 = some ⟨oc33, od33, .func (PySem.W.fnOf "_law_is_known_right" "_law_is_known_right" (defArgs (top 48)) (defBody (top 48)) (defScope (top 48)) .none kv33 dc33 pm33 an33 cd33 ct33), sl33⟩) (e33 : PySem.W.codeIn K cd33 "_law_is_known_right" = true) (p33 : PySem.W.keepIn K (.ref g33) = true)
    (a34 : PySem.W.nsIn K mainGlobals "law" = some (some (.ref g34))) (l34 : K.lookup g34 = some ⟨oc34, od34, .func (PySem.W.fnOf "law" "law" (defArgs (top 49)) (defBody (top 49)) (defScope (top 49)) .none kv34 dc34 pm34 an34 cd34 ct34), sl34⟩) (e34 : PySem.W.codeIn K cd34 "law" = true) (p34 : PySem.W.keepIn K (.ref g34) = true)
    (z0 : PySem.W.nsIn K mainGlobals "abs" = some none)
    (z1 : PySem.W.nsIn K mainGlobals "all" = some none)
    (z2 : PySem.W.nsIn K mainGlobals "bool" = some none)
    (z3 : PySem.W.nsIn K mainGlobals "dict" = some none)
    (z4 : PySem.W.nsIn K mainGlobals "enumerate" = some none)
    (z5 : PySem.W.nsIn K mainGlobals "int" = some none)
    (z6 : PySem.W.nsIn K mainGlobals "isinstance" = some none)
    (z7 : PySem.W.nsIn K mainGlobals "len" = some none)
    (z8 : PySem.W.nsIn K mainGlobals "list" = some none)
    (z9 : PySem.W.nsIn K mainGlobals "max" = some none)
    (z10 : PySem.W.nsIn K mainGlobals "min" = some none)
    (z11 : PySem.W.nsIn K mainGlobals "range" = some none)
    (z12 : PySem.W.nsIn K mainGlobals "repr" = some none)
    (z13 : PySem.W.nsIn K mainGlobals "set" = some none)
    (z14 : PySem.W.nsIn K mainGlobals "sorted" = some none)
    (z15 : PySem.W.nsIn K mainGlobals "sum" = some none)
    (z16 : PySem.W.nsIn K mainGlobals "tuple" = some none)
    (z17 : PySem.W.nsIn K mainGlobals "zip" = some none)
    (y0 : PySem.W.nsIn K mainGlobals "MOST_GREAT" = some (some (.int 40 t0)))
    (y1 : PySem.W.nsIn K mainGlobals "MOST_GREAT_WEIGHT" = some (some (.int 999 t1)))
    (y2 : PySem.W.nsIn K mainGlobals "MOST_TOGETHER" = some (some (.int 4000 t2)))
    (y3 : PySem.W.nsIn K mainGlobals "MOST_WEIGHT" = some (some (.int 100 t3)))
    (y4 : PySem.W.nsIn K mainGlobals "MOST_WEIGHTS" = some (some (.int 20 t4))) : Tab K mg prm [] where
  ok := fun f fn hf => match f, hf with
    | 0, hf => by
      cases hf
      exact ⟨top 7, ⟨⟨_, _, fun_mk l0 e0 p0, PySem.W.mg_of X G a0⟩, s0, b0, k0⟩, c0⟩
    | 1, hf => by
      cases hf
      exact ⟨top 8, ⟨⟨_, _, fun_mk l1 e1 p1, PySem.W.mg_of X G a1⟩, s1, b1, k1⟩, c1⟩
    | 2, hf => by
      cases hf
      exact ⟨top 9, ⟨⟨_, _, fun_mk l2 e2 p2, PySem.W.mg_of X G a2⟩, s2, b2, k2⟩, c2⟩
    | 3, hf => by
      cases hf
      exact ⟨top 10, ⟨⟨_, _, fun_mk l3 e3 p3, PySem.W.mg_of X G a3⟩, s3, b3, k3⟩, c3⟩
    | 4, hf => by
      cases hf
      exact ⟨top 11, ⟨⟨_, _, fun_mk l4 e4 p4, PySem.W.mg_of X G a4⟩, s4, b4, k4⟩, c4⟩
    | 5, hf => by
      cases hf
      exact ⟨top 16, ⟨⟨_, _, fun_mk l5 e5 p5, PySem.W.mg_of X G a5⟩, s5, b5, k5⟩, c5⟩
    | 6, hf => by
      cases hf
      exact ⟨top 17, ⟨⟨_, _, fun_mk l6 e6 p6, PySem.W.mg_of X G a6⟩, s6, b6, k6⟩, c6⟩
    | 7, hf => by
      cases hf
      exact ⟨top 18, ⟨⟨_, _, fun_mk l7 e7 p7, PySem.W.mg_of X G a7⟩, s7, b7, k7⟩, c7⟩
    | 8, hf => by
      cases hf
      exact ⟨top 19, ⟨⟨_, _, fun_mk l8 e8 p8, PySem.W.mg_of X G a8⟩, s8, b8, k8⟩, c8⟩
    | 9, hf => by
      cases hf
      exact ⟨top 20, ⟨⟨_, _, fun_mk l9 e9 p9, PySem.W.mg_of X G a9⟩, s9, b9, k9⟩, c9⟩
    | 10, hf => by
      cases hf
      exact ⟨top 21, ⟨⟨_, _, fun_mk l10 e10 p10, PySem.W.mg_of X G a10⟩, s10, b10, k10⟩, c10⟩
    | 11, hf => by
      cases hf
      exact ⟨top 22, ⟨⟨_, _, fun_mk l11 e11 p11, PySem.W.mg_of X G a11⟩, s11, b11, k11⟩, c11⟩
    | 12, hf => by
      cases hf
      exact ⟨top 26, ⟨⟨_, _, fun_mk l12 e12 p12, PySem.W.mg_of X G a12⟩, s12, b12, k12⟩, c12⟩
    | 13, hf => by
      cases hf
      exact ⟨top 27, ⟨⟨_, _, fun_mk l13 e13 p13, PySem.W.mg_of X G a13⟩, s13, b13, k13⟩, c13⟩
    | 14, hf => by
      cases hf
      exact ⟨top 29, ⟨⟨_, _, fun_mk l14 e14 p14, PySem.W.mg_of X G a14⟩, s14, b14, k14⟩, c14⟩
    | 15, hf => by
      cases hf
      exact ⟨top 30, ⟨⟨_, _, fun_mk l15 e15 p15, PySem.W.mg_of X G a15⟩, s15, b15, k15⟩, c15⟩
    | 16, hf => by
      cases hf
      exact ⟨top 31, ⟨⟨_, _, fun_mk l16 e16 p16, PySem.W.mg_of X G a16⟩, s16, b16, k16⟩, c16⟩
    | 17, hf => by
      cases hf
      exact ⟨top 32, ⟨⟨_, _, fun_mk l17 e17 p17, PySem.W.mg_of X G a17⟩, s17, b17, k17⟩, c17⟩
    | 18, hf => by
      cases hf
      exact ⟨top 33, ⟨⟨_, _, fun_mk l18 e18 p18, PySem.W.mg_of X G a18⟩, s18, b18, k18⟩, c18⟩
    | 19, hf => by
      cases hf
      exact ⟨top 34, ⟨⟨_, _, fun_mk l19 e19 p19, PySem.W.mg_of X G a19⟩, s19, b19, k19⟩, c19⟩
    | 20, hf => by
      cases hf
      exact ⟨top 35, ⟨⟨_, _, fun_mk l20 e20 p20, PySem.W.mg_of X G a20⟩, s20, b20, k20⟩, c20⟩
    | 21, hf => by
      cases hf
      exact ⟨top 36, ⟨⟨_, _, fun_mk l21 e21 p21, PySem.W.mg_of X G a21⟩, s21, b21, k21⟩, c21⟩
    | 22, hf => by
      cases hf
      exact ⟨top 37, ⟨⟨_, _, fun_mk l22 e22 p22, PySem.W.mg_of X G a22⟩, s22, b22, k22⟩, c22⟩
    | 23, hf => by
      cases hf
      exact ⟨top 38, ⟨⟨_, _, fun_mk l23 e23 p23, PySem.W.mg_of X G a23⟩, s23, b23, k23⟩, c23⟩
    | 24, hf => by
      cases hf
      exact ⟨top 39, ⟨⟨_, _, fun_mk l24 e24 p24, PySem.W.mg_of X G a24⟩, s24, b24, k24⟩, c24⟩
    | 25, hf => by
      cases hf
      exact ⟨top 40, ⟨⟨_, _, fun_mk l25 e25 p25, PySem.W.mg_of X G a25⟩, s25, b25, k25⟩, c25⟩
    | 26, hf => by
      cases hf
      exact ⟨top 41, ⟨⟨_, _, fun_mk l26 e26 p26, PySem.W.mg_of X G a26⟩, s26, b26, k26⟩, c26⟩
    | 27, hf => by
      cases hf
      exact ⟨top 42, ⟨⟨_, _, fun_mk l27 e27 p27, PySem.W.mg_of X G a27⟩, s27, b27, k27⟩, c27⟩
    | 28, hf => by
      cases hf
      exact ⟨top 43, ⟨⟨_, _, fun_mk l28 e28 p28, PySem.W.mg_of X G a28⟩, s28, b28, k28⟩, c28⟩
    | 29, hf => by
      cases hf
      exact ⟨top 44, ⟨⟨_, _, fun_mk l29 e29 p29, PySem.W.mg_of X G a29⟩, s29, b29, k29⟩, c29⟩
    | 30, hf => by
      cases hf
      exact ⟨top 45, ⟨⟨_, _, fun_mk l30 e30 p30, PySem.W.mg_of X G a30⟩, s30, b30, k30⟩, c30⟩
    | 31, hf => by
      cases hf
      exact ⟨top 46, ⟨⟨_, _, fun_mk l31 e31 p31, PySem.W.mg_of X G a31⟩, s31, b31, k31⟩, c31⟩
    | 32, hf => by
      cases hf
      exact ⟨top 47, ⟨⟨_, _, fun_mk l32 e32 p32, PySem.W.mg_of X G a32⟩, s32, b32, k32⟩, c32⟩
    | 33, hf => by
      cases hf
      exact ⟨top 48, ⟨⟨_, _, fun_mk l33 e33 p33, PySem.W.mg_of X G a33⟩, s33, b33, k33⟩, c33⟩
    | 34, hf => by
      cases hf
      exact ⟨top 49, ⟨⟨_, _, fun_mk l34 e34 p34, PySem.W.mg_of X G a34⟩, s34, b34, k34⟩, c34⟩
    | f + 35, hf => by
      cases hf
  bi := fun x hx => by
    have hm : x ∈ prm.bi := List.contains_iff_mem.mp hx
    simp only [prm, List.mem_cons, List.not_mem_nil, or_false] at hm
    rcases hm with rfl | rfl | rfl | rfl | rfl | rfl | rfl | rfl | rfl | rfl | rfl | rfl | rfl | rfl | rfl | rfl | rfl | rfl
    · exact PySem.W.mg_none_of X G z0
    · exact PySem.W.mg_none_of X G z1
    · exact PySem.W.mg_none_of X G z2
    · exact PySem.W.mg_none_of X G z3
    · exact PySem.W.mg_none_of X G z4
    · exact PySem.W.mg_none_of X G z5
    · exact PySem.W.mg_none_of X G z6
    · exact PySem.W.mg_none_of X G z7
    · exact PySem.W.mg_none_of X G z8
    · exact PySem.W.mg_none_of X G z9
    · exact PySem.W.mg_none_of X G z10
    · exact PySem.W.mg_none_of X G z11
    · exact PySem.W.mg_none_of X G z12
    · exact PySem.W.mg_none_of X G z13
    · exact PySem.W.mg_none_of X G z14
    · exact PySem.W.mg_none_of X G z15
    · exact PySem.W.mg_none_of X G z16
    · exact PySem.W.mg_none_of X G z17
  cst := fun p hp hl => by
    simp only [prm, List.mem_cons, List.not_mem_nil, or_false] at hp
    rcases hp with rfl | rfl | rfl | rfl | rfl
    · exact ⟨_, _, PySem.W.mg_of X G y0, (show RelV (.int 40) (.int 40 t0) from ⟨_, rfl⟩), fun F => .int _⟩
    · exact ⟨_, _, PySem.W.mg_of X G y1, (show RelV (.int 999) (.int 999 t1) from ⟨_, rfl⟩), fun F => .int _⟩
    · exact ⟨_, _, PySem.W.mg_of X G y2, (show RelV (.int 4000) (.int 4000 t2) from ⟨_, rfl⟩), fun F => .int _⟩
    · exact ⟨_, _, PySem.W.mg_of X G y3, (show RelV (.int 100) (.int 100 t3) from ⟨_, rfl⟩), fun F => .int _⟩
    · exact ⟨_, _, PySem.W.mg_of X G y4, (show RelV (.int 20) (.int 20 t4) from ⟨_, rfl⟩), fun F => .int _⟩
end K54

open PySem PySem.W PyProof.Rows in
set_option maxRecDepth 100000 in
set_option maxHeartbeats 0 in
theorem PySem.Challenge.cw_enoughvoices_k54_whole_one_voice_joins_holds : PySem.Challenge.rw_enoughvoices_k54_whole_one_voice_joins.Holds := by
  w_on; o_law; k_head; (case hw => w_witness2)
  k_fill
  refine DL.walk_D (l := PySem.Challenge.rw_enoughvoices_k54_whole_one_voice_joins) (Pr := K54.prm) (sts := []) (k := 40) (f := 34) (fn := K54.f34) rfl rfl ⟨rfl, by decide, by decide⟩ rfl rfl rfl (fun w h Y => PySem.W.kIn_of Y) ?F K54.main
  case F =>
    intro w mg h KX G
    refine' K54.all_mk KX G ?a0 ?l0 ?e0 ?p0 ?a1 ?l1 ?e1 ?p1 ?a2 ?l2 ?e2 ?p2 ?a3 ?l3 ?e3 ?p3 ?a4 ?l4 ?e4 ?p4 ?a5 ?l5 ?e5 ?p5 ?a6 ?l6 ?e6 ?p6 ?a7 ?l7 ?e7 ?p7 ?a8 ?l8 ?e8 ?p8 ?a9 ?l9 ?e9 ?p9 ?a10 ?l10 ?e10 ?p10 ?a11 ?l11 ?e11 ?p11 ?a12 ?l12 ?e12 ?p12 ?a13 ?l13 ?e13 ?p13 ?a14 ?l14 ?e14 ?p14 ?a15 ?l15 ?e15 ?p15 ?a16 ?l16 ?e16 ?p16 ?a17 ?l17 ?e17 ?p17 ?a18 ?l18 ?e18 ?p18 ?a19 ?l19 ?e19 ?p19 ?a20 ?l20 ?e20 ?p20 ?a21 ?l21 ?e21 ?p21 ?a22 ?l22 ?e22 ?p22 ?a23 ?l23 ?e23 ?p23 ?a24 ?l24 ?e24 ?p24 ?a25 ?l25 ?e25 ?p25 ?a26 ?l26 ?e26 ?p26 ?a27 ?l27 ?e27 ?p27 ?a28 ?l28 ?e28 ?p28 ?a29 ?l29 ?e29 ?p29 ?a30 ?l30 ?e30 ?p30 ?a31 ?l31 ?e31 ?p31 ?a32 ?l32 ?e32 ?p32 ?a33 ?l33 ?e33 ?p33 ?a34 ?l34 ?e34 ?p34 ?z0 ?z1 ?z2 ?z3 ?z4 ?z5 ?z6 ?z7 ?z8 ?z9 ?z10 ?z11 ?z12 ?z13 ?z14 ?z15 ?z16 ?z17 ?y0 ?y1 ?y2 ?y3 ?y4
    (case a0 => k_is)
    (case l0 => k_is)
    (case e0 => k_is)
    (case p0 => k_is)
    (case a1 => k_is)
    (case l1 => k_is)
    (case e1 => k_is)
    (case p1 => k_is)
    (case a2 => k_is)
    (case l2 => k_is)
    (case e2 => k_is)
    (case p2 => k_is)
    (case a3 => k_is)
    (case l3 => k_is)
    (case e3 => k_is)
    (case p3 => k_is)
    (case a4 => k_is)
    (case l4 => k_is)
    (case e4 => k_is)
    (case p4 => k_is)
    (case a5 => k_is)
    (case l5 => k_is)
    (case e5 => k_is)
    (case p5 => k_is)
    (case a6 => k_is)
    (case l6 => k_is)
    (case e6 => k_is)
    (case p6 => k_is)
    (case a7 => k_is)
    (case l7 => k_is)
    (case e7 => k_is)
    (case p7 => k_is)
    (case a8 => k_is)
    (case l8 => k_is)
    (case e8 => k_is)
    (case p8 => k_is)
    (case a9 => k_is)
    (case l9 => k_is)
    (case e9 => k_is)
    (case p9 => k_is)
    (case a10 => k_is)
    (case l10 => k_is)
    (case e10 => k_is)
    (case p10 => k_is)
    (case a11 => k_is)
    (case l11 => k_is)
    (case e11 => k_is)
    (case p11 => k_is)
    (case a12 => k_is)
    (case l12 => k_is)
    (case e12 => k_is)
    (case p12 => k_is)
    (case a13 => k_is)
    (case l13 => k_is)
    (case e13 => k_is)
    (case p13 => k_is)
    (case a14 => k_is)
    (case l14 => k_is)
    (case e14 => k_is)
    (case p14 => k_is)
    (case a15 => k_is)
    (case l15 => k_is)
    (case e15 => k_is)
    (case p15 => k_is)
    (case a16 => k_is)
    (case l16 => k_is)
    (case e16 => k_is)
    (case p16 => k_is)
    (case a17 => k_is)
    (case l17 => k_is)
    (case e17 => k_is)
    (case p17 => k_is)
    (case a18 => k_is)
    (case l18 => k_is)
    (case e18 => k_is)
    (case p18 => k_is)
    (case a19 => k_is)
    (case l19 => k_is)
    (case e19 => k_is)
    (case p19 => k_is)
    (case a20 => k_is)
    (case l20 => k_is)
    (case e20 => k_is)
    (case p20 => k_is)
    (case a21 => k_is)
    (case l21 => k_is)
    (case e21 => k_is)
    (case p21 => k_is)
    (case a22 => k_is)
    (case l22 => k_is)
    (case e22 => k_is)
    (case p22 => k_is)
    (case a23 => k_is)
    (case l23 => k_is)
    (case e23 => k_is)
    (case p23 => k_is)
    (case a24 => k_is)
    (case l24 => k_is)
    (case e24 => k_is)
    (case p24 => k_is)
    (case a25 => k_is)
    (case l25 => k_is)
    (case e25 => k_is)
    (case p25 => k_is)
    (case a26 => k_is)
    (case l26 => k_is)
    (case e26 => k_is)
    (case p26 => k_is)
    (case a27 => k_is)
    (case l27 => k_is)
    (case e27 => k_is)
    (case p27 => k_is)
    (case a28 => k_is)
    (case l28 => k_is)
    (case e28 => k_is)
    (case p28 => k_is)
    (case a29 => k_is)
    (case l29 => k_is)
    (case e29 => k_is)
    (case p29 => k_is)
    (case a30 => k_is)
    (case l30 => k_is)
    (case e30 => k_is)
    (case p30 => k_is)
    (case a31 => k_is)
    (case l31 => k_is)
    (case e31 => k_is)
    (case p31 => k_is)
    (case a32 => k_is)
    (case l32 => k_is)
    (case e32 => k_is)
    (case p32 => k_is)
    (case a33 => k_is)
    (case l33 => k_is)
    (case e33 => k_is)
    (case p33 => k_is)
    (case a34 => k_is)
    (case l34 => k_is)
    (case e34 => k_is)
    (case p34 => k_is)
    (case z0 => k_is)
    (case z1 => k_is)
    (case z2 => k_is)
    (case z3 => k_is)
    (case z4 => k_is)
    (case z5 => k_is)
    (case z6 => k_is)
    (case z7 => k_is)
    (case z8 => k_is)
    (case z9 => k_is)
    (case z10 => k_is)
    (case z11 => k_is)
    (case z12 => k_is)
    (case z13 => k_is)
    (case z14 => k_is)
    (case z15 => k_is)
    (case z16 => k_is)
    (case z17 => k_is)
    (case y0 => k_is)
    (case y1 => k_is)
    (case y2 => k_is)
    (case y3 => k_is)
    (case y4 => k_is)

