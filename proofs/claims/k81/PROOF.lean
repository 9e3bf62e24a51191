import PyProof.Rows.All
import Wide.All
import OpenK.AllK
import Wide.FinOn
import HandS.ForMost
import HandS.IsInst
import HandS.TupAny
import HandS.SortInts
import HandS.Style
import PyProof.ReprLen
import HandS.Conv
import HandS.TupSets
import HandS.Walk
import HandS.Zip
import KE.GoesEnum
import HandS.Defaults
import HandS.Ends
import PySem.Challenge.RW_datedlayers_k81_whole_what_phases_say
set_option Elab.async false
set_option linter.all false
section
/-! MpCore: a small language of data; its evaluator. -/
namespace MP
open PySem

abbrev D := PyData

mutual
def nol : D → Bool
  | .list _ => false
  | .dict _ => false
  | .tuple xs => nolAll xs
  | .none => true
  | .bool _ => true
  | .int _ => true
  | .str _ => true
def nolAll : List D → Bool
  | [] => true
  | x :: xs => nol x && nolAll xs
end

mutual
/-- all lists lie within the own depth -/
def full : D → Nat → Bool
  | .list _, 0 => false
  | .list xs, n + 1 => fullAll xs n
  | .dict _, _ => false
  | .tuple xs, _ => nolAll xs
  | .none, _ => true
  | .bool _, _ => true
  | .int _, _ => true
  | .str _, _ => true
def fullAll : List D → Nat → Bool
  | [], _ => true
  | x :: xs, n => full x n && fullAll xs n
end

def isL : D → Bool
  | .list _ => true
  | _ => false

def noneD : D → Bool
  | .none => true
  | _ => false

/-- a variable's value: data with its own depth; a cell of the store; a range; the script -/
inductive W where
  | dat (d : D) (m : Nat)
  | loc (l : Nat)
  | rng (lo hi : Int)
  | scr (ns : List Int)

abbrev Sto := List (List D)
abbrev Rho := List (Option W)

def W.fz : W → W
  | .dat d _ => .dat d 0
  | w => w
def fzAll (r : Rho) : Rho := r.map fun o => o.map W.fz
def W.keep : W → Bool
  | .dat d m => full d m
  | _ => true

inductive Bop where
  | add | sub | mul | fdiv | mod | pow
  deriving DecidableEq
inductive Cop where
  | eq | ne | lt | le | gt | ge | isin | notin
  deriving DecidableEq
inductive Ty where
  | int | bool | str | tuple | list
  deriving DecidableEq
inductive Bi where
  | len | abs | min2 | max2 | minL | maxL | all | any | int | repr | list | tuple | sorted | divmod | setlen | listrng | rangeV
  deriving DecidableEq
/-- what is walked: a list or tuple, enumerate(x), zip(x, y), range(b), range(a, b), a range kept by a name -/
inductive Ik where
  | seq | enum | zip | range1 | range2
  deriving DecidableEq

inductive E where
  | c (d : D)
  | v (i : Nat)
  | g (x : Str)
  | bin (o : Bop) (a b : E)
  | neg (a : E)
  | cmp (o : Cop) (a b : E)
  | chain (o o' : Cop) (a b c : E)
  | isN (a : E)
  | notN (a : E)
  | notB (a : E) (b : Bool)
  | and (a b : E)
  | or (a b : E)
  | not (a : E)
  | ite (t a b : E)
  | tup (es : List E)
  | lst (es : List E)
  | idx (a i : E)
  | slL (a lo : E)
  | slH (a hi : E)
  | call (f : Str) (es : List E)
  | callK (f : Str) (es : List E) (ks : List Str) (kes : List E)
  | bi (b : Bi) (es : List E)
  | isi (a : E) (t : Ty)
  | isi2 (a : E) (t u : Ty)
  | comp (elt : E) (tg : List Nat) (one : Bool) (k : Ik) (its : List E) (ifs : List E)
  | comp2 (elt : E) (i : Nat) (it : E) (j : Nat) (it2 : E) (ifs : List E)
  | stuck

/-! ### operators on data -/
def LIM : Nat := 100000

def asInt : D → Option Int
  | .int i => some i
  | _ => none
def asBool : D → Option Bool
  | .bool b => some b
  | _ => none
def allInts : List D → Option (List Int)
  | [] => some []
  | .int i :: ds => (allInts ds).map (i :: ·)
  | _ :: _ => none
def allBools : List D → Option (List Bool)
  | [] => some []
  | .bool b :: ds => (allBools ds).map (b :: ·)
  | _ :: _ => none

def small (i : Int) : Bool := decide (-(2 ^ 64) < i ∧ i < 2 ^ 64)

def binop : Bop → D → D → Option W
  | .add, .int i, .int j => some (.dat (.int (i + j)) 0)
  | .add, .tuple xs, .tuple ys => if xs.length + ys.length ≤ LIM then some (.dat (.tuple (xs ++ ys)) 0) else none
  | .add, .list xs, .list ys => if xs.length + ys.length ≤ LIM then some (.dat (.list (xs ++ ys)) 1) else none
  | .sub, .int i, .int j => some (.dat (.int (i - j)) 0)
  | .mul, .int i, .int j => if small i then some (.dat (.int (i * j)) 0) else none
  | .mul, .list [x], .int k => if k < 1000 ∧ -1000 < k then some (.dat (.list (List.replicate k.toNat x)) 1) else none
  | .fdiv, .int i, .int j => if j ≠ 0 ∧ j.natAbs < 1073741824 then some (.dat (.int (i.fdiv j)) 0) else none
  | .mod, .int i, .int j => if j ≠ 0 then some (.dat (.int (i.fmod j)) 0) else none
  | .pow, .int i, .int j => if 0 ≤ j ∧ j ≤ 1000 ∧ i.natAbs < 2 ^ 64 then some (.dat (.int (i ^ j.toNat)) 0) else none
  | _, _, _ => none

def flat : D → Bool
  | .none | .bool _ | .int _ | .str _ => true
  | _ => false
def inD (x : D) (ys : List D) : Bool := ys.any fun y => PyData.eqv y x

def seqOf : D → Option (List D)
  | .list xs => some xs
  | .tuple xs => some xs
  | _ => none

def cmpop : Cop → D → D → Option Bool
  | .eq, d, e => if SeqAt.shaped d && SeqAt.shaped e then some (PyData.eqv d e) else none
  | .ne, d, e => if SeqAt.shaped d && SeqAt.shaped e then some (!PyData.eqv d e) else none
  | .lt, .int i, .int j => some (decide (i < j))
  | .le, .int i, .int j => some (decide (i ≤ j))
  | .gt, .int i, .int j => some (decide (j < i))
  | .ge, .int i, .int j => some (decide (j ≤ i))
  | .isin, d, e => match seqOf e with
    | some ys => if flat d && ys.all flat then some (inD d ys) else none
    | none => none
  | .notin, d, e => match seqOf e with
    | some ys => if flat d && ys.all flat then some (!inD d ys) else none
    | none => none
  | _, _, _ => none

/-- the place that an index tells -/
def ixD (n : Nat) (i : Int) : Option Nat :=
  if 0 ≤ i then (if i < n then some i.toNat else none) else if -(n : Int) ≤ i then some (i + n).toNat else none

def idxop (S : Sto) : W → D → Option D
  | .dat (.list xs) _, .int i => (ixD xs.length i).bind fun j => xs[j]?
  | .dat (.tuple xs) _, .int i => (ixD xs.length i).bind fun j => xs[j]?
  | .loc l, .int i => (S[l]?).bind fun xs => (ixD xs.length i).bind fun j => xs[j]?
  | .scr ns, .int i => (ixD ns.length i).bind fun j => (ns[j]?).map .int
  | _, _ => none

def tyIs : D → Ty → Bool
  | .bool _, .bool => true
  | .bool _, .int => true
  | .int _, .int => true
  | .str _, .str => true
  | .tuple _, .tuple => true
  | .list _, .list => true
  | _, _ => false

/-- a slice's bound in a sequence of n -/
def clampD (n : Nat) (i : Int) : Nat := if i < 0 then (i + (n : Int)).toNat else min i.toNat n
def slLop : D → D → Option W
  | .list xs, .int i => some (.dat (.list (xs.drop (clampD xs.length i))) 1)
  | .tuple xs, .int i => some (.dat (.tuple (xs.drop (clampD xs.length i))) 0)
  | _, _ => none
def slHop : D → D → Option W
  | .list xs, .int i => some (.dat (.list (xs.take (clampD xs.length i))) 1)
  | .tuple xs, .int i => some (.dat (.tuple (xs.take (clampD xs.length i))) 0)
  | _, _ => none

def insI (x : Int) : List Int → List Int
  | [] => [x]
  | y :: ys => if x ≤ y then x :: y :: ys else y :: insI x ys
def sortI : List Int → List Int
  | [] => []
  | x :: xs => insI x (sortI xs)
def maxI : Int → List Int → Int
  | m, [] => m
  | m, x :: xs => maxI (if m < x then x else m) xs
def minI : Int → List Int → Int
  | m, [] => m
  | m, x :: xs => minI (if x < m then x else m) xs

/-- pairs of ints -/
def pairI : D → Option (Int × Int)
  | .tuple [.int a, .int b] => some (a, b)
  | _ => none
def allPairs : List D → Option (List (Int × Int))
  | [] => some []
  | d :: ds => match pairI d, allPairs ds with
    | some p, some ps => some (p :: ps)
    | _, _ => none
def distinct : List (Int × Int) → List (Int × Int)
  | [] => []
  | p :: ps => if (distinct ps).contains p then distinct ps else p :: distinct ps

/-! an upper bound of what repr writes -/
mutual
def wt : D → Nat
  | .none => 4
  | .bool _ => 5
  | .int i => i.natAbs.log2 + 3
  | .str x => (reprText x).length
  | .list xs => wtAll xs + 3
  | .tuple xs => wtAll xs + 3
  | .dict _ => 0
def wtAll : List D → Nat
  | [] => 0
  | x :: xs => wt x + 2 + wtAll xs
end

def biop (S : Sto) : Bi → List W → Option W
  | .len, [.dat (.list xs) _] => if xs.length ≤ LIM then some (.dat (.int xs.length) 0) else none
  | .len, [.dat (.tuple xs) _] => if xs.length ≤ LIM then some (.dat (.int xs.length) 0) else none
  | .len, [.scr ns] => if ns.length ≤ LIM then some (.dat (.int ns.length) 0) else none
  | .abs, [.dat (.int i) _] => some (.dat (.int (if i < 0 then -i else i)) 0)
  | .max2, [.dat (.int i) _, .dat (.int j) _] => some (.dat (.int (if j > i then j else i)) 0)
  | .min2, [.dat (.int i) _, .dat (.int j) _] => some (.dat (.int (if j < i then j else i)) 0)
  | .maxL, [.dat (.list xs) _] => match allInts xs with
    | some (n :: ns) => some (.dat (.int (maxI n ns)) 0)
    | _ => none
  | .minL, [.dat (.list xs) _] => match allInts xs with
    | some (n :: ns) => some (.dat (.int (minI n ns)) 0)
    | _ => none
  | .all, [.dat (.list xs) _] => (allBools xs).map fun bs => .dat (.bool (bs.all id)) 0
  | .any, [.dat (.list xs) _] => (allBools xs).map fun bs => .dat (.bool (bs.any id)) 0
  | .int, [.dat (.int i) _] => some (.dat (.int i) 0)
  | .int, [.dat (.bool b) _] => some (.dat (.int (if b then 1 else 0)) 0)
  | .repr, [.dat d _] => if d.showable && decide (d.depth ≤ 64) && decide (wt d ≤ 1000000) && !d.hasDict then some (.dat (.str d.shown) 0) else none
  | .list, [.dat (.list xs) _] => some (.dat (.list xs) 1)
  | .list, [.dat (.tuple xs) _] => some (.dat (.list xs) 1)
  | .tuple, [.dat (.list xs) _] => some (.dat (.tuple xs) 0)
  | .tuple, [.dat (.tuple xs) _] => some (.dat (.tuple xs) 0)
  | .sorted, [.dat (.list xs) _] => (allInts xs).map fun ns => .dat (.list ((sortI ns).map .int)) 1
  | .divmod, [.dat (.int i) _, .dat (.int j) _] => if 0 < j ∧ j < 1073741824 then some (.dat (.tuple [.int (i / j), .int (i % j)]) 0) else none
  | .setlen, [.dat (.list xs) _] => if xs.length < 64 then (allPairs xs).map fun ps => .dat (.int (distinct ps).length) 0 else none
  | .listrng, [.dat (.int n) _] => if 0 ≤ n ∧ n < 1000000 then some (.dat (.list ((List.range n.toNat).map fun i => .int (i : Nat))) 1) else none
  | .rangeV, [.dat (.int n) _] => if 0 ≤ n ∧ n < 1000000 then some (.rng 0 n) else none
  | _, _ => none

/-- what a walk takes, one by one -/
def items : Ik → List W → Option (List D)
  | .seq, [.dat (.list xs) _] => some xs
  | .seq, [.dat (.tuple xs) _] => some xs
  | .seq, [.rng lo hi] => if lo = 0 ∧ 0 ≤ hi ∧ hi < 1000000 then some ((List.range hi.toNat).map fun i => .int (i : Nat)) else none
  | .enum, [.dat (.list xs) _] => if xs.length ≤ LIM then some (xs.mapIdx fun i x => .tuple [.int (i : Nat), x]) else none
  | .enum, [.dat (.tuple xs) _] => if xs.length ≤ LIM then some (xs.mapIdx fun i x => .tuple [.int (i : Nat), x]) else none
  | .zip, [.dat (.list xs) _, .dat (.list ys) _] => some (List.zipWith (fun x y => .tuple [x, y]) xs ys)
  | .zip, [.dat (.tuple xs) _, .dat (.tuple ys) _] => some (List.zipWith (fun x y => .tuple [x, y]) xs ys)
  | .range1, [.dat (.int n) _] => if -(2 ^ 62) ≤ n ∧ n < 1000000 then some ((List.range n.toNat).map fun i => .int (i : Nat)) else none
  | .range2, [.dat (.int a) _, .dat (.int b) _] => if -(2 ^ 62) ≤ a ∧ a < 2 ^ 62 ∧ -(2 ^ 62) ≤ b ∧ b < 2 ^ 62 ∧ b - a < 1000000 then some ((List.range (b - a).toNat).map fun i => .int (a + (i : Nat))) else none
  | _, _ => none

def setAll : List Nat → List D → Rho → Option Rho
  | [], [], r => some r
  | i :: is, d :: ds, r => setAll is ds (r.set i (some (.dat d 0)))
  | _, _, _ => none
/-- the target of a walk: one name, or a tuple of names -/
def bindT (tg : List Nat) (one : Bool) (d : D) (r : Rho) : Option Rho :=
  if one then match tg with
    | [i] => some (r.set i (some (.dat d 0)))
    | _ => none
  else match d with
    | .tuple ds => setAll tg ds r
    | _ => none

/-- how deep a list of fresh items is owned -/
def dOf : List (D × Nat) → Nat
  | [] => 2
  | (d, m) :: r => if isL d && m == 0 then 1 else dOf r

/-- a comprehension's turns -/
def compGo (f : D → Sto → Option (Option (D × Nat) × Sto)) : List D → Sto → Option (List (D × Nat) × Sto)
  | [], S => some ([], S)
  | x :: xs, S => match f x S with
    | none => none
    | some (o, S1) => match compGo f xs S1 with
      | none => none
      | some (ys, S2) => some (match o with | some y => y :: ys | none => ys, S2)
def compGo2 (f : D → Sto → Option (List (D × Nat) × Sto)) : List D → Sto → Option (List (D × Nat) × Sto)
  | [], S => some ([], S)
  | x :: xs, S => match f x S with
    | none => none
    | some (zs, S1) => match compGo2 f xs S1 with
      | none => none
      | some (ys, S2) => some (zs ++ ys, S2)

def datAll : List W → Option (List (D × Nat))
  | [] => some []
  | .dat d m :: ws => match datAll ws with
    | some ds => some ((d, m) :: ds)
    | none => none
  | _ :: _ => none

abbrev Fns := Str → List W → List (Str × W) → Sto → Option (W × Sto)

mutual
def evE (F : Fns) (G : Str → Option D) : E → Rho → Sto → Option (W × Sto)
  | .c d, _, S => some (.dat d 0, S)
  | .v i, r, S => match r[i]? with
    | some (some w) => some (w.fz, S)
    | _ => none
  | .g x, _, S => match G x with
    | some d => some (.dat d 0, S)
    | none => none
  | .bin o a b, r, S => match evE F G a r S with
    | some (.dat d _, S1) => match evE F G b r S1 with
      | some (.dat e _, S2) => match binop o d e with
        | some w => some (w, S2)
        | none => none
      | _ => none
    | _ => none
  | .neg a, r, S => match evE F G a r S with
    | some (.dat (.int i) _, S1) => some (.dat (.int (-i)) 0, S1)
    | _ => none
  | .cmp o a b, r, S => match evE F G a r S with
    | some (.dat d _, S1) => match evE F G b r S1 with
      | some (.dat e _, S2) => match cmpop o d e with
        | some x => some (.dat (.bool x) 0, S2)
        | none => none
      | _ => none
    | _ => none
  | .chain o o' a b c, r, S => match evE F G a r S with
    | some (.dat d _, S1) => match evE F G b r S1 with
      | some (.dat e _, S2) => match cmpop o d e with
        | some true => match evE F G c r S2 with
          | some (.dat f _, S3) => match cmpop o' e f with
            | some x => some (.dat (.bool x) 0, S3)
            | none => none
          | _ => none
        | some false => some (.dat (.bool false) 0, S2)
        | none => none
      | _ => none
    | _ => none
  | .isN a, r, S => match evE F G a r S with
    | some (.dat d _, S1) => some (.dat (.bool (noneD d)) 0, S1)
    | _ => none
  | .notN a, r, S => match evE F G a r S with
    | some (.dat d _, S1) => some (.dat (.bool (!noneD d)) 0, S1)
    | _ => none
  | .notB a b, r, S => match evE F G a r S with
    | some (.dat (.bool x) _, S1) => some (.dat (.bool (x != b)) 0, S1)
    | _ => none
  | .and a b, r, S => match evE F G a r S with
    | some (.dat (.bool true) _, S1) => evE F G b r S1
    | some (.dat (.bool false) _, S1) => some (.dat (.bool false) 0, S1)
    | _ => none
  | .or a b, r, S => match evE F G a r S with
    | some (.dat (.bool true) _, S1) => some (.dat (.bool true) 0, S1)
    | some (.dat (.bool false) _, S1) => evE F G b r S1
    | _ => none
  | .not a, r, S => match evE F G a r S with
    | some (.dat (.bool x) _, S1) => some (.dat (.bool (!x)) 0, S1)
    | _ => none
  | .ite t a b, r, S => match evE F G t r S with
    | some (.dat (.bool true) _, S1) => evE F G a r S1
    | some (.dat (.bool false) _, S1) => evE F G b r S1
    | _ => none
  | .tup es, r, S => match evEs F G es r S with
    | some (ws, S1) => match datAll ws with
      | some ds => if ds.length ≤ LIM then some (.dat (.tuple (ds.map (·.1))) 0, S1) else none
      | none => none
    | none => none
  | .lst es, r, S => match evEs F G es r S with
    | some (ws, S1) => match datAll ws with
      | some ds => if ds.length ≤ LIM then some (.dat (.list (ds.map (·.1))) (dOf ds), S1) else none
      | none => none
    | none => none
  | .idx a i, r, S => match evE F G a r S with
    | some (w, S1) => match evE F G i r S1 with
      | some (.dat e _, S2) => match idxop S2 w e with
        | some d => some (.dat d 0, S2)
        | none => none
      | _ => none
    | _ => none
  | .slL a lo, r, S => match evE F G a r S with
    | some (.dat d _, S1) => match evE F G lo r S1 with
      | some (.dat e _, S2) => match slLop d e with
        | some w => some (w, S2)
        | none => none
      | _ => none
    | _ => none
  | .slH a hi, r, S => match evE F G a r S with
    | some (.dat d _, S1) => match evE F G hi r S1 with
      | some (.dat e _, S2) => match slHop d e with
        | some w => some (w, S2)
        | none => none
      | _ => none
    | _ => none
  | .call f es, r, S => match evEs F G es r S with
    | some (ws, S1) => F f ws [] S1
    | none => none
  | .callK f es ks kes, r, S => match evEs F G es r S with
    | some (ws, S1) => match evEs F G kes r S1 with
      | some (vs, S2) => F f (ws.map W.fz) (ks.zip (vs.map W.fz)) S2
      | none => none
    | none => none
  | .bi b es, r, S => match evEs F G es r S with
    | some (ws, S1) => match biop S1 b ws with
      | some w => some (w, S1)
      | none => none
    | none => none
  | .isi a t, r, S => match evE F G a r S with
    | some (.dat d _, S1) => some (.dat (.bool (tyIs d t)) 0, S1)
    | _ => none
  | .isi2 a t u, r, S => match evE F G a r S with
    | some (.dat d _, S1) => some (.dat (.bool (tyIs d t || tyIs d u)) 0, S1)
    | _ => none
  | .comp elt tg one k its ifs, r, S => match evEs F G its r S with
    | some (ws, S1) => match items k ws with
      | some xs => if xs.length ≤ LIM then
          match compGo (fun x S => match bindT tg one x r with
            | some r1 => match evTs F G ifs r1 S with
              | some (true, S2) => match evE F G elt r1 S2 with
                | some (.dat d m, S3) => some (some (d, m), S3)
                | _ => none
              | some (false, S2) => some (none, S2)
              | none => none
            | none => none) xs S1 with
          | some (ds, S2) => some (.dat (.list (ds.map (·.1))) (dOf ds), S2)
          | none => none
        else none
      | none => none
    | none => none
  | .comp2 elt i it j it2 ifs, r, S => match evE F G it r S with
    | some (w, S1) => match items .seq [w] with
      | some xs => if xs.length ≤ 300 then
          match compGo2 (fun x S => match evE F G it2 ((r.set j none).set i (some (.dat x 0))) S with
            | some (w2, S2) => match items .seq [w2] with
              | some ys => if ys.length ≤ 300 then
                  compGo (fun y S => match evTs F G ifs (((r.set j none).set i (some (.dat x 0))).set j (some (.dat y 0))) S with
                    | some (true, S3) => match evE F G elt (((r.set j none).set i (some (.dat x 0))).set j (some (.dat y 0))) S3 with
                      | some (.dat d m, S4) => some (some (d, m), S4)
                      | _ => none
                    | some (false, S3) => some (none, S3)
                    | none => none) ys S2
                else none
              | none => none
            | none => none) xs S1 with
          | some (ds, S2) => some (.dat (.list (ds.map (·.1))) (dOf ds), S2)
          | none => none
        else none
      | none => none
    | none => none
  | .stuck, _, _ => none
def evEs (F : Fns) (G : Str → Option D) : List E → Rho → Sto → Option (List W × Sto)
  | [], _, S => some ([], S)
  | e :: es, r, S => match evE F G e r S with
    | some (w, S1) => match evEs F G es r S1 with
      | some (ws, S2) => some (w :: ws, S2)
      | none => none
    | none => none
/-- a clause's tests -/
def evTs (F : Fns) (G : Str → Option D) : List E → Rho → Sto → Option (Bool × Sto)
  | [], _, S => some (true, S)
  | e :: es, r, S => match evE F G e r S with
    | some (.dat (.bool true) _, S1) => evTs F G es r S1
    | some (.dat (.bool false) _, S1) => if es.isEmpty then some (false, S1) else none
    | _ => none
end
end MP
end

section
/-! MpStm: statements, functions. -/
namespace MP
open PySem

/-- targets of an unpacking: a name, or a place of a cell -/
inductive Tq where
  | nm (i : Nat)
  | sub (x : Nat) (i : Int)
  deriving DecidableEq

inductive Sm where
  | skip
  | ex (e : E)
  | asg (i : Nat) (e : E)
  | asgV (i j : Nat)
  | asgT (ts : List Tq) (e : E)
  | asgP (is : List Nat) (es : List E)
  | setI (x : Nat) (i e : E)
  | app (x : Nat) (e : E)
  | extd (x : Nat) (e : E)
  | appPop (x y : Nat) (e : E)
  | clr (x : Nat) (i : E)
  | ret (e : E)
  | retV (i : Nat)
  | retN
  | ifs (t : E) (a b : List Sm)
  | loop (tg : List Nat) (one : Bool) (k : Ik) (its : List E) (body : List Sm)
  | loopV (tg : List Nat) (one : Bool) (k : Ik) (j : Nat) (body : List Sm)
  | brk
  | cont
  | stuck

inductive R where
  | nx (r : Rho) (S : Sto)
  | rt (w : W) (S : Sto)
  | bk (r : Rho) (S : Sto)
  | ct (r : Rho) (S : Sto)

def useR (w : W) (r : Rho) : Rho := if w.keep then r else fzAll r
def W.nl : W → Bool
  | .dat d _ => nol d
  | _ => true
def useAll (ws : List W) (r : Rho) : Rho := if ws.all W.nl then r else fzAll r

def asgQ : List Tq → List D → Rho → Sto → Option (Rho × Sto)
  | [], [], r, S => some (r, S)
  | .nm i :: ts, d :: ds, r, S => asgQ ts ds (r.set i (some (.dat d 0))) S
  | .sub x i :: ts, d :: ds, r, S => match r[x]? with
    | some (some (.loc l)) => match S[l]? with
      | some xs => match ixD xs.length i with
        | some j => if nol d then asgQ ts ds r (S.set l (xs.set j d)) else none
        | none => none
      | none => none
    | _ => none
  | _, _, _, _ => none

def setWs : List Nat → List W → Rho → Option Rho
  | [], [], r => some r
  | i :: is, w :: ws, r => setWs is ws (r.set i (some w))
  | _, _, _ => none

def forGo (tg : List Nat) (one : Bool) (body : Rho → Sto → Option R) : List D → Rho → Sto → Option R
  | [], r, S => some (.nx r S)
  | x :: xs, r, S => match bindT tg one x r with
    | none => none
    | some r1 => match body r1 S with
      | some (.nx r2 S2) => forGo tg one body xs r2 S2
      | some (.ct r2 S2) => forGo tg one body xs r2 S2
      | some (.bk r2 S2) => some (.nx r2 S2)
      | some (.rt w S2) => some (.rt w S2)
      | none => none

mutual
def exS (F : Fns) (G : Str → Option D) : Sm → Rho → Sto → Option R
  | .skip, r, S => some (.nx r S)
  | .ex e, r, S => match evE F G e r S with
    | some (w, S1) => some (.nx (useR w r) S1)
    | none => none
  | .asg i e, r, S => match evE F G e r S with
      | some (w, S1) => some (.nx ((useR w r).set i (some w)) S1)
      | none => none
  | .asgV i j, r, S => match r[j]? with
      | some (some w) => some (.nx ((r.set j (some w.fz)).set i (some w.fz)) S)
      | _ => none
  | .asgT ts e, r, S => match evE F G e r S with
    | some (.dat (.tuple ds) m, S1) => match asgQ ts ds (useR (.dat (.tuple ds) m) r) S1 with
      | some (r2, S2) => some (.nx r2 S2)
      | none => none
    | _ => none
  | .asgP is es, r, S => match evEs F G es r S with
    | some (ws, S1) => if ws.all W.keep then match setWs is ws r with
        | some r2 => some (.nx r2 S1)
        | none => none
      else none
    | none => none
  | .setI x i e, r, S => match evE F G e r S with
    | some (.dat d m, S1) => if nol d then match evE F G i r S1 with
      | some (.dat (.int k) _, S2) => match r[x]? with
        | some (some (.dat (.list xs) (n + 1))) => match ixD xs.length k with
          | some j => some (.nx (r.set x (some (.dat (.list (xs.set j d)) (n + 1)))) S2)
          | none => none
        | some (some (.loc l)) => match S2[l]? with
          | some xs => match ixD xs.length k with
            | some j => some (.nx r (S2.set l (xs.set j d)))
            | none => none
          | none => none
        | _ => none
      | _ => none
      else none
    | _ => none
  | .app x e, r, S => match evE F G e r S with
    | some (.dat d m, S1) => match (useR (.dat d m) r)[x]? with
      | some (some (.dat (.list xs) (n + 1))) =>
        if xs.length < LIM then some (.nx ((useR (.dat d m) r).set x (some (.dat (.list (xs ++ [d])) (if nol d then n + 1 else 1)))) S1) else none
      | _ => none
    | _ => none
  | .extd x e, r, S => match evE F G e r S with
    | some (.dat (.list ys) m, S1) => match (useR (.dat (.list ys) m) r)[x]? with
      | some (some (.dat (.list xs) (n + 1))) =>
        if xs.length + ys.length ≤ LIM then some (.nx ((useR (.dat (.list ys) m) r).set x (some (.dat (.list (xs ++ ys)) (if nolAll ys then n + 1 else 1)))) S1) else none
      | _ => none
    | _ => none
  | .appPop x y e, r, S => match evE F G e r S with
    | some (.dat (.int i) _, S1) => match r[x]?, r[y]? with
      | some (some (.dat (.list xs) (n + 1))), some (some (.dat (.list ys) (m + 1))) => match ixD ys.length i with
        | some k => match ys[k]? with
          | some d => if nol d && decide (x ≠ y) && decide (xs.length < LIM) && decide (-(2 ^ 63) ≤ i ∧ i < 2 ^ 63) then
              some (.nx ((r.set y (some (.dat (.list (ys.eraseIdx k)) (m + 1)))).set x (some (.dat (.list (xs ++ [d])) (n + 1)))) S1)
            else none
          | none => none
        | none => none
      | _, _ => none
    | _ => none
  | .clr x i, r, S => match evE F G i r S with
    | some (.dat (.int i) _, S1) => match r[x]? with
      | some (some (.dat (.list xs) (n + 2))) => match ixD xs.length i with
        | some k => match xs[k]? with
          | some (.list _) => some (.nx (r.set x (some (.dat (.list (xs.set k (.list []))) (n + 2)))) S1)
          | _ => none
        | none => none
      | _ => none
    | _ => none
  | .ret e, r, S => match evE F G e r S with
      | some (w, S1) => some (.rt w S1)
      | none => none
  | .retV i, r, S => match r[i]? with
      | some (some w) => some (.rt w S)
      | _ => none
  | .retN, _, S => some (.rt (.dat .none 0) S)
  | .ifs t a b, r, S => match evE F G t r S with
    | some (.dat (.bool true) _, S1) => exSs F G a r S1
    | some (.dat (.bool false) _, S1) => exSs F G b r S1
    | _ => none
  | .loop tg one k its body, r, S => match evEs F G its r S with
      | some (ws, S1) => match items k ws with
        | some xs => if xs.length ≤ LIM then forGo tg one (fun r S => exSs F G body r S) xs (useAll ws r) S1 else none
        | none => none
      | none => none
  | .loopV tg one k j body, r, S => match r[j]? with
      | some (some w) => match items k [w.fz] with
        | some xs => if xs.length ≤ LIM then forGo tg one (fun r S => exSs F G body r S) xs (r.set j (some w.fz)) S else none
        | none => none
      | _ => none
  | .brk, r, S => some (.bk r S)
  | .cont, r, S => some (.ct r S)
  | .stuck, _, _ => none
def exSs (F : Fns) (G : Str → Option D) : List Sm → Rho → Sto → Option R
  | [], r, S => some (.nx r S)
  | s :: ss, r, S => match exS F G s r S with
    | some (.nx r1 S1) => exSs F G ss r1 S1
    | some (.rt w S1) => some (.rt w S1)
    | some (.bk r1 S1) => some (.bk r1 S1)
    | some (.ct r1 S1) => some (.ct r1 S1)
    | none => none
end

/-- a function: its parameters, all its names (parameters first), defaults (of the last parameters), the shapes of its calls, its body -/
structure Fn where
  ps : List Str
  nm : List Str
  df : List D
  sh : List (Nat × List Str)
  body : List Sm

/-- parameters whose list is changed by the callee: kept in the store -/
def promo (x : Str) : Bool := x == ("pot" : Str)

/-- an argument comes in -/
def inW (x : Str) (w : W) (S : Sto) : Option (W × Sto) :=
  if promo x then match w with
    | .dat (.list ds) (_ + 1) => if nolAll ds then some (.loc S.length, S ++ [ds]) else none
    | .loc l => some (.loc l, S)
    | _ => none
  else some (w.fz, S)
def inWs : List Str → List W → Sto → Option (List W × Sto)
  | [], [], S => some ([], S)
  | x :: xs, w :: ws, S => match inW x w S with
    | some (w', S1) => match inWs xs ws S1 with
      | some (ws', S2) => some (w' :: ws', S2)
      | none => none
    | none => none
  | _, _, _ => none
/-- keywords and defaults put in the parameters' sequence -/
def bindK {α : Type} : List Str → List (Str × α) → List (Str × α) → Option (List α)
  | [], _, _ => some []
  | p :: ps, kws, df => match kws.lookup p with
    | some w => match bindK ps kws df with
      | some ws => some (w :: ws)
      | none => none
    | none => match df.lookup p with
      | some w => match bindK ps kws df with
        | some ws => some (w :: ws)
        | none => none
      | none => none
def arr {α : Type} (ps : List Str) (us : List α) (kws df : List (Str × α)) : Option (List α) :=
  if us.length ≤ ps.length then match bindK (ps.drop us.length) kws df with
    | some zs => some (us ++ zs)
    | none => none
  else none
def Fn.dn (fn : Fn) : List Str := fn.ps.drop (fn.ps.length - fn.df.length)
def Fn.run (fn : Fn) (F : Fns) (G : Str → Option D) (ws : List W) (S : Sto) : Option (W × Sto) :=
  match inWs fn.ps ws S with
  | some (us, S1) => match exSs F G fn.body (us.map some ++ List.replicate (fn.nm.length - us.length) none) S1 with
    | some (.rt w S2) => some (w, S2)
    | some (.nx _ S2) => some (.dat .none 0, S2)
    | _ => none
  | none => none
/-- the functions, at most k calls deep -/
def FT (tab : Str → Option Fn) (G : Str → Option D) : Nat → Fns
  | 0, _, _, _, _ => none
  | k + 1, f, ws, kws, S => match tab f with
    | some fn => if fn.sh.contains (ws.length, kws.map (·.1)) then match arr fn.ps ws kws (fn.dn.zip (fn.df.map fun d => W.dat d 0)) with
      | some us => fn.run (FT tab G k) G us S
      | none => none
      else none
    | none => none
end MP
end

section
/-! MpRel: data and the abstract heap of HandS. -/
namespace MP
open PySem L2

variable {K : PySem.W.Frag} {F F' F2 H H' H1 H2 : Hp} {v : V} {vs : List V} {d : D} {ds : List D} {n : Nat} {A : List Addr} {S S' : Sto}

/-! ### frozen data -/
mutual
def DR (K : PySem.W.Frag) (F : Hp) : V → D → Prop
  | v, .none => v = .non
  | v, .bool b => v = .bl b
  | v, .int i => v = .int i
  | v, .str x => v = .str x
  | v, .list ds => ∃ a xs, v = .ref a ∧ F a = some (.lst xs) ∧ DRs K F xs ds
  | v, .tuple ds => ∃ a xs, v = .ref a ∧ SqT K F a xs ∧ DRs K F xs ds
  | _, .dict _ => False
def DRs (K : PySem.W.Frag) (F : Hp) : List V → List D → Prop
  | vs, [] => vs = []
  | vs, d :: ds => ∃ v r, vs = v :: r ∧ DR K F v d ∧ DRs K F r ds
end

theorem same_rd {a : Addr} {o : HO} (h : Same F F') (r : Rd F a o) : Rd F' a o := by
  rcases r with r | ⟨ob, r⟩
  · exact .inl (h _ _ r)
  · exact .inr ⟨ob, h _ _ r⟩
theorem same_sqT {a : Addr} {xs : List V} (h : Same F F') (r : SqT K F a xs) : SqT K F' a xs := by
  rcases r with r | r
  · exact .inl (same_rd h r)
  · exact .inr r

mutual
theorem DR.mono (h : Same F F') : ∀ (d : D) (v : V), DR K F v d → DR K F' v d
  | .none, _, q => q
  | .bool _, _, q => q
  | .int _, _, q => q
  | .str _, _, q => q
  | .list ds, _, ⟨a, xs, e, q, r⟩ => ⟨a, xs, e, h _ _ q, DRs.mono h ds xs r⟩
  | .tuple ds, _, ⟨a, xs, e, q, r⟩ => ⟨a, xs, e, same_sqT h q, DRs.mono h ds xs r⟩
  | .dict _, _, q => q
theorem DRs.mono (h : Same F F') : ∀ (ds : List D) (vs : List V), DRs K F vs ds → DRs K F' vs ds
  | [], _, q => q
  | d :: ds, _, ⟨v, r, e, q, t⟩ => ⟨v, r, e, DR.mono h d v q, DRs.mono h ds r t⟩
end

/-- tuples stay -/
def KeepT (F F' : Hp) : Prop := ∀ a o, F a = some o → (∀ xs, o ≠ .lst xs) → F' a = some o
theorem keepT_sqT {a : Addr} {xs : List V} (h : KeepT F F') (r : SqT K F a xs) : SqT K F' a xs := by
  rcases r with r | r
  · rcases r with r | ⟨ob, r⟩
    · exact .inl (.inl (h _ _ r fun _ z => nomatch z))
    · exact .inl (.inr ⟨ob, h _ _ r fun _ z => nomatch z⟩)
  · exact .inr r
mutual
/-- data without lists hangs on tuples alone -/
theorem DR.strip (h : KeepT F F') : ∀ (d : D) (v : V), nol d = true → DR K F v d → DR K F' v d
  | .none, _, _, q => q
  | .bool _, _, _, q => q
  | .int _, _, _, q => q
  | .str _, _, _, q => q
  | .list ds, _, n, _ => by simp [nol] at n
  | .tuple ds, _, n, ⟨a, xs, e, q, r⟩ => ⟨a, xs, e, keepT_sqT h q, DRs.strip h ds xs (by simpa [nol] using n) r⟩
  | .dict _, _, _, q => q
theorem DRs.strip (h : KeepT F F') : ∀ (ds : List D) (vs : List V), nolAll ds = true → DRs K F vs ds → DRs K F' vs ds
  | [], _, _, q => q
  | d :: ds, _, n, ⟨v, r, e, q, t⟩ =>
    have n' : nol d = true ∧ nolAll ds = true := by simpa [nolAll] using n
    ⟨v, r, e, DR.strip h d v n'.1 q, DRs.strip h ds r n'.2 t⟩
end

theorem DRs.length : ∀ {ds : List D} {vs : List V}, DRs K F vs ds → vs.length = ds.length
  | [], vs, h => by
    have h : vs = [] := h
    rw [h]
    rfl
  | d :: ds, _, ⟨v, r, e, _, t⟩ => by rw [e, List.length_cons, List.length_cons, DRs.length t]
theorem DRs.get : ∀ {ds : List D} {vs : List V} {i : Nat} {d : D}, DRs K F vs ds → ds[i]? = some d → ∃ v, vs[i]? = some v ∧ DR K F v d
  | [], _, _, _, _, h => by simp at h
  | d :: ds, _, 0, d', ⟨v, r, e, q, t⟩, h => by
    simp at h
    subst h
    exact ⟨v, by rw [e]; rfl, q⟩
  | d :: ds, _, i + 1, d', ⟨v, r, e, q, t⟩, h => by
    obtain ⟨u, h1, h2⟩ := DRs.get (i := i) t (by simpa using h)
    exact ⟨u, by rw [e]; simpa using h1, h2⟩
theorem DRs.app : ∀ {ds es : List D} {vs us : List V}, DRs K F vs ds → DRs K F us es → DRs K F (vs ++ us) (ds ++ es)
  | [], _, _, _, h, q => by
    have h : _ = _ := h
    rw [h]
    exact q
  | d :: ds, es, _, us, ⟨v, r, e, q, t⟩, h => by
    rw [e]
    exact ⟨v, r ++ us, rfl, q, DRs.app t h⟩
theorem DRs.one (h : DR K F v d) : DRs K F [v] [d] := ⟨v, [], rfl, h, rfl⟩
theorem DRs.set : ∀ {ds : List D} {vs : List V} (i : Nat), DRs K F vs ds → DR K F v d → DRs K F (vs.set i v) (ds.set i d)
  | [], _, _, h, _ => by
    have h : _ = _ := h
    rw [h]
    rfl
  | _ :: _, _, 0, ⟨w, r, e, q, t⟩, h => by
    rw [e]
    exact ⟨_, r, rfl, h, t⟩
  | _ :: _, _, i + 1, ⟨w, r, e, q, t⟩, h => by
    rw [e]
    exact ⟨w, _, rfl, q, DRs.set i t h⟩
theorem DRs.drop : ∀ {ds : List D} {vs : List V} (i : Nat), DRs K F vs ds → DRs K F (vs.drop i) (ds.drop i)
  | _, _, 0, h => h
  | [], _, i + 1, h => by
    have h : _ = _ := h
    rw [h]
    rfl
  | _ :: _, _, i + 1, ⟨w, r, e, q, t⟩ => by
    rw [e]
    exact DRs.drop i t
theorem DRs.take : ∀ {ds : List D} {vs : List V} (i : Nat), DRs K F vs ds → DRs K F (vs.take i) (ds.take i)
  | _, _, 0, h => rfl
  | [], _, i + 1, h => by
    have h : _ = _ := h
    rw [h]
    rfl
  | _ :: _, _, i + 1, ⟨w, r, e, q, t⟩ => by
    rw [e]
    exact ⟨w, _, rfl, q, DRs.take i t⟩
theorem DRs.erase : ∀ {ds : List D} {vs : List V} (i : Nat), DRs K F vs ds → DRs K F (vs.eraseIdx i) (ds.eraseIdx i)
  | [], _, _, h => by
    have h : _ = _ := h
    rw [h]
    rfl
  | _ :: _, _, 0, ⟨w, r, e, q, t⟩ => by
    rw [e]
    exact t
  | _ :: _, _, i + 1, ⟨w, r, e, q, t⟩ => by
    rw [e]
    exact ⟨w, _, rfl, q, DRs.erase i t⟩
theorem DRs.rep (h : DR K F v d) : ∀ n : Nat, DRs K F (List.replicate n v) (List.replicate n d)
  | 0 => rfl
  | n + 1 => ⟨v, _, rfl, h, DRs.rep h n⟩

/-! ### data owned to a depth: A the addresses of its own lists -/
mutual
def Own (K : PySem.W.Frag) (F H : Hp) : V → D → Nat → List Addr → Prop
  | v, .list ds, 0, A => A = [] ∧ ∃ a xs, v = .ref a ∧ F a = some (.lst xs) ∧ DRs K F xs ds
  | v, .list ds, n + 1, A => ∃ a xs B, v = .ref a ∧ H a = some (.lst xs) ∧ A = a :: B ∧ Owns K F H xs ds n B
  | v, .none, _, A => A = [] ∧ v = .non
  | v, .bool b, _, A => A = [] ∧ v = .bl b
  | v, .int i, _, A => A = [] ∧ v = .int i
  | v, .str x, _, A => A = [] ∧ v = .str x
  | v, .tuple ds, _, A => A = [] ∧ ∃ a xs, v = .ref a ∧ SqT K F a xs ∧ DRs K F xs ds
  | _, .dict _, _, _ => False
def Owns (K : PySem.W.Frag) (F H : Hp) : List V → List D → Nat → List Addr → Prop
  | vs, [], _, A => vs = [] ∧ A = []
  | vs, d :: ds, n, A => ∃ v r B C, vs = v :: r ∧ A = B ++ C ∧ Own K F H v d n B ∧ Owns K F H r ds n C
end

theorem own0 : ∀ {d : D} {v : V} {A : List Addr}, Own K F H v d 0 A ↔ A = [] ∧ DR K F v d
  | .none, _, _ => Iff.rfl
  | .bool _, _, _ => Iff.rfl
  | .int _, _, _ => Iff.rfl
  | .str _, _, _ => Iff.rfl
  | .list _, _, _ => Iff.rfl
  | .tuple _, _, _ => Iff.rfl
  | .dict _, _, _ => ⟨fun h => h.elim, fun h => h.2⟩
theorem own_atom : ∀ {d : D} {v : V} {n : Nat}, isL d = false → DR K F v d → Own K F H v d n []
  | .none, _, _, _, h => ⟨rfl, h⟩
  | .bool _, _, _, _, h => ⟨rfl, h⟩
  | .int _, _, _, _, h => ⟨rfl, h⟩
  | .str _, _, _, _, h => ⟨rfl, h⟩
  | .list _, _, _, h, _ => by cases h
  | .tuple _, _, _, _, h => ⟨rfl, h⟩
  | .dict _, _, _, _, h => h.elim
theorem own_atom' : ∀ {d : D} {v : V} {n : Nat} {A : List Addr}, isL d = false → Own K F H v d n A → A = [] ∧ DR K F v d
  | .none, _, _, _, _, h => h
  | .bool _, _, _, _, _, h => h
  | .int _, _, _, _, _, h => h
  | .str _, _, _, _, _, h => h
  | .list _, _, _, _, h, _ => by cases h
  | .tuple _, _, _, _, _, h => h
  | .dict _, _, _, _, _, h => h.elim
theorem owns_at : ∀ {ds : List D} {vs : List V} {n : Nat}, (∀ d ∈ ds, isL d = false) → DRs K F vs ds → Owns K F H vs ds n []
  | [], _, _, _, h => ⟨h, rfl⟩
  | d :: ds, _, n, nl, ⟨v, r, e, q, t⟩ => ⟨v, r, [], [], e, rfl, own_atom (nl d (by simp)) q, owns_at (fun x hx => nl x (by simp [hx])) t⟩
theorem owns0 : ∀ {ds : List D} {vs : List V}, DRs K F vs ds → Owns K F H vs ds 0 []
  | [], _, h => ⟨h, rfl⟩
  | d :: ds, _, ⟨v, r, e, q, t⟩ => ⟨v, r, [], [], e, rfl, own0.mpr ⟨rfl, q⟩, owns0 t⟩
theorem owns0' : ∀ {ds : List D} {vs : List V} {A : List Addr}, Owns K F H vs ds 0 A → A = [] ∧ DRs K F vs ds
  | [], _, _, h => ⟨h.2, h.1⟩
  | d :: ds, _, _, ⟨v, r, B, C, e, eA, q, t⟩ => by
    have q2 := own0.mp q
    have t2 := owns0' t
    exact ⟨by rw [eA, q2.1, t2.1]; rfl, v, r, e, q2.2, t2.2⟩
theorem Owns.length : ∀ {ds : List D} {vs : List V} {n : Nat} {A : List Addr}, Owns K F H vs ds n A → vs.length = ds.length
  | [], vs, _, _, h => by
    have h : vs = [] := h.1
    rw [h]
    rfl
  | d :: ds, _, _, _, ⟨v, r, B, C, e, eA, q, t⟩ => by rw [e, List.length_cons, List.length_cons, Owns.length t]
theorem Owns.app : ∀ {ds es : List D} {vs us : List V} {n : Nat} {A B : List Addr}, Owns K F H vs ds n A → Owns K F H us es n B → Owns K F H (vs ++ us) (ds ++ es) n (A ++ B)
  | [], _, _, _, _, _, _, h, q => by
    rw [h.1, h.2]
    exact q
  | d :: ds, es, _, us, n, _, B, ⟨v, r, B1, C, e, eA, q, t⟩, h => by
    rw [e, eA, List.append_assoc]
    exact ⟨v, r ++ us, B1, C ++ B, rfl, rfl, q, Owns.app t h⟩

mutual
/-- the owned lists are lists in the heap -/
theorem Own.lsts : ∀ (d : D) (n : Nat) (v : V) (A : List Addr), Own K F H v d n A → ∀ a ∈ A, ∃ xs, H a = some (.lst xs)
  | .none, _, _, _, ⟨e, _⟩ => by rw [e]; intro a h; cases h
  | .bool _, _, _, _, ⟨e, _⟩ => by rw [e]; intro a h; cases h
  | .int _, _, _, _, ⟨e, _⟩ => by rw [e]; intro a h; cases h
  | .str _, _, _, _, ⟨e, _⟩ => by rw [e]; intro a h; cases h
  | .tuple _, _, _, _, ⟨e, _⟩ => by rw [e]; intro a h; cases h
  | .dict _, _, _, _, h => h.elim
  | .list _, 0, _, _, ⟨e, _⟩ => by rw [e]; intro a h; cases h
  | .list ds, n + 1, _, _, ⟨a, xs, B, _, h, eA, t⟩ => by
    rw [eA]
    intro b hb
    rcases List.mem_cons.mp hb with e | hb
    · exact ⟨xs, by rw [e]; exact h⟩
    · exact Owns.lsts ds n xs B t b hb
theorem Owns.lsts : ∀ (ds : List D) (n : Nat) (vs : List V) (A : List Addr), Owns K F H vs ds n A → ∀ a ∈ A, ∃ xs, H a = some (.lst xs)
  | [], _, _, _, ⟨_, e⟩ => by rw [e]; intro a h; cases h
  | d :: ds, n, _, _, ⟨v, r, B, C, _, eA, q, t⟩ => by
    rw [eA]
    intro b hb
    rcases List.mem_append.mp hb with hb | hb
    · exact Own.lsts d n v B q b hb
    · exact Owns.lsts ds n r C t b hb
end

mutual
/-- the heap may change elsewhere, more may be frozen -/
theorem Own.mono (hF : Same F F') : ∀ (d : D) (n : Nat) (v : V) (A : List Addr), Own K F H v d n A → (∀ a ∈ A, ∀ o, H a = some o → H' a = some o) → Own K F' H' v d n A
  | .none, _, _, _, h, _ => h
  | .bool _, _, _, _, h, _ => h
  | .int _, _, _, _, h, _ => h
  | .str _, _, _, _, h, _ => h
  | .tuple ds, _, _, _, ⟨e, h⟩, _ => ⟨e, DR.mono hF (.tuple ds) _ h⟩
  | .dict _, _, _, _, h, _ => h.elim
  | .list ds, 0, _, _, ⟨e, h⟩, _ => ⟨e, DR.mono hF (.list ds) _ h⟩
  | .list ds, n + 1, _, _, ⟨a, xs, B, ev, h, eA, t⟩, k => ⟨a, xs, B, ev, k a (by rw [eA]; simp) _ h, eA, Owns.mono hF ds n xs B t fun b hb => k b (by rw [eA]; simp [hb])⟩
theorem Owns.mono (hF : Same F F') : ∀ (ds : List D) (n : Nat) (vs : List V) (A : List Addr), Owns K F H vs ds n A → (∀ a ∈ A, ∀ o, H a = some o → H' a = some o) → Owns K F' H' vs ds n A
  | [], _, _, _, h, _ => h
  | d :: ds, n, _, _, ⟨v, r, B, C, e, eA, q, t⟩, k => ⟨v, r, B, C, e, eA, Own.mono hF d n v B q fun b hb => k b (by rw [eA]; simp [hb]), Owns.mono hF ds n r C t fun b hb => k b (by rw [eA]; simp [hb])⟩
end

/-- the lists at A frozen too -/
def ext (F H : Hp) (A : List Addr) : Hp := fun a => if a ∈ A then H a else F a
theorem ext_in {a : Addr} (h : a ∈ A) : ext F H A a = H a := if_pos h
theorem ext_out {a : Addr} (h : a ∉ A) : ext F H A a = F a := if_neg h
theorem same_ext (h : ∀ a ∈ A, F a = none) : Same F (ext F H A) := fun a o e => by
  by_cases m : a ∈ A
  · rw [h a m] at e
    cases e
  · rw [ext_out m]
    exact e

mutual
theorem Own.freeze (hF : Same F F') : ∀ (d : D) (n : Nat) (v : V) (A : List Addr), Own K F H v d n A → (∀ a ∈ A, F' a = H a) → DR K F' v d
  | .none, _, _, _, h, _ => h.2
  | .bool _, _, _, _, h, _ => h.2
  | .int _, _, _, _, h, _ => h.2
  | .str _, _, _, _, h, _ => h.2
  | .tuple ds, _, _, _, h, _ => DR.mono hF (.tuple ds) _ h.2
  | .dict _, _, _, _, h, _ => h.elim
  | .list ds, 0, _, _, h, _ => DR.mono hF (.list ds) _ h.2
  | .list ds, n + 1, _, _, ⟨a, xs, B, ev, h, eA, t⟩, k => ⟨a, xs, ev, (k a (by rw [eA]; simp)).trans h, Owns.freeze hF ds n xs B t fun b hb => k b (by rw [eA]; simp [hb])⟩
theorem Owns.freeze (hF : Same F F') : ∀ (ds : List D) (n : Nat) (vs : List V) (A : List Addr), Owns K F H vs ds n A → (∀ a ∈ A, F' a = H a) → DRs K F' vs ds
  | [], _, _, _, h, _ => h.1
  | d :: ds, n, _, _, ⟨v, r, B, C, e, eA, q, t⟩, k => ⟨v, r, e, Own.freeze hF d n v B q fun b hb => k b (by rw [eA]; simp [hb]), Owns.freeze hF ds n r C t fun b hb => k b (by rw [eA]; simp [hb])⟩
end

mutual
/-- what is owned whole hangs on nothing frozen but tuples -/
theorem Own.strip (h : KeepT F F') : ∀ (d : D) (n : Nat) (v : V) (A : List Addr), full d n = true → Own K F H v d n A → Own K F' H v d n A
  | .none, _, _, _, _, q => q
  | .bool _, _, _, _, _, q => q
  | .int _, _, _, _, _, q => q
  | .str _, _, _, _, _, q => q
  | .tuple ds, _, _, _, f, q => ⟨q.1, DR.strip h (.tuple ds) _ (by simpa [full, nol] using f) q.2⟩
  | .dict _, _, _, _, _, q => q.elim
  | .list ds, 0, _, _, f, _ => by simp [full] at f
  | .list ds, n + 1, _, _, f, ⟨a, xs, B, ev, q, eA, t⟩ => ⟨a, xs, B, ev, q, eA, Owns.strip h ds n xs B (by simpa [full] using f) t⟩
theorem Owns.strip (h : KeepT F F') : ∀ (ds : List D) (n : Nat) (vs : List V) (A : List Addr), fullAll ds n = true → Owns K F H vs ds n A → Owns K F' H vs ds n A
  | [], _, _, _, _, q => q
  | d :: ds, n, _, _, f, ⟨v, r, B, C, e, eA, q, t⟩ =>
    have f' : full d n = true ∧ fullAll ds n = true := by simpa [fullAll] using f
    ⟨v, r, B, C, e, eA, Own.strip h d n v B f'.1 q, Owns.strip h ds n r C f'.2 t⟩
end
end MP
end

section
/-! MpGho: what is frozen, where the store's cells stand; the steps of an evaluation. -/
namespace MP
open PySem L2

structure Gho where
  fz : Hp
  phi : List Addr

structure OkG (K : PySem.W.Frag) (g : Gho) (S : Sto) (H : Hp) : Prop where
  sub : Same g.fz H
  len : g.phi.length = S.length
  nd : g.phi.Nodup
  cell : ∀ (l : Nat) (a : Addr) (ds : List D), g.phi[l]? = some a → S[l]? = some ds → ∃ vs, H a = some (.lst vs) ∧ g.fz a = none ∧ DRs K g.fz vs ds ∧ nolAll ds = true

/-- a list that is read alone: the script -/
def Scr (K : PySem.W.Frag) (F : Hp) (a : Addr) (xs : List V) : Prop := (∃ o, F a = some (.frz o (.lst xs))) ∨ SqL K (fun _ => none) a xs
theorem Scr.seq {K : PySem.W.Frag} {F H : Hp} {a : Addr} {xs : List V} (h : Same F H) : Scr K F a xs → SqL K H a xs
  | .inl ⟨o, e⟩ => .inl (.inr ⟨o, h _ _ e⟩)
  | .inr e => Same.seq (fun _ _ z => by cases z) e
theorem Scr.mono {K : PySem.W.Frag} {F H : Hp} {a : Addr} {xs : List V} (h : Same F H) : Scr K F a xs → Scr K H a xs
  | .inl ⟨o, e⟩ => .inl ⟨o, h _ _ e⟩
  | .inr e => .inr e
def VW (K : PySem.W.Frag) (g : Gho) (v : V) : W → Prop
  | .dat d _ => DR K g.fz v d
  | .loc l => ∃ a, v = .ref a ∧ g.phi[l]? = some a
  | .rng lo hi => ∃ a, v = .ref a ∧ g.fz a = some (.rng lo hi)
  | .scr ns => ∃ a, v = .ref a ∧ Scr K g.fz a (ns.map V.int)
def VO (K : PySem.W.Frag) (g : Gho) (H : Hp) (v : V) (w : W) (A : List Addr) : Prop :=
  match w with
  | .dat d m => Own K g.fz H v d m A
  | w => A = [] ∧ VW K g v w
def VOs (K : PySem.W.Frag) (g : Gho) (H : Hp) : List V → List W → List Addr → Prop
  | vs, [], A => vs = [] ∧ A = []
  | vs, w :: ws, A => ∃ v r B C, vs = v :: r ∧ A = B ++ C ∧ VO K g H v w B ∧ VOs K g H r ws C
def VWs (K : PySem.W.Frag) (g : Gho) : List V → List W → Prop
  | vs, [] => vs = []
  | vs, w :: ws => ∃ v r, vs = v :: r ∧ VW K g v w ∧ VWs K g r ws

structure Go (K : PySem.W.Frag) (g : Gho) (H : Hp) (g' : Gho) (S' : Sto) (H' : Hp) : Prop where
  le : Same g.fz g'.fz
  phi : ∃ more, g'.phi = g.phi ++ more ∧ ∀ a ∈ more, H a = none
  ok : OkG K g' S' H'
  fr : ∀ a o, H a = some o → a ∉ g.phi → H' a = some o
  nw : ∀ a o, H a = some o → g.fz a = none → g'.fz a = none
  dm : ∀ a o, H a = some o → ∃ o', H' a = some o'

def Fre (g : Gho) (H : Hp) (A : List Addr) : Prop := A.Nodup ∧ ∀ a ∈ A, H a = none ∧ g.fz a = none ∧ a ∉ g.phi
def Rz (K : PySem.W.Frag) (g : Gho) (H : Hp) (w : W) (S' : Sto) (v : V) (H' : Hp) : Prop :=
  ∃ g' A, Go K g H g' S' H' ∧ VO K g' H' v w A ∧ Fre g' H A
def Rzs (K : PySem.W.Frag) (g : Gho) (H : Hp) (ws : List W) (S' : Sto) (vs : List V) (H' : Hp) : Prop :=
  ∃ g' A, Go K g H g' S' H' ∧ VOs K g' H' vs ws A ∧ Fre g' H A
def EnvF (K : PySem.W.Frag) (g : Gho) (r : Rho) (σ : L2.St) : Prop := ∀ (i : Nat) (w : W), r[i]? = some (some w) → ∃ v, σ[i]? = some (some v) ∧ VW K g v w

variable {K : PySem.W.Frag} {g g1 g2 g' : Gho} {H H' H1 H2 : Hp} {v : V} {vs : List V} {w : W} {ws : List W} {A B : List Addr} {S S' S1 S2 : Sto} {r : Rho} {σ : L2.St} {d : D} {ds : List D}

theorem Go.refl (ok : OkG K g S H) : Go K g H g S H :=
  ⟨fun _ _ h => h, ⟨[], by simp, fun _ h => by cases h⟩, ok, fun _ _ h _ => h, fun _ _ _ h => h, fun _ o h => ⟨o, h⟩⟩
theorem Go.trans (a : Go K g H g1 S1 H1) (b : Go K g1 H1 g2 S2 H2) : Go K g H g2 S2 H2 := by
  obtain ⟨m1, e1, n1⟩ := a.phi
  obtain ⟨m2, e2, n2⟩ := b.phi
  have out : ∀ x o, H x = some o → x ∉ g.phi → x ∉ g1.phi := fun x o h1 h2 h3 => by
    rw [e1] at h3
    rcases List.mem_append.mp h3 with h3 | h3
    · exact h2 h3
    · rw [n1 x h3] at h1
      cases h1
  refine ⟨a.le.trans b.le, ⟨m1 ++ m2, by rw [e2, e1, List.append_assoc], fun x hx => ?_⟩, b.ok, fun x o h1 h2 => b.fr x o (a.fr x o h1 h2) (out x o h1 h2), fun x o h1 h2 => ?_, fun x o h => ?_⟩
  · rcases List.mem_append.mp hx with hx | hx
    · exact n1 x hx
    · cases q : H x with
      | none => rfl
      | some o =>
        obtain ⟨o', q'⟩ := a.dm x o q
        rw [n2 x hx] at q'
        cases q'
  · obtain ⟨o', q⟩ := a.dm x o h1
    exact b.nw x o' q (a.nw x o h1 h2)
  · obtain ⟨o', q⟩ := a.dm x o h
    exact b.dm x o' q
/-- more frozen, the rest as it is -/
theorem VW.mono (h : Same g.fz g'.fz) (p : ∃ more, g'.phi = g.phi ++ more) : ∀ {w : W} {v : V}, VW K g v w → VW K g' v w
  | .dat d _, v, q => DR.mono h d v q
  | .loc l, _, ⟨a, e, q⟩ => by
    obtain ⟨m, e2⟩ := p
    refine ⟨a, e, ?_⟩
    rw [e2, List.getElem?_append_left (List.getElem?_eq_some_iff.mp q).1]
    exact q
  | .rng _ _, _, ⟨a, e, q⟩ => ⟨a, e, h _ _ q⟩
  | .scr _, _, ⟨a, e, q⟩ => ⟨a, e, q.mono h⟩
theorem Go.pre (a : Go K g H g1 S1 H1) : ∃ more, g1.phi = g.phi ++ more := let ⟨m, e, _⟩ := a.phi; ⟨m, e⟩
theorem Go.vw (a : Go K g H g1 S1 H1) (q : VW K g v w) : VW K g1 v w := q.mono a.le a.pre
theorem VWs.mono (h : Same g.fz g'.fz) (p : ∃ more, g'.phi = g.phi ++ more) : ∀ {ws : List W} {vs : List V}, VWs K g vs ws → VWs K g' vs ws
  | [], _, q => q
  | w :: ws, _, ⟨v, r, e, q, t⟩ => ⟨v, r, e, q.mono h p, VWs.mono h p t⟩
theorem EnvF.mono (h : Same g.fz g'.fz) (p : ∃ more, g'.phi = g.phi ++ more) (e : EnvF K g r σ) : EnvF K g' r σ := fun i w hw => by
  obtain ⟨v, h1, h2⟩ := e i w hw
  exact ⟨v, h1, h2.mono h p⟩
theorem Go.env (a : Go K g H g1 S1 H1) (e : EnvF K g r σ) : EnvF K g1 r σ := e.mono a.le a.pre

theorem Fre.nil : Fre g H [] := ⟨List.nodup_nil, fun _ h => by cases h⟩
theorem VO.lsts (h : VO K g H v w A) : ∀ a ∈ A, ∃ xs, H a = some (.lst xs) := by
  cases w with
  | dat d m => exact Own.lsts d m v A h
  | loc l => rw [h.1]; intro a z; cases z
  | rng lo hi => rw [h.1]; intro a z; cases z
  | scr ns => rw [h.1]; intro a z; cases z
theorem VO.mono (hF : Same g.fz g'.fz) (p : ∃ more, g'.phi = g.phi ++ more) (k : ∀ a ∈ A, ∀ o, H a = some o → H' a = some o) (h : VO K g H v w A) : VO K g' H' v w A := by
  cases w with
  | dat d m => exact Own.mono hF d m v A h k
  | loc l => exact ⟨h.1, VW.mono (w := .loc l) hF p h.2⟩
  | rng lo hi => exact ⟨h.1, VW.mono (w := .rng lo hi) hF p h.2⟩
  | scr ns => exact ⟨h.1, VW.mono (w := .scr ns) hF p h.2⟩
theorem VOs.mono (hF : Same g.fz g'.fz) (p : ∃ more, g'.phi = g.phi ++ more) : ∀ {ws : List W} {vs : List V} {A : List Addr}, (∀ a ∈ A, ∀ o, H a = some o → H' a = some o) → VOs K g H vs ws A → VOs K g' H' vs ws A
  | [], _, _, _, h => h
  | w :: ws, _, _, k, ⟨v, r, B, C, e, eA, q, t⟩ => ⟨v, r, B, C, e, eA, q.mono hF p fun b hb => k b (by rw [eA]; simp [hb]), VOs.mono hF p (fun b hb => k b (by rw [eA]; simp [hb])) t⟩
theorem VOs.lsts : ∀ {ws : List W} {vs : List V} {A : List Addr}, VOs K g H vs ws A → ∀ a ∈ A, ∃ xs, H a = some (.lst xs)
  | [], _, _, h => by rw [h.2]; intro a z; cases z
  | w :: ws, _, _, ⟨v, r, B, C, e, eA, q, t⟩ => by
    rw [eA]
    intro b hb
    rcases List.mem_append.mp hb with hb | hb
    · exact q.lsts b hb
    · exact VOs.lsts t b hb
/-- fresh lists stay so while others are reckoned -/
theorem Go.fre (b : Go K g1 H1 g2 S2 H2) (l : ∀ a ∈ A, ∃ xs, H1 a = some (.lst xs)) (f : Fre g1 H A) : Fre g2 H A := by
  obtain ⟨m, e, n⟩ := b.phi
  refine ⟨f.1, fun a ha => ?_⟩
  obtain ⟨f1, f2, f3⟩ := f.2 a ha
  obtain ⟨xs, q⟩ := l a ha
  refine ⟨f1, b.nw a _ q f2, fun z => ?_⟩
  rw [e] at z
  rcases List.mem_append.mp z with z | z
  · exact f3 z
  · rw [n a z] at q
    cases q
theorem Go.keep (b : Go K g1 H1 g2 S2 H2) (f : Fre g1 H A) : ∀ a ∈ A, ∀ o, H1 a = some o → H2 a = some o := fun a ha o q => b.fr a o q (f.2 a ha).2.2
theorem VO.frz (hF : Same g.fz g'.fz) (p : ∃ more, g'.phi = g.phi ++ more) (k : ∀ a ∈ A, g'.fz a = H a) (h : VO K g H v w A) : VW K g' v w := by
  cases w with
  | dat d m => exact Own.freeze hF d m v A h k
  | loc l => exact VW.mono (w := .loc l) hF p h.2
  | rng lo hi => exact VW.mono (w := .rng lo hi) hF p h.2
  | scr ns => exact VW.mono (w := .scr ns) hF p h.2
theorem VOs.frz (hF : Same g.fz g'.fz) (p : ∃ more, g'.phi = g.phi ++ more) : ∀ {ws : List W} {vs : List V} {A : List Addr}, (∀ a ∈ A, g'.fz a = H a) → VOs K g H vs ws A → VWs K g' vs ws
  | [], _, _, _, h => h.1
  | w :: ws, _, _, k, ⟨v, r, B, C, e, eA, q, t⟩ => ⟨v, r, e, q.frz hF p fun b hb => k b (by rw [eA]; simp [hb]), VOs.frz hF p (fun b hb => k b (by rw [eA]; simp [hb])) t⟩

/-- fresh lists frozen -/
theorem Go.ext (a : Go K g H g1 S1 H1) (l : ∀ x ∈ A, ∃ xs, H1 x = some (.lst xs)) (f : ∀ x ∈ A, H x = none ∧ g1.fz x = none ∧ x ∉ g1.phi) : Go K g H ⟨ext g1.fz H1 A, g1.phi⟩ S1 H1 := by
  have s1 : Same g1.fz (MP.ext g1.fz H1 A) := same_ext fun x hx => (f x hx).2.1
  refine ⟨a.le.trans s1, a.phi, ⟨fun x o e => ?_, a.ok.len, a.ok.nd, fun l x ds e1 e2 => ?_⟩, a.fr, fun x o h1 h2 => ?_, a.dm⟩
  · have e : MP.ext g1.fz H1 A x = some o := e
    by_cases m : x ∈ A
    · rw [ext_in m] at e
      exact e
    · rw [ext_out m] at e
      exact a.ok.sub x o e
  · obtain ⟨vs, q1, q2, q3, q4⟩ := a.ok.cell l x ds e1 e2
    refine ⟨vs, q1, ?_, DRs.mono s1 ds vs q3, q4⟩
    show MP.ext g1.fz H1 A x = none
    rw [ext_out fun m => (f x m).2.2 (List.mem_of_getElem? e1)]
    exact q2
  · show MP.ext g1.fz H1 A x = none
    rw [ext_out fun m => by rw [(f x m).1] at h1; cases h1]
    exact a.nw x o h1 h2
theorem Rz.fz (h : Rz K g H w S' v H') : ∃ g', Go K g H g' S' H' ∧ VW K g' v w := by
  obtain ⟨g', A, a, o, f⟩ := h
  exact ⟨_, a.ext o.lsts f.2, o.frz (same_ext fun x hx => (f.2 x hx).2.1) ⟨[], by simp⟩ fun x hx => ext_in hx⟩
theorem Rzs.fz (h : Rzs K g H ws S' vs H') : ∃ g', Go K g H g' S' H' ∧ VWs K g' vs ws := by
  obtain ⟨g', A, a, o, f⟩ := h
  exact ⟨_, a.ext o.lsts f.2, o.frz (same_ext fun x hx => (f.2 x hx).2.1) ⟨[], by simp⟩ fun x hx => ext_in hx⟩

/-! ### results -/
theorem Rz.frz (a : Go K g H g1 S1 H1) (h : DR K g1.fz v d) : Rz K g H (.dat d 0) S1 v H1 := ⟨g1, [], a, own0.mpr ⟨rfl, h⟩, Fre.nil⟩
/-- nothing but frozen values -/
theorem Rz.vw (a : Go K g H g1 S1 H1) (h : VW K g1 v w) : Rz K g H w.fz S1 v H1 := by
  cases w with
  | dat d m => exact Rz.frz a h
  | loc l => exact ⟨g1, [], a, ⟨rfl, h⟩, Fre.nil⟩
  | rng lo hi => exact ⟨g1, [], a, ⟨rfl, h⟩, Fre.nil⟩
  | scr ns => exact ⟨g1, [], a, ⟨rfl, h⟩, Fre.nil⟩
/-- a new object that is nobody's -/
theorem Go.new {p : Addr} {o : HO} (a : Go K g H g1 S1 H1) (hp : H1 p = none) : Go K g H g1 S1 (upd H1 p o) := by
  have s : Same H1 (upd H1 p o) := fun b u e => by
    rw [upd_ne (ne_of_none e hp)]
    exact e
  refine ⟨a.le, a.phi, ⟨a.ok.sub.trans s, a.ok.len, a.ok.nd, fun l x ds e1 e2 => ?_⟩, fun x u h1 h2 => s _ _ (a.fr x u h1 h2), a.nw, fun x u h => ?_⟩
  · obtain ⟨vs, q1, q2⟩ := a.ok.cell l x ds e1 e2
    exact ⟨vs, s _ _ q1, q2⟩
  · obtain ⟨u', q⟩ := a.dm x u h
    exact ⟨u', s _ _ q⟩
theorem Go.out {p : Addr} (a : Go K g H g1 S1 H1) (hp : H1 p = none) : H p = none ∧ g1.fz p = none ∧ p ∉ g1.phi := by
  refine ⟨?_, ?_, fun z => ?_⟩
  · cases q : H p with
    | none => rfl
    | some o =>
      obtain ⟨o', q'⟩ := a.dm p o q
      rw [hp] at q'
      cases q'
  · cases q : g1.fz p with
    | none => rfl
    | some o =>
      rw [a.ok.sub p o q] at hp
      cases hp
  · obtain ⟨l, hl⟩ := List.getElem?_of_mem z
    have hlt : l < S1.length := by
      rw [← a.ok.len]
      exact (List.getElem?_eq_some_iff.mp hl).1
    obtain ⟨vs, q, _⟩ := a.ok.cell l p S1[l] hl (List.getElem?_eq_getElem hlt)
    rw [hp] at q
    cases q
/-- a new object, frozen at once -/
theorem Go.newF {p : Addr} {o : HO} (a : Go K g H g1 S1 H1) (hp : H1 p = none) : Go K g H ⟨upd g1.fz p o, g1.phi⟩ S1 (upd H1 p o) := by
  obtain ⟨h1, h2, h3⟩ := a.out hp
  have b := a.new (o := o) hp
  have s1 : Same g1.fz (upd g1.fz p o) := fun x u e => by
    rw [upd_ne (ne_of_none e h2)]
    exact e
  refine ⟨b.le.trans s1, b.phi, ⟨fun x u e => ?_, b.ok.len, b.ok.nd, fun l x ds e1 e2 => ?_⟩, b.fr, fun x u q1 q2 => ?_, b.dm⟩
  · have e : upd g1.fz p o x = some u := e
    by_cases m : x = p
    · rw [m, upd_same] at e
      rw [m, upd_same]
      exact e
    · rw [upd_ne m] at e
      exact b.ok.sub x u e
  · obtain ⟨vs, q1, q2, q3, q4⟩ := b.ok.cell l x ds e1 e2
    refine ⟨vs, q1, ?_, DRs.mono s1 ds vs q3, q4⟩
    show upd g1.fz p o x = none
    have m : x ≠ p := fun m => h3 (by
      rw [← m]
      exact List.mem_of_getElem? e1)
    rw [upd_ne m]
    exact q2
  · show upd g1.fz p o x = none
    rw [upd_ne fun m => by rw [m, h1] at q1; cases q1]
    exact b.nw x u q1 q2
theorem upd_le {F : Hp} {p : Addr} {o : HO} (h : F p = none) : Same F (upd F p o) := fun x u e => by
  rw [upd_ne (ne_of_none e h)]
  exact e
theorem Rz.newT {p : Addr} (a : Go K g H g1 S1 H1) (hp : H1 p = none) (h : DRs K g1.fz vs ds) : Rz K g H (.dat (.tuple ds) 0) S1 (.ref p) (upd H1 p (.tup vs)) :=
  Rz.frz (a.newF hp) ⟨p, vs, rfl, .inl (.inl upd_same), DRs.mono (upd_le (a.out hp).2.1) ds vs h⟩
/-- a new list whose items are frozen -/
theorem Rz.newL {p : Addr} (a : Go K g H g1 S1 H1) (hp : H1 p = none) (h : DRs K g1.fz vs ds) : Rz K g H (.dat (.list ds) 1) S1 (.ref p) (upd H1 p (.lst vs)) :=
  ⟨g1, [p], a.new hp, ⟨p, vs, [], rfl, upd_same, rfl, owns0 h⟩, by simp, fun x hx => by
    have e : x = p := by simpa using hx
    rw [e]
    exact a.out hp⟩
/-- a new list of owned items -/
theorem Rz.newO {p : Addr} {n : Nat} (a : Go K g H g1 S1 H1) (hp : H1 p = none) (h : Owns K g1.fz H1 vs ds n A) (f : Fre g1 H A) : Rz K g H (.dat (.list ds) (n + 1)) S1 (.ref p) (upd H1 p (.lst vs)) := by
  have l := Owns.lsts ds n vs A h
  have np : ∀ x ∈ A, x ≠ p := fun x hx e => by
    obtain ⟨xs, q⟩ := l x hx
    rw [e, hp] at q
    cases q
  refine ⟨g1, p :: A, a.new hp, ⟨p, vs, A, rfl, upd_same, rfl, Owns.mono (fun _ _ e => e) ds n vs A h fun x hx o q => ?_⟩, List.nodup_cons.mpr ⟨fun z => np p z rfl, f.1⟩, fun x hx => ?_⟩
  · rw [upd_ne (np x hx)]
    exact q
  · rcases List.mem_cons.mp hx with e | hx
    · rw [e]
      exact a.out hp
    · exact f.2 x hx

/-- frozen data, for HandS's rules -/
theorem OkG.lst {a : Addr} {xs : List V} (ok : OkG K g S H) (h : g.fz a = some (.lst xs)) : H a = some (.lst xs) := ok.sub _ _ h
theorem OkG.tup {a : Addr} {xs : List V} (ok : OkG K g S H) (h : SqT K g.fz a xs) : SqT K H a xs := same_sqT ok.sub h
mutual
theorem DR.dp {F : Hp} (h : Same F H) : ∀ (d : D) (v : V), DR K F v d → Dp K H v d
  | .none, _, q => by
    have q : _ = _ := q
    rw [q]
    exact .non
  | .bool b, _, q => by
    have q : _ = _ := q
    rw [q]
    exact .bl b
  | .int i, _, q => by
    have q : _ = _ := q
    rw [q]
    exact .int i
  | .str x, _, q => by
    have q : _ = _ := q
    rw [q]
    exact .str x
  | .list ds, _, ⟨a, xs, e, q, r⟩ => by
    rw [e]
    exact .lst (SqL.of (h _ _ q)) (DRs.dp h ds xs r)
  | .tuple ds, _, ⟨a, xs, e, q, r⟩ => by
    rw [e]
    exact .tup (same_sqT h q) (DRs.dp h ds xs r)
  | .dict _, _, q => q.elim
theorem DRs.dp {F : Hp} (h : Same F H) : ∀ (ds : List D) (vs : List V), DRs K F vs ds → DpAll K H vs ds
  | [], _, q => by
    have q : _ = _ := q
    rw [q]
    exact .nil
  | d :: ds, _, ⟨v, r, e, q, t⟩ => by
    rw [e]
    exact .cons (DR.dp h d v q) (DRs.dp h ds r t)
end
end MP
end

section
/-! MpE1: readings; names, constants, operators. -/
namespace MP
open PySem L2

abbrev Ev := Rho → Sto → Option (W × Sto)
abbrev Evs := Rho → Sto → Option (List W × Sto)

def tE (K : PySem.W.Frag) (ev : Ev) : TE := fun σ H Q => ∃ g r S w S', OkG K g S H ∧ EnvF K g r σ ∧ ev r S = some (w, S') ∧ ∀ v H', Rz K g H w S' v H' → Q v H'
def tA (K : PySem.W.Frag) (ev : Evs) : TA := fun σ H Q => ∃ g r S ws S', OkG K g S H ∧ EnvF K g r σ ∧ ev r S = some (ws, S') ∧ ∀ vs H', Rzs K g H ws S' vs H' → Q vs H'
def tT (K : PySem.W.Frag) (ev : Ev) : TT := fun σ H Q => ∃ g r S b m S', OkG K g S H ∧ EnvF K g r σ ∧ ev r S = some (.dat (.bool b) m, S') ∧ ∀ H' g', Go K g H g' S' H' → Q b H'

theorem pe_dyn {X : Cx} {e : Expr} {t : TE} (h : ∀ σ H Q, t σ H Q → ∃ t', PE X e t' ∧ t' σ H Q) : PE X e t :=
  ⟨fun pins s σ H Q I q => let ⟨_, p, q'⟩ := h σ H Q q; p.run pins s σ H Q I q'⟩
theorem pt_dyn {X : Cx} {e : Expr} {t : TT} (h : ∀ σ H Q, t σ H Q → ∃ t', PT X e t' ∧ t' σ H Q) : PT X e t :=
  ⟨fun pins s σ H Q I q => let ⟨_, p, q'⟩ := h σ H Q q; p.run pins s σ H Q I q'⟩
theorem pe_imp {X : Cx} {e : Expr} {t t' : TE} (p : PE X e t') (h : ∀ σ H Q, t σ H Q → t' σ H Q) : PE X e t := pe_dyn fun σ H Q q => ⟨t', p, h σ H Q q⟩

variable {X : Cx} {a b c e : Expr} {ea eb ec : Ev} {pos : Pos} {g g1 g2 : Gho} {H H1 H2 : Hp} {v u : V} {w w1 w2 w3 : W} {S S1 S2 S3 : Sto} {r : Rho} {σ : L2.St} {d : D} {ds : List D} {K : PySem.W.Frag}

theorem one {R : V → Hp → Prop} (ok : OkG K g S H) (en : EnvF K g r σ) (h1 : ea r S = some (w1, S1))
    (k : ∀ v1 g1 H1, Go K g H g1 S1 H1 → VW K g1 v1 w1 → R v1 H1) : tE K ea σ H R :=
  ⟨g, r, S, w1, S1, ok, en, h1, fun v1 H1 z => let ⟨g1, a, q⟩ := z.fz; k v1 g1 H1 a q⟩
theorem two {R : V → V → Hp → Prop} (ok : OkG K g S H) (en : EnvF K g r σ) (h1 : ea r S = some (w1, S1)) (h2 : eb r S1 = some (w2, S2))
    (k : ∀ v1 v2 g2 H2, Go K g H g2 S2 H2 → VW K g2 v1 w1 → VW K g2 v2 w2 → R v1 v2 H2) : tE K ea σ H fun x H1 => tE K eb σ H1 fun y H2 => R x y H2 :=
  one ok en h1 fun v1 g1 H1 a q => one a.ok (a.env en) h2 fun v2 g2 H2 b q2 => k v1 v2 g2 H2 (a.trans b) (b.vw q) q2

/-! ### the same as a test -/
theorem p_test (h : PE X e (tE X.K ea)) (he : ∀ whole, isTrue e X.env whole = (do let v ← whole; standAt e.pos; holding [v] (truthy v))) : PT X e (tT X.K ea) :=
  pt_dyn fun σ H Q ⟨g, r, S, b, m, S', ok, en, ev, q⟩ => ⟨_, pt_val h he, one ok en ev fun v g' H' a z => ⟨b, z, q H' g' a⟩⟩

/-! ### constants, names -/
theorem p_int {i : Int} {j} : PE X (.Constant (.int i) j pos) (tE X.K fun _ S => some (.dat (.int i) 0, S)) := pe_imp pe_int fun σ H Q ⟨g, r, S, w, S', ok, en, ev, q⟩ => by
  cases ev
  exact q _ _ (Rz.frz (Go.refl ok) rfl)
theorem p_bool {b : Bool} {j} : PE X (.Constant (.bool b) j pos) (tE X.K fun _ S => some (.dat (.bool b) 0, S)) := pe_imp pe_bl fun σ H Q ⟨g, r, S, w, S', ok, en, ev, q⟩ => by
  cases ev
  exact q _ _ (Rz.frz (Go.refl ok) rfl)
theorem p_none {j} : PE X (.Constant .none j pos) (tE X.K fun _ S => some (.dat .none 0, S)) := pe_imp pe_non fun σ H Q ⟨g, r, S, w, S', ok, en, ev, q⟩ => by
  cases ev
  exact q _ _ (Rz.frz (Go.refl ok) rfl)
theorem p_str {x : Str} {j} : PE X (.Constant (.str x) j pos) (tE X.K fun _ S => some (.dat (.str x) 0, S)) := pe_imp pe_str fun σ H Q ⟨g, r, S, w, S', ok, en, ev, q⟩ => by
  cases ev
  exact q _ _ (Rz.frz (Go.refl ok) rfl)
theorem p_var {i : Nat} {x : Str} (hN : X.N[i]? = some x) (hv : Vis X.env.scope x) (hd : (x == ("__debug__" : Str)) = false) (hcd : (x == ("__classdict__" : Str)) = false) :
    PE X (.Name x pos) (tE X.K fun r S => match r[i]? with
    | some (some w) => some (w.fz, S)
    | _ => none) := pe_imp (pe_var hN hv hd hcd) fun σ H Q ⟨g, r, S, w, S', ok, en, ev, q⟩ => by
  dsimp only at ev
  split at ev
  · rename_i w' h
    cases ev
    obtain ⟨v, h1, h2⟩ := en i w' h
    exact ⟨v, h1, q _ _ (Rz.vw (Go.refl ok) h2)⟩
  · cases ev
theorem p_glob {x : Str} {d : D} {v : V} {u : Value} (hg : Gl X x) (hm : X.mg x = some u) (r : RelV v u) (h : DR X.K (fun _ => none) v d) (hd : (x == ("__debug__" : Str)) = false) :
    PE X (.Name x pos) (tE X.K fun _ S => some (.dat d 0, S)) := pe_imp (pe_glob hg hm r hd) fun σ H Q ⟨g, r, S, w, S', ok, en, ev, q⟩ => by
  cases ev
  exact q _ _ (Rz.frz (Go.refl ok) (DR.mono (fun _ _ z => by cases z) d v h))

/-! ### operators -/
def opOf : Bop → Operator
  | .add => .Add
  | .sub => .Sub
  | .mul => .Mult
  | .fdiv => .FloorDiv
  | .mod => .Mod
  | .pow => .Pow
theorem lim_line {n : Nat} (h : n ≤ LIM) : n ≤ sizeLine := Nat.le_trans h (by decide)
theorem flat_rep {α : Type} (x : α) : ∀ n : Nat, (List.replicate n [x]).flatten = List.replicate n x
  | 0 => rfl
  | n + 1 => by rw [List.replicate_succ, List.flatten_cons, flat_rep x n, List.replicate_succ]; rfl

def binE (o : Bop) (ea eb : Ev) : Ev := fun r S => match ea r S with
    | some (.dat d _, S1) => match eb r S1 with
      | some (.dat e _, S2) => match binop o d e with
        | some w => some (w, S2)
        | none => none
      | _ => none
    | _ => none
theorem p_bin (o : Bop) (ha : PE X a (tE X.K ea)) (hb : PE X b (tE X.K eb)) : PE X (.BinOp a (opOf o) b pos) (tE X.K (binE o ea eb)) := by
  refine pe_dyn ?_
  rintro σ H Q ⟨g, r, S, w, S', ok, en, ev, q⟩
  unfold binE at ev
  split at ev
  case h_2 => cases ev
  rename_i d m S1 h1
  split at ev
  case h_2 => cases ev
  rename_i e m2 S2 h2
  split at ev
  case h_2 => cases ev
  rename_i w' hop
  cases ev
  unfold binop at hop
  split at hop
  · cases hop
    exact ⟨_, pe_op op_add ha hb, two ok en h1 h2 fun v1 v2 g2 H2 a q1 q2 => ⟨_, _, q1, q2, q _ _ (Rz.frz a rfl)⟩⟩
  · split at hop
    case isFalse => cases hop
    rename_i xs ys hz
    cases hop
    refine ⟨_, pe_op op_catA ha hb, two ok en h1 h2 fun v1 v2 g2 H2 a ⟨p1, xs1, e1, t1, r1⟩ ⟨p2, xs2, e2, t2, r2⟩ => ?_⟩
    refine ⟨p1, p2, xs1, xs2, e1, e2, a.ok.tup t1, a.ok.tup t2, by rw [DRs.length r1, DRs.length r2]; exact lim_line hz, fun z => ?_, fun _ z => ?_, fun _ _ p hp => q _ _ (Rz.newT a hp (DRs.app r1 r2))⟩
    · subst z
      have l := DRs.length r1
      have l : xs = [] := List.length_eq_zero_iff.mp l.symm
      subst l
      exact q _ _ (Rz.frz a ⟨p2, xs2, rfl, t2, r2⟩)
    · subst z
      have l := DRs.length r2
      have l : ys = [] := List.length_eq_zero_iff.mp l.symm
      subst l
      rw [List.append_nil] at q
      exact q _ _ (Rz.frz a ⟨p1, xs1, rfl, t1, r1⟩)
  · split at hop
    case isFalse => cases hop
    rename_i xs ys hz
    cases hop
    refine ⟨_, pe_op op_cat ha hb, two ok en h1 h2 fun v1 v2 g2 H2 a ⟨p1, xs1, e1, t1, r1⟩ ⟨p2, xs2, e2, t2, r2⟩ => ?_⟩
    exact ⟨p1, p2, xs1, xs2, e1, e2, a.ok.lst t1, a.ok.lst t2, by rw [DRs.length r1, DRs.length r2]; exact lim_line hz, fun p hp => q _ _ (Rz.newL a hp (DRs.app r1 r2))⟩
  · cases hop
    exact ⟨_, pe_op op_sub ha hb, two ok en h1 h2 fun v1 v2 g2 H2 a q1 q2 => ⟨_, _, q1, q2, q _ _ (Rz.frz a rfl)⟩⟩
  · split at hop
    case isFalse => cases hop
    rename_i hs
    cases hop
    exact ⟨_, pe_op op_mul ha hb, two ok en h1 h2 fun v1 v2 g2 H2 a q1 q2 => ⟨_, _, q1, q2, .inl (by simpa [small] using hs), q _ _ (Rz.frz a rfl)⟩⟩
  · split at hop
    case isFalse => cases hop
    rename_i x k hk
    cases hop
    refine ⟨_, pe_op op_rep ha hb, two ok en h1 h2 fun v1 v2 g2 H2 a ⟨p1, xs1, e1, t1, r1⟩ q2 => ?_⟩
    obtain ⟨y, r, ex, ry, rn⟩ := r1
    have rn : r = [] := rn
    subst rn
    refine ⟨p1, k, xs1, e1, q2, a.ok.lst t1, by omega, by omega, ?_, fun p hp => ?_⟩
    · rw [ex, List.length_singleton, Nat.one_mul]
      exact Nat.le_trans (by omega : k.toNat ≤ 1000) (by decide)
    · rw [ex, flat_rep]
      exact q _ _ (Rz.newL a hp (DRs.rep ry _))
  · split at hop
    case isFalse => cases hop
    rename_i hs
    cases hop
    exact ⟨_, pe_op op_fdivN ha hb, two ok en h1 h2 fun v1 v2 g2 H2 a q1 q2 => ⟨_, _, q1, q2, hs, q _ _ (Rz.frz a rfl)⟩⟩
  · split at hop
    case isFalse => cases hop
    rename_i hs
    cases hop
    exact ⟨_, pe_op op_modN ha hb, two ok en h1 h2 fun v1 v2 g2 H2 a q1 q2 => ⟨_, _, q1, q2, hs, q _ _ (Rz.frz a rfl)⟩⟩
  · split at hop
    case isFalse => cases hop
    rename_i hs
    cases hop
    exact ⟨_, pe_op op_pow ha hb, two ok en h1 h2 fun v1 v2 g2 H2 a q1 q2 => ⟨_, _, q1, q2, ⟨hs.1, by omega, hs.2.2⟩, q _ _ (Rz.frz a rfl)⟩⟩
  · cases hop
end MP
end

section
/-! MpE2: comparisons, truth, displays, places, slices. -/
namespace MP
open PySem L2

variable {X : Cx} {a b c e : Expr} {ea eb ec : Ev} {pos : Pos} {g g1 g2 : Gho} {H H1 H2 : Hp} {v u : V} {w w1 w2 w3 : W} {S S1 S2 S3 : Sto} {r : Rho} {σ : L2.St} {d : D} {ds : List D} {K : PySem.W.Frag} {F : Hp}

theorem flat_of : ∀ {d : D} {v : V}, flat d = true → DR K F v d → flatV v = true
  | .none, _, _, h => by
    have h : _ = _ := h
    rw [h]
    rfl
  | .bool _, _, _, h => by
    have h : _ = _ := h
    rw [h]
    rfl
  | .int _, _, _, h => by
    have h : _ = _ := h
    rw [h]
    rfl
  | .str _, _, _, h => by
    have h : _ = _ := h
    rw [h]
    rfl
  | .list _, _, h, _ => by cases h
  | .tuple _, _, h, _ => by cases h
  | .dict _, _, h, _ => by cases h
theorem eqV_of {d e : D} {u v : V} (f : flat d = true) (f2 : flat e = true) (h : DR K F v d) (h2 : DR K F u e) : eqV u v = PyData.eqv e d := by
  cases e <;> first | (cases f2; done) | skip
  all_goals cases d <;> first | (cases f; done) | skip
  all_goals
    have h : v = _ := h
    have h2 : u = _ := h2
    subst h
    subst h2
    simp only [eqV, PyData.eqv]
theorem flats_of : ∀ {ds : List D} {vs : List V}, ds.all flat = true → DRs K F vs ds → vs.all flatV = true
  | [], _, _, h => by
    have h : _ = _ := h
    rw [h]
    rfl
  | d :: ds, _, f, ⟨v, r, e, q, t⟩ => by
    have f' : flat d = true ∧ ds.all flat = true := by simpa using f
    rw [e, List.all_cons, flat_of f'.1 q, flats_of f'.2 t]
    rfl
theorem inV_of {d : D} {v : V} (f : flat d = true) (h : DR K F v d) : ∀ {ds : List D} {vs : List V}, ds.all flat = true → DRs K F vs ds → inV v vs = inD d ds
  | [], _, _, h => by
    have h : _ = _ := h
    rw [h]
    rfl
  | d' :: ds, _, f2, ⟨v', r, e, q, t⟩ => by
    have f' : flat d' = true ∧ ds.all flat = true := by simpa using f2
    have ih := inV_of f h f'.2 t
    unfold inV inD at ih ⊢
    rw [e, List.any_cons, List.any_cons, ih, eqV_of f f'.1 h q]

def copOf : Cop → CmpOp
  | .eq => .Eq
  | .ne => .NotEq
  | .lt => .Lt
  | .le => .LtE
  | .gt => .Gt
  | .ge => .GtE
  | .isin => .In
  | .notin => .NotIn

theorem seq_of {e : D} {ys : List D} {v : V} (h : seqOf e = some ys) (ok : OkG K g S H) (q : DR K g.fz v e) : ∃ p xs, v = .ref p ∧ (SqL K H p xs ∨ SqT K H p xs) ∧ DRs K g.fz xs ys := by
  cases e <;> first | (cases h; done) | skip
  · cases h
    obtain ⟨p, xs, e1, t, r⟩ := q
    exact ⟨p, xs, e1, .inl (SqL.of (ok.lst t)), r⟩
  · cases h
    obtain ⟨p, xs, e1, t, r⟩ := q
    exact ⟨p, xs, e1, .inr (ok.tup t), r⟩

theorem cmp_rule {o : Cop} {d e : D} {x : Bool} (hu : X.A.units + 64 < cLine) (h : cmpop o d e = some x) :
    ∃ r2, OpR X (compareOp (copOf o)) r2 ∧ ∀ g S H v1 v2 (Q : VK), OkG X.K g S H → DR X.K g.fz v1 d → DR X.K g.fz v2 e → Q (.bl x) H → r2 v1 v2 H Q := by
  unfold cmpop at h
  split at h
  · split at h
    case isFalse => cases h
    rename_i hs
    cases h
    have hs : SeqAt.shaped d = true ∧ SeqAt.shaped e = true := by simpa using hs
    exact ⟨_, op_eqD hu, fun g S H v1 v2 Q ok q1 q2 q => ⟨d, e, DR.dp ok.sub d v1 q1, DR.dp ok.sub e v2 q2, hs.1, hs.2, q⟩⟩
  · split at h
    case isFalse => cases h
    rename_i hs
    cases h
    have hs : SeqAt.shaped d = true ∧ SeqAt.shaped e = true := by simpa using hs
    exact ⟨_, op_neD hu, fun g S H v1 v2 Q ok q1 q2 q => ⟨d, e, DR.dp ok.sub d v1 q1, DR.dp ok.sub e v2 q2, hs.1, hs.2, q⟩⟩
  · cases h
    exact ⟨_, op_lt, fun g S H v1 v2 Q ok q1 q2 q => ⟨_, _, q1, q2, q⟩⟩
  · cases h
    exact ⟨_, op_le, fun g S H v1 v2 Q ok q1 q2 q => ⟨_, _, q1, q2, q⟩⟩
  · cases h
    exact ⟨_, op_gt, fun g S H v1 v2 Q ok q1 q2 q => ⟨_, _, q1, q2, q⟩⟩
  · cases h
    exact ⟨_, op_ge, fun g S H v1 v2 Q ok q1 q2 q => ⟨_, _, q1, q2, q⟩⟩
  · split at h
    case h_2 => cases h
    rename_i ys hy
    split at h
    case isFalse => cases h
    rename_i hf
    cases h
    have hf : flat d = true ∧ ys.all flat = true := by simpa using hf
    refine ⟨_, op_in_seq, fun g S H v1 v2 Q ok q1 q2 q => ?_⟩
    obtain ⟨p, xs, e1, t, r⟩ := seq_of hy ok q2
    refine ⟨p, xs, e1, t, flat_of hf.1 q1, flats_of hf.2 r, ?_⟩
    rw [inV_of hf.1 q1 hf.2 r]
    exact q
  · split at h
    case h_2 => cases h
    rename_i ys hy
    split at h
    case isFalse => cases h
    rename_i hf
    cases h
    have hf : flat d = true ∧ ys.all flat = true := by simpa using hf
    refine ⟨_, op_notIn_seq, fun g S H v1 v2 Q ok q1 q2 q => ?_⟩
    obtain ⟨p, xs, e1, t, r⟩ := seq_of hy ok q2
    refine ⟨p, xs, e1, t, flat_of hf.1 q1, flats_of hf.2 r, ?_⟩
    rw [inV_of hf.1 q1 hf.2 r]
    exact q
  · cases h

def cmpE (o : Cop) (ea eb : Ev) : Ev := fun r S => match ea r S with
    | some (.dat d _, S1) => match eb r S1 with
      | some (.dat e _, S2) => match cmpop o d e with
        | some x => some (.dat (.bool x) 0, S2)
        | none => none
      | _ => none
    | _ => none
theorem p_cmp (o : Cop) (hu : X.A.units + 64 < cLine) (ha : PE X a (tE X.K ea)) (hb : PE X b (tE X.K eb)) (hm : behindInMarks (copOf o) b = false) :
    PE X (.Compare a [copOf o] [b] pos) (tE X.K (cmpE o ea eb)) := by
  refine pe_dyn ?_
  rintro σ H Q ⟨g, r, S, w, S', ok, en, ev, q⟩
  unfold cmpE at ev
  split at ev
  case h_2 => cases ev
  rename_i d m S1 h1
  split at ev
  case h_2 => cases ev
  rename_i e m2 S2 h2
  split at ev
  case h_2 => cases ev
  rename_i x hop
  cases ev
  obtain ⟨r2, hr, hk⟩ := cmp_rule hu hop
  exact ⟨_, pe_cmpR hr ha hb hm, two ok en h1 h2 fun v1 v2 g2 H2 a q1 q2 => hk g2 _ H2 v1 v2 Q a.ok q1 q2 (q _ _ (Rz.frz a rfl))⟩
theorem p_cmpT (o : Cop) (hu : X.A.units + 64 < cLine) (ha : PE X a (tE X.K ea)) (hb : PE X b (tE X.K eb)) (hm : behindInMarks (copOf o) b = false) :
    PT X (.Compare a [copOf o] [b] pos) (tT X.K (cmpE o ea eb)) := by
  refine pt_dyn ?_
  rintro σ H Q ⟨g, r, S, y, m0, S', ok, en, ev, q⟩
  unfold cmpE at ev
  split at ev
  case h_2 => cases ev
  rename_i d m S1 h1
  split at ev
  case h_2 => cases ev
  rename_i e m2 S2 h2
  split at ev
  case h_2 => cases ev
  rename_i x hop
  cases ev
  obtain ⟨r2, hr, hk⟩ := cmp_rule hu hop
  exact ⟨_, pt_cmpR hr ha hb hm, two ok en h1 h2 fun v1 v2 g2 H2 a q1 q2 => hk g2 _ H2 v1 v2 _ a.ok q1 q2 ⟨y, rfl, q H2 g2 a⟩⟩

def chainE (o o' : Cop) (ea eb ec : Ev) : Ev := fun r S => match ea r S with
    | some (.dat d _, S1) => match eb r S1 with
      | some (.dat e _, S2) => match cmpop o d e with
        | some true => match ec r S2 with
          | some (.dat f _, S3) => match cmpop o' e f with
            | some x => some (.dat (.bool x) 0, S3)
            | none => none
          | _ => none
        | some false => some (.dat (.bool false) 0, S2)
        | none => none
      | _ => none
    | _ => none
theorem OpR.none {f : Value → Value → Sem Value} : OpR X f (fun _ _ _ _ => False) := fun _ _ _ _ _ _ _ _ _ _ _ _ h => h.elim
theorem chain_run (o o' : Cop) (hu : X.A.units + 64 < cLine) {w : W} {S' : Sto} {Q : VK} (ok : OkG X.K g S H) (en : EnvF X.K g r σ) (ev : chainE o o' ea eb ec r S = some (w, S')) (q : ∀ H' g' b, w = .dat (.bool b) 0 → Go X.K g H g' S' H' → Q (.bl b) H') :
    ∃ r1 r2, OpR X (compareOp (copOf o)) r1 ∧ OpR X (compareOp (copOf o')) r2 ∧ tChain r1 r2 (tE X.K ea) (tE X.K eb) (tE X.K ec) σ H Q := by
  unfold chainE at ev
  split at ev
  case h_2 => cases ev
  rename_i d m S1 h1
  split at ev
  case h_2 => cases ev
  rename_i e m2 S2 h2
  split at ev
  case h_3 => cases ev
  · rename_i hop
    split at ev
    case h_2 => cases ev
    rename_i f m3 S3 h3
    split at ev
    case h_2 => cases ev
    rename_i x hop2
    cases ev
    obtain ⟨r1, hr1, hk1⟩ := cmp_rule hu hop
    obtain ⟨r2, hr2, hk2⟩ := cmp_rule hu hop2
    refine ⟨r1, r2, hr1, hr2, two ok en h1 h2 fun v1 v2 g2 H2 a q1 q2 => hk1 g2 _ H2 v1 v2 _ a.ok q1 q2 ⟨true, rfl, ?_⟩⟩
    rw [if_pos rfl]
    exact one a.ok (a.env en) h3 fun v3 g3 H3 b q3 => hk2 g3 _ H3 v2 v3 Q b.ok (b.vw (w := .dat e 0) q2) q3 (q H3 g3 x rfl (a.trans b))
  · rename_i hop
    cases ev
    obtain ⟨r1, hr1, hk1⟩ := cmp_rule hu hop
    refine ⟨r1, _, hr1, OpR.none, two ok en h1 h2 fun v1 v2 g2 H2 a q1 q2 => hk1 g2 _ H2 v1 v2 _ a.ok q1 q2 ⟨false, rfl, ?_⟩⟩
    rw [if_neg (by decide)]
    exact q H2 g2 false rfl a
theorem p_chain (o o' : Cop) (hu : X.A.units + 64 < cLine) (ha : PE X a (tE X.K ea)) (hb : PE X b (tE X.K eb)) (hc : PE X c (tE X.K ec)) (hm : lastMarks [copOf o, copOf o'] [b, c] = false) :
    PE X (.Compare a [copOf o, copOf o'] [b, c] pos) (tE X.K (chainE o o' ea eb ec)) := by
  refine pe_dyn ?_
  rintro σ H Q ⟨g, r, S, w, S', ok, en, ev, q⟩
  obtain ⟨r1, r2, h1, h2, h3⟩ := chain_run (Q := Q) o o' hu ok en ev fun H' g' b e a => q _ _ (by rw [e]; exact Rz.frz a rfl)
  exact ⟨_, pe_chain h1 h2 ha hb hc hm, h3⟩
theorem p_chainT (o o' : Cop) (hu : X.A.units + 64 < cLine) (ha : PE X a (tE X.K ea)) (hb : PE X b (tE X.K eb)) (hc : PE X c (tE X.K ec)) (hm : lastMarks [copOf o, copOf o'] [b, c] = false) :
    PT X (.Compare a [copOf o, copOf o'] [b, c] pos) (tT X.K (chainE o o' ea eb ec)) := by
  refine pt_dyn ?_
  rintro σ H Q ⟨g, r, S, y, m0, S', ok, en, ev, q⟩
  obtain ⟨r1, r2, h1, h2, h3⟩ := chain_run (Q := fun x H1 => ∃ k, x = .bl k ∧ Q k H1) o o' hu ok en ev fun H' g' b e a => ⟨b, rfl, by
    cases e
    exact q H' g' a⟩
  exact ⟨_, pt_chain h1 h2 ha hb hc hm, h3⟩

/-! ### is -/
def isNE (ea : Ev) : Ev := fun r S => match ea r S with
    | some (.dat d _, S1) => some (.dat (.bool (noneD d)) 0, S1)
    | _ => none
def notNE (ea : Ev) : Ev := fun r S => match ea r S with
    | some (.dat d _, S1) => some (.dat (.bool (!noneD d)) 0, S1)
    | _ => none
theorem non_of {v : V} {d : D} (h : DR K F v d) : decide (v = .non) = noneD d := by
  cases d with
  | none =>
    have h : _ = _ := h
    rw [h]
    rfl
  | bool b =>
    have h : _ = _ := h
    rw [h]
    rfl
  | int i =>
    have h : _ = _ := h
    rw [h]
    rfl
  | str x =>
    have h : _ = _ := h
    rw [h]
    rfl
  | list ds =>
    obtain ⟨p, xs, e, _⟩ := h
    rw [e]
    rfl
  | tuple ds =>
    obtain ⟨p, xs, e, _⟩ := h
    rw [e]
    rfl
  | dict _ => exact h.elim
theorem p_isN {j pos'} (ha : PE X a (tE X.K ea)) : PE X (.Compare a [.Is] [.Constant .none j pos'] pos) (tE X.K (isNE ea)) := pe_imp (pe_cmp (pc_isN ha)) (by
  rintro σ H Q ⟨g, r, S, w, S', ok, en, ev, q⟩
  unfold isNE at ev
  split at ev
  case h_2 => cases ev
  rename_i d m S1 h1
  cases ev
  exact one ok en h1 fun v1 g1 H1 a q1 => by
    rw [non_of q1]
    exact q _ _ (Rz.frz a rfl))
theorem p_notN {j pos'} (ha : PE X a (tE X.K ea)) : PE X (.Compare a [.IsNot] [.Constant .none j pos'] pos) (tE X.K (notNE ea)) := pe_imp (pe_cmp (pc_notN ha)) (by
  rintro σ H Q ⟨g, r, S, w, S', ok, en, ev, q⟩
  unfold notNE at ev
  split at ev
  case h_2 => cases ev
  rename_i d m S1 h1
  cases ev
  exact one ok en h1 fun v1 g1 H1 a q1 => by
    rw [non_of q1]
    exact q _ _ (Rz.frz a rfl))
theorem p_isNT {j pos'} (ha : PE X a (tE X.K ea)) : PT X (.Compare a [.Is] [.Constant .none j pos'] pos) (tT X.K (isNE ea)) := pt_dyn (by
  rintro σ H Q ⟨g, r, S, y, m0, S', ok, en, ev, q⟩
  unfold isNE at ev
  split at ev
  case h_2 => cases ev
  rename_i d m S1 h1
  cases ev
  exact ⟨_, pt_cmp (pc_isN ha), one ok en h1 fun v1 g1 H1 a q1 => by
    rw [non_of q1]
    exact ⟨_, rfl, q H1 g1 a⟩⟩)
theorem p_notNT {j pos'} (ha : PE X a (tE X.K ea)) : PT X (.Compare a [.IsNot] [.Constant .none j pos'] pos) (tT X.K (notNE ea)) := pt_dyn (by
  rintro σ H Q ⟨g, r, S, y, m0, S', ok, en, ev, q⟩
  unfold notNE at ev
  split at ev
  case h_2 => cases ev
  rename_i d m S1 h1
  cases ev
  exact ⟨_, pt_cmp (pc_notN ha), one ok en h1 fun v1 g1 H1 a q1 => by
    rw [non_of q1]
    exact ⟨_, rfl, q H1 g1 a⟩⟩)
def notBE (ea : Ev) (b : Bool) : Ev := fun r S => match ea r S with
    | some (.dat (.bool x) _, S1) => some (.dat (.bool (x != b)) 0, S1)
    | _ => none
theorem p_notB {b : Bool} {j pos'} (ha : PE X a (tE X.K ea)) : PE X (.Compare a [.IsNot] [.Constant (.bool b) j pos'] pos) (tE X.K (notBE ea b)) := pe_imp (pe_cmpR op_notBl ha pe_bl (nomark _)) (by
  rintro σ H Q ⟨g, r, S, w, S', ok, en, ev, q⟩
  unfold notBE at ev
  split at ev
  case h_2 => cases ev
  rename_i x m S1 h1
  cases ev
  exact one ok en h1 fun v1 g1 H1 a q1 => ⟨x, b, q1, rfl, by
    have z := q (.bl (x != b)) _ (Rz.frz a rfl)
    cases x <;> cases b <;> exact z⟩)
theorem p_notBT {b : Bool} {j pos'} (ha : PE X a (tE X.K ea)) : PT X (.Compare a [.IsNot] [.Constant (.bool b) j pos'] pos) (tT X.K (notBE ea b)) := pt_dyn (by
  rintro σ H Q ⟨g, r, S, y, m0, S', ok, en, ev, q⟩
  unfold notBE at ev
  split at ev
  case h_2 => cases ev
  rename_i x m S1 h1
  cases ev
  exact ⟨_, pt_cmpR op_notBl ha pe_bl (nomark _), one ok en h1 fun v1 g1 H1 a q1 => ⟨x, b, q1, rfl, by
    have z := q H1 g1 a
    cases x <;> cases b <;> exact ⟨_, rfl, z⟩⟩⟩)

/-! ### and, or, not, if -/
def andE (ea eb : Ev) : Ev := fun r S => match ea r S with
    | some (.dat (.bool true) _, S1) => eb r S1
    | some (.dat (.bool false) _, S1) => some (.dat (.bool false) 0, S1)
    | _ => none
def orE (ea eb : Ev) : Ev := fun r S => match ea r S with
    | some (.dat (.bool true) _, S1) => some (.dat (.bool true) 0, S1)
    | some (.dat (.bool false) _, S1) => eb r S1
    | _ => none
def notE (ea : Ev) : Ev := fun r S => match ea r S with
    | some (.dat (.bool x) _, S1) => some (.dat (.bool (!x)) 0, S1)
    | _ => none
def iteE (et ea eb : Ev) : Ev := fun r S => match et r S with
    | some (.dat (.bool true) _, S1) => ea r S1
    | some (.dat (.bool false) _, S1) => eb r S1
    | _ => none
/-- a result carried back behind a step -/
theorem Rz.back {w : W} {S' : Sto} {v : V} {H' : Hp} (a : Go K g H g1 S1 H1) (z : Rz K g1 H1 w S' v H') : Rz K g H w S' v H' := by
  obtain ⟨g', A, b, o, f⟩ := z
  refine ⟨g', A, a.trans b, o, f.1, fun x hx => ⟨?_, (f.2 x hx).2⟩⟩
  cases q : H x with
  | none => rfl
  | some u =>
    obtain ⟨u', q'⟩ := a.dm x u q
    rw [(f.2 x hx).1] at q'
    cases q'
theorem cont {Q : VK} {w : W} {S' : Sto} (a : Go K g H g1 S1 H1) (en : EnvF K g r σ) (h : ea r S1 = some (w, S')) (q : ∀ v H', Rz K g H w S' v H' → Q v H') : tE K ea σ H1 Q :=
  ⟨g1, r, S1, w, S', a.ok, a.env en, h, fun v H' z => q v H' (z.back a)⟩
variable {rest : List Expr}
theorem p_and (ha : PE X a (tE X.K ea)) (hb : PE X (.BoolOp .And (b :: rest) pos) (tE X.K eb)) : PE X (.BoolOp .And (a :: b :: rest) pos) (tE X.K (andE ea eb)) := pe_imp (pe_and ha hb) (by
  rintro σ H Q ⟨g, r, S, w, S', ok, en, ev, q⟩
  unfold andE at ev
  split at ev
  · rename_i m S1 h1
    exact one ok en h1 fun v1 g1 H1 a q1 => ⟨true, q1, by
      rw [if_pos rfl]
      exact cont a en ev q⟩
  · rename_i m S1 h1
    cases ev
    exact one ok en h1 fun v1 g1 H1 a q1 => ⟨false, q1, by
      rw [if_neg (by decide)]
      exact q _ _ (Rz.frz a rfl)⟩
  · cases ev)
theorem p_or (ha : PE X a (tE X.K ea)) (hb : PE X (.BoolOp .Or (b :: rest) pos) (tE X.K eb)) : PE X (.BoolOp .Or (a :: b :: rest) pos) (tE X.K (orE ea eb)) := pe_imp (pe_or ha hb) (by
  rintro σ H Q ⟨g, r, S, w, S', ok, en, ev, q⟩
  unfold orE at ev
  split at ev
  · rename_i m S1 h1
    cases ev
    exact one ok en h1 fun v1 g1 H1 a q1 => ⟨true, q1, by
      rw [if_pos rfl]
      exact q _ _ (Rz.frz a rfl)⟩
  · rename_i m S1 h1
    exact one ok en h1 fun v1 g1 H1 a q1 => ⟨false, q1, by
      rw [if_neg (by decide)]
      exact cont a en ev q⟩
  · cases ev)
theorem p_not (ha : PE X a (tE X.K ea)) : PE X (.UnaryOp .Not a pos) (tE X.K (notE ea)) := pe_imp (pe_not ha) (by
  rintro σ H Q ⟨g, r, S, w, S', ok, en, ev, q⟩
  unfold notE at ev
  split at ev
  case h_2 => cases ev
  rename_i x m S1 h1
  cases ev
  exact one ok en h1 fun v1 g1 H1 a q1 => ⟨x, q1, q _ _ (Rz.frz a rfl)⟩)
/-- a test walked on -/
theorem oneT {R : Bool → Hp → Prop} {x : Bool} {m : Nat} (ok : OkG K g S H) (en : EnvF K g r σ) (h1 : ea r S = some (.dat (.bool x) m, S1)) (k : ∀ g1 H1, Go K g H g1 S1 H1 → R x H1) : tT K ea σ H R :=
  ⟨g, r, S, x, m, S1, ok, en, h1, fun H' g' a => k g' H' a⟩
theorem contT {Q : Bool → Hp → Prop} {x : Bool} {m : Nat} {S' : Sto} (a : Go K g H g1 S1 H1) (en : EnvF K g r σ) (h : ea r S1 = some (.dat (.bool x) m, S')) (q : ∀ H' g', Go K g H g' S' H' → Q x H') : tT K ea σ H1 Q :=
  ⟨g1, r, S1, x, m, S', a.ok, a.env en, h, fun H' g' b => q H' g' (a.trans b)⟩
theorem p_andT (ha : PT X a (tT X.K ea)) (hb : PW X (.BoolOp .And (b :: rest) pos) (tT X.K eb)) : PW X (.BoolOp .And (a :: b :: rest) pos) (tT X.K (andE ea eb)) :=
  ⟨fun whole pins s σ H Q I hq => (pw_and ha hb).run whole pins s σ H Q I (by
    obtain ⟨g, r, S, y, m0, S', ok, en, ev, q⟩ := hq
    unfold andE at ev
    split at ev
    · rename_i m S1 h1
      exact oneT ok en h1 fun g1 H1 a => by
        rw [if_pos rfl]
        exact contT a en ev q
    · rename_i m S1 h1
      cases ev
      exact oneT ok en h1 fun g1 H1 a => by
        rw [if_neg (by decide)]
        exact q H1 g1 a
    · cases ev)⟩
theorem p_orT (ha : PT X a (tT X.K ea)) (hb : PW X (.BoolOp .Or (b :: rest) pos) (tT X.K eb)) : PW X (.BoolOp .Or (a :: b :: rest) pos) (tT X.K (orE ea eb)) :=
  ⟨fun whole pins s σ H Q I hq => (pw_or ha hb).run whole pins s σ H Q I (by
    obtain ⟨g, r, S, y, m0, S', ok, en, ev, q⟩ := hq
    unfold orE at ev
    split at ev
    · rename_i m S1 h1
      cases ev
      exact oneT ok en h1 fun g1 H1 a => by
        rw [if_pos rfl]
        exact q H1 g1 a
    · rename_i m S1 h1
      exact oneT ok en h1 fun g1 H1 a => by
        rw [if_neg (by decide)]
        exact contT a en ev q
    · cases ev)⟩
theorem p_notT (ha : PT X a (tT X.K ea)) : PT X (.UnaryOp .Not a pos) (tT X.K (notE ea)) := pt_dyn (by
  rintro σ H Q ⟨g, r, S, y, m0, S', ok, en, ev, q⟩
  unfold notE at ev
  split at ev
  case h_2 => cases ev
  rename_i x m S1 h1
  cases ev
  exact ⟨_, pt_not ha, oneT ok en h1 fun g1 H1 a => q H1 g1 a⟩)
theorem p_ite (hc : PT X c (tT X.K ec)) (ha : PE X a (tE X.K ea)) (hb : PE X b (tE X.K eb)) : PE X (.IfExp c a b pos) (tE X.K (iteE ec ea eb)) := pe_imp (pe_ifExp hc ha hb) (by
  rintro σ H Q ⟨g, r, S, w, S', ok, en, ev, q⟩
  unfold iteE at ev
  split at ev
  · rename_i m S1 h1
    exact oneT ok en h1 fun g1 H1 a => by
      rw [if_pos rfl]
      exact cont a en ev q
  · rename_i m S1 h1
    exact oneT ok en h1 fun g1 H1 a => by
      rw [if_neg (by decide)]
      exact cont a en ev q
  · cases ev)
def negE (ea : Ev) : Ev := fun r S => match ea r S with
    | some (.dat (.int i) _, S1) => some (.dat (.int (-i)) 0, S1)
    | _ => none
theorem p_neg (ha : PE X a (tE X.K ea)) : PE X (.UnaryOp .USub a pos) (tE X.K (negE ea)) := pe_imp (pe_un un_neg ha) (by
  rintro σ H Q ⟨g, r, S, w, S', ok, en, ev, q⟩
  unfold negE at ev
  split at ev
  case h_2 => cases ev
  rename_i x m S1 h1
  cases ev
  exact one ok en h1 fun v1 g1 H1 a q1 => ⟨x, q1, q _ _ (Rz.frz a rfl)⟩)

/-! ### places -/
theorem atI_of {F : Hp} {xs : List V} {ds : List D} {i : Int} {d : D} (h : DRs K F xs ds) (e : ((ixD ds.length i).bind fun j => ds[j]?) = some d) : ∃ v, atI xs i = some v ∧ DR K F v d := by
  obtain ⟨j, h1, h2⟩ := Option.bind_eq_some_iff.mp e
  obtain ⟨v, h3, h4⟩ := h.get h2
  refine ⟨v, ?_, h4⟩
  unfold atI
  have e1 : ixN xs.length i = some j := by
    rw [h.length]
    exact h1
  rw [e1]
  exact h3
def idxE (ea eb : Ev) : Ev := fun r S => match ea r S with
    | some (w, S1) => match eb r S1 with
      | some (.dat e _, S2) => match idxop S2 w e with
        | some d => some (.dat d 0, S2)
        | none => none
      | _ => none
    | _ => none
theorem p_idx (ha : PE X a (tE X.K ea)) (hb : PE X b (tE X.K eb)) (hs : PlainIx b) : PE X (.Subscript a b pos) (tE X.K (idxE ea eb)) := by
  refine pe_dyn ?_
  rintro σ H Q ⟨g, r, S, w, S', ok, en, ev, q⟩
  unfold idxE at ev
  split at ev
  case h_2 => cases ev
  rename_i w1 S1 h1
  split at ev
  case h_2 => cases ev
  rename_i e m2 S2 h2
  split at ev
  case h_2 => cases ev
  rename_i d hop
  cases ev
  unfold idxop at hop
  split at hop
  · refine ⟨_, pe_ix ix_list ha hb hs, two ok en h1 h2 fun v1 v2 g2 H2 a ⟨p, xs, e1, t1, r1⟩ q2 => ?_⟩
    obtain ⟨v, h3, h4⟩ := atI_of r1 hop
    exact ⟨p, xs, _, v, e1, q2, SqL.of (a.ok.lst t1), h3, q _ _ (Rz.frz a h4)⟩
  · refine ⟨_, pe_ix ix_tup ha hb hs, two ok en h1 h2 fun v1 v2 g2 H2 a ⟨p, xs, e1, t1, r1⟩ q2 => ?_⟩
    obtain ⟨v, h3, h4⟩ := atI_of r1 hop
    exact ⟨p, xs, _, v, e1, q2, a.ok.tup t1, h3, q _ _ (Rz.frz a h4)⟩
  · obtain ⟨xs, hx, hop⟩ := Option.bind_eq_some_iff.mp hop
    refine ⟨_, pe_ix ix_list ha hb hs, two ok en h1 h2 fun v1 v2 g2 H2 a ⟨p, e1, t1⟩ q2 => ?_⟩
    obtain ⟨vs, c1, c2, c3, c4⟩ := a.ok.cell _ _ _ t1 hx
    obtain ⟨v, h3, h4⟩ := atI_of c3 hop
    exact ⟨p, vs, _, v, e1, q2, SqL.of c1, h3, q _ _ (Rz.frz a h4)⟩
  · rename_i ns i
    obtain ⟨j, hj, hop⟩ := Option.bind_eq_some_iff.mp hop
    obtain ⟨n, hn, hop⟩ := Option.map_eq_some_iff.mp hop
    subst hop
    refine ⟨_, pe_ix ix_list ha hb hs, two ok en h1 h2 fun v1 v2 g2 H2 a ⟨p, e1, t1⟩ q2 => ?_⟩
    refine ⟨p, ns.map V.int, _, .int n, e1, q2, Scr.seq a.ok.sub t1, ?_, q _ _ (Rz.frz a rfl)⟩
    unfold atI
    have e2 : ixN (ns.map V.int).length i = some j := by
      rw [List.length_map]
      exact hj
    rw [e2]
    show (ns.map V.int)[j]? = some (.int n)
    rw [List.getElem?_map, hn]
    rfl
  · cases hop

theorem cut_lo (xs : List V) (i : Int) : cutV xs (some i) none = xs.drop (clampD xs.length i) := by
  unfold cutV
  rw [HT.sIx_none]
  show (xs.drop (clampD xs.length i)).take (xs.length - clampD xs.length i) = _
  rw [← List.length_drop, List.take_length]
theorem cut_hi (xs : List V) (i : Int) : cutV xs none (some i) = xs.take (clampD xs.length i) := by
  unfold cutV
  rw [HT.sIx_none]
  show (xs.drop 0).take (clampD xs.length i - 0) = _
  rw [List.drop_zero, Nat.sub_zero]
def slLE (ea eb : Ev) : Ev := fun r S => match ea r S with
    | some (.dat d _, S1) => match eb r S1 with
      | some (.dat e _, S2) => match slLop d e with
        | some w => some (w, S2)
        | none => none
      | _ => none
    | _ => none
def slHE (ea eb : Ev) : Ev := fun r S => match ea r S with
    | some (.dat d _, S1) => match eb r S1 with
      | some (.dat e _, S2) => match slHop d e with
        | some w => some (w, S2)
        | none => none
      | _ => none
    | _ => none
theorem whole_lo {xs : List V} {i : Int} (h : HT.sIx xs.length 0 (some i) = 0 ∧ HT.sIx xs.length xs.length none = xs.length) : clampD xs.length i = 0 := h.1
theorem whole_hi {xs : List V} {i : Int} (h : HT.sIx xs.length 0 none = 0 ∧ HT.sIx xs.length xs.length (some i) = xs.length) : clampD xs.length i = xs.length := h.2
variable {p2 : Pos}
theorem p_slL (ha : PE X a (tE X.K ea)) (hb : PE X b (tE X.K eb)) : PE X (.Subscript a (.Slice (some b) none none p2) pos) (tE X.K (slLE ea eb)) := by
  refine pe_dyn ?_
  rintro σ H Q ⟨g, r, S, w, S', ok, en, ev, q⟩
  unfold slLE at ev
  split at ev
  case h_2 => cases ev
  rename_i d m S1 h1
  split at ev
  case h_2 => cases ev
  rename_i e m2 S2 h2
  split at ev
  case h_2 => cases ev
  rename_i w1 hop
  cases ev
  unfold slLop at hop
  split at hop
  · cases hop
    refine ⟨_, pe_slice sl_list ha (po_some hb) po_none, two ok en h1 h2 fun v1 v2 g2 H2 a ⟨p, xs, e1, t1, r1⟩ q2 => ?_⟩
    refine ⟨_, q2, p, xs, e1, SqL.of (a.ok.lst t1), fun p hp => ?_⟩
    rw [cut_lo, r1.length]
    exact q _ _ (Rz.newL a hp (r1.drop _))
  · cases hop
    refine ⟨_, pe_slice sl_tupA ha (po_some hb) po_none, two ok en h1 h2 fun v1 v2 g2 H2 a ⟨p, xs, e1, t1, r1⟩ q2 => ?_⟩
    refine ⟨_, q2, p, xs, e1, a.ok.tup t1, fun z => ?_, fun z p hp => ?_⟩
    · have z := whole_lo z
      rw [r1.length] at z
      rw [z] at q
      exact q _ _ (Rz.frz a ⟨p, xs, rfl, t1, r1⟩)
    · rw [cut_lo, r1.length]
      exact q _ _ (Rz.newT a hp (r1.drop _))
  · cases hop
theorem p_slH (ha : PE X a (tE X.K ea)) (hb : PE X b (tE X.K eb)) : PE X (.Subscript a (.Slice none (some b) none p2) pos) (tE X.K (slHE ea eb)) := by
  refine pe_dyn ?_
  rintro σ H Q ⟨g, r, S, w, S', ok, en, ev, q⟩
  unfold slHE at ev
  split at ev
  case h_2 => cases ev
  rename_i d m S1 h1
  split at ev
  case h_2 => cases ev
  rename_i e m2 S2 h2
  split at ev
  case h_2 => cases ev
  rename_i w1 hop
  cases ev
  unfold slHop at hop
  split at hop
  · cases hop
    refine ⟨_, pe_slice sl_list ha po_none (po_some hb), two ok en h1 h2 fun v1 v2 g2 H2 a ⟨p, xs, e1, t1, r1⟩ q2 => ?_⟩
    refine ⟨_, q2, p, xs, e1, SqL.of (a.ok.lst t1), fun p hp => ?_⟩
    rw [cut_hi, r1.length]
    exact q _ _ (Rz.newL a hp (r1.take _))
  · cases hop
    refine ⟨_, pe_slice sl_tupA ha po_none (po_some hb), two ok en h1 h2 fun v1 v2 g2 H2 a ⟨p, xs, e1, t1, r1⟩ q2 => ?_⟩
    refine ⟨_, q2, p, xs, e1, a.ok.tup t1, fun z => ?_, fun z p hp => ?_⟩
    · have z := whole_hi z
      rw [r1.length] at z
      rw [z, List.take_length] at q
      exact q _ _ (Rz.frz a ⟨p, xs, rfl, t1, r1⟩)
    · rw [cut_hi, r1.length]
      exact q _ _ (Rz.newT a hp (r1.take _))
  · cases hop
end MP
end

section
/-! MpE3: argument lists, displays, built-in functions. -/
namespace MP
open PySem L2

variable {X : Cx} {a b c e : Expr} {es : List Expr} {ea eb ec : Ev} {eas : Evs} {pos : Pos} {g g1 g2 : Gho} {H H1 H2 : Hp} {v u : V} {vs : List V} {w w1 w2 w3 : W} {ws : List W} {S S1 S2 S3 : Sto} {r : Rho} {σ : L2.St} {d : D} {ds : List D} {K : PySem.W.Frag} {F : Hp} {A B : List Addr}

/-! ### argument lists -/
def nilE : Evs := fun _ S => some ([], S)
def consE (ea : Ev) (es : Evs) : Evs := fun r S => match ea r S with
    | some (w, S1) => match es r S1 with
      | some (ws, S2) => some (w :: ws, S2)
      | none => none
    | none => none
theorem p_nil : PA X [] (tA X.K nilE) := ⟨fun pos pins s σ H Q I hq => pa_nil.run pos pins s σ H Q I (by
  obtain ⟨g, r, S, ws, S', ok, en, ev, q⟩ := hq
  cases ev
  exact q _ _ ⟨g, [], Go.refl ok, ⟨rfl, rfl⟩, Fre.nil⟩)⟩
theorem fre_app (f : Fre g1 H A) (b : Go K g1 H1 g2 S2 H2) (a : Go K g H g1 S1 H1) (l : ∀ x ∈ A, ∃ xs, H1 x = some (.lst xs)) (f2 : Fre g2 H1 B) : Fre g2 H (A ++ B) := by
  have fa := b.fre l f
  refine ⟨List.nodup_append.mpr ⟨f.1, f2.1, fun x hx y hy e => ?_⟩, fun x hx => ?_⟩
  · obtain ⟨xs, q⟩ := l x hx
    rw [e, (f2.2 y hy).1] at q
    cases q
  · rcases List.mem_append.mp hx with hx | hx
    · exact fa.2 x hx
    · refine ⟨?_, (f2.2 x hx).2⟩
      cases q : H x with
      | none => rfl
      | some o =>
        obtain ⟨o', q'⟩ := a.dm x o q
        rw [(f2.2 x hx).1] at q'
        cases q'
theorem p_cons (ha : PE X e (tE X.K ea)) (hr : PA X es (tA X.K eas)) (hs : starEach (e :: es) X.env = (false, eval e X.env) :: starEach es X.env) : PA X (e :: es) (tA X.K (consE ea eas)) :=
  ⟨fun pos pins s σ H Q I hq => (pa_cons ha hr hs).run pos pins s σ H Q I (by
    obtain ⟨g, r, S, ws, S', ok, en, ev, q⟩ := hq
    unfold consE at ev
    split at ev
    case h_2 => cases ev
    rename_i w S1 h1
    split at ev
    case h_2 => cases ev
    rename_i ws S2 h2
    cases ev
    refine ⟨g, r, S, w, S1, ok, en, h1, fun v H1 ⟨g1, A, a, o, f⟩ => ⟨g1, r, S1, ws, S', a.ok, a.env en, h2, fun vs H2 ⟨g2, B, b, o2, f2⟩ => ?_⟩⟩
    exact q _ _ ⟨g2, A ++ B, a.trans b, ⟨v, vs, A, B, rfl, rfl, o.mono b.le b.pre (b.keep f), o2⟩, fre_app f b a o.lsts f2⟩)⟩

/-- the values' data -/
theorem drs_of : ∀ {ws : List W} {vs : List V} {ds : List (D × Nat)}, datAll ws = some ds → VWs K g vs ws → DRs K g.fz vs (ds.map (·.1))
  | [], _, _, h, q => by
    cases h
    exact q
  | .dat d m :: ws, _, _, h, ⟨v, r, e, q, t⟩ => by
    simp only [datAll] at h
    split at h
    case h_2 => cases h
    rename_i ds hd
    cases h
    exact ⟨v, r, e, q, drs_of hd t⟩
  | .loc _ :: _, _, _, h, _ => by cases h
  | .rng _ _ :: _, _, _, h, _ => by cases h
  | .scr _ :: _, _, _, h, _ => by cases h
theorem datAll_w : ∀ {ws : List W} {ds : List (D × Nat)}, datAll ws = some ds → ws = ds.map fun p => W.dat p.1 p.2
  | [], _, h => by
    cases h
    rfl
  | .dat d m :: ws, _, h => by
    simp only [datAll] at h
    split at h
    case h_2 => cases h
    rename_i ds hd
    cases h
    rw [List.map_cons, ← datAll_w hd]
  | .loc _ :: _, _, h => by cases h
  | .rng _ _ :: _, _, h => by cases h
  | .scr _ :: _, _, h => by cases h

/-! ### a list of fresh items -/
/-- items whose lists are all owned: their own addresses, and the deeper ones, which may be frozen -/
theorem lower : ∀ {ds : List (D × Nat)} {vs : List V} {A : List Addr}, dOf ds = 2 → VOs K g H vs (ds.map fun p => W.dat p.1 p.2) A →
    ∃ B C : List Addr, (∀ x ∈ B, x ∈ A) ∧ (∀ x ∈ C, x ∈ A) ∧ (A.Nodup → B.Nodup ∧ ∀ x ∈ B, x ∉ C) ∧ ∀ F', Same g.fz F' → (∀ x ∈ C, F' x = H x) → Owns K F' H vs (ds.map (·.1)) 1 B
  | [], _, _, _, h => ⟨[], [], by simp, by simp, by simp, fun F' _ _ => ⟨h.1, rfl⟩⟩
  | (d, m) :: ds, _, _, hd, hv => by
    obtain ⟨v, r, A1, A2, e, eA, q0, t⟩ := hv
    unfold dOf at hd
    split at hd
    case isTrue => cases hd
    rename_i hl
    obtain ⟨B, C, b1, b2, b3, b4⟩ := lower hd t
    have q : Own K g.fz H v d m A1 := q0
    clear q0
    by_cases hi : isL d = true
    · cases d <;> first | (cases hi; done) | skip
      rename_i xs
      cases m with
      | zero => exact absurd rfl hl
      | succ n =>
        obtain ⟨a, ys, A3, ev, hH, eA1, t1⟩ := q
        refine ⟨a :: B, A3 ++ C, fun x hx => ?_, fun x hx => ?_, fun nd => ?_, fun F' hF hC => ⟨v, r, [a], B, e, rfl, ⟨a, ys, [], ev, hH, rfl, owns0 (Owns.freeze hF xs n ys A3 t1 fun x hx => hC x (by simp [hx]))⟩, b4 F' hF fun x hx => hC x (by simp [hx])⟩⟩
        · rw [eA, eA1]
          rcases List.mem_cons.mp hx with z | z
          · simp [z]
          · simp [b1 x z]
        · rw [eA, eA1]
          rcases List.mem_append.mp hx with z | z
          · simp [z]
          · simp [b2 x z]
        · rw [eA, eA1] at nd
          obtain ⟨n1, n2, n3⟩ := List.nodup_append.mp nd
          obtain ⟨n4, n5⟩ := List.nodup_cons.mp n1
          obtain ⟨c1, c2⟩ := b3 n2
          refine ⟨List.nodup_cons.mpr ⟨fun z => n3 a (by simp) a (b1 a z) rfl, c1⟩, fun x hx hx2 => ?_⟩
          rcases List.mem_cons.mp hx with z | z
          · rw [z] at hx2
            rcases List.mem_append.mp hx2 with y | y
            · exact n4 y
            · exact n3 a (by simp) a (b2 a y) rfl
          · rcases List.mem_append.mp hx2 with y | y
            · exact n3 x (by simp [y]) x (b1 x z) rfl
            · exact c2 x z y
    · have hi : isL d = false := by simpa using hi
      obtain ⟨eA1, q⟩ := own_atom' hi q
      rw [eA1, List.nil_append] at eA
      rw [eA]
      exact ⟨B, C, b1, b2, b3, fun F' hF hC => ⟨v, r, [], B, e, rfl, own_atom hi (DR.mono hF d v q), b4 F' hF hC⟩⟩
theorem dOf_or (ds : List (D × Nat)) : dOf ds = 2 ∨ dOf ds = 1 := by
  induction ds with
  | nil => exact .inl rfl
  | cons p r ih =>
    unfold dOf
    split
    · exact .inr rfl
    · exact ih
/-- the finished list at p -/
theorem Rz.fin {p : Addr} {dm : List (D × Nat)} (a : Go K g H g1 S1 H1) (hp : H1 p = some (.lst vs)) (h0 : H p = none) (h1 : g1.fz p = none) (h2 : p ∉ g1.phi) (o : VOs K g1 H1 vs (dm.map fun q => W.dat q.1 q.2) A) (f : Fre g1 H A) (np : p ∉ A) :
    Rz K g H (.dat (.list (dm.map (·.1))) (dOf dm)) S1 (.ref p) H1 := by
  rcases dOf_or dm with e | e
  · obtain ⟨B, C, b1, b2, b3, b4⟩ := lower e o
    obtain ⟨n1, n2⟩ := b3 f.1
    rw [e]
    have lC : ∀ x ∈ C, ∃ xs, H1 x = some (.lst xs) := fun x hx => o.lsts x (b2 x hx)
    refine ⟨⟨MP.ext g1.fz H1 C, g1.phi⟩, p :: B, a.ext lC fun x hx => f.2 x (b2 x hx), ⟨p, vs, B, rfl, hp, rfl, b4 _ (same_ext fun x hx => (f.2 x (b2 x hx)).2.1) fun x hx => ext_in hx⟩, List.nodup_cons.mpr ⟨fun z => np (b1 p z), n1⟩, fun x hx => ?_⟩
    rcases List.mem_cons.mp hx with z | z
    · rw [z]
      exact ⟨h0, (ext_out fun y => np (b2 p y)).trans h1, h2⟩
    · obtain ⟨c1, c2, c3⟩ := f.2 x (b1 x z)
      exact ⟨c1, (ext_out (n2 x z)).trans c2, c3⟩
  · rw [e]
    have s1 : Same g1.fz (MP.ext g1.fz H1 A) := same_ext fun x hx => (f.2 x hx).2.1
    have o2 := VOs.frz (g' := ⟨MP.ext g1.fz H1 A, g1.phi⟩) s1 ⟨[], by simp⟩ (fun x hx => ext_in hx) o
    have hd : datAll (dm.map fun q => W.dat q.1 q.2) = some dm := by
      clear e o f np o2 a hp
      induction dm with
      | nil => rfl
      | cons q r ih =>
        rw [List.map_cons]
        simp only [datAll]
        rw [ih]
    exact ⟨⟨MP.ext g1.fz H1 A, g1.phi⟩, [p], a.ext o.lsts f.2, ⟨p, vs, [], rfl, hp, rfl, owns0 (drs_of hd o2)⟩, by simp, fun x hx => by
      have z : x = p := by simpa using hx
      rw [z]
      exact ⟨h0, (ext_out np).trans h1, h2⟩⟩

/-! ### displays -/
def tupE (es : Evs) : Ev := fun r S => match es r S with
    | some (ws, S1) => match datAll ws with
      | some ds => if ds.length ≤ LIM then some (.dat (.tuple (ds.map (·.1))) 0, S1) else none
      | none => none
    | none => none
def lstE (es : Evs) : Ev := fun r S => match es r S with
    | some (ws, S1) => match datAll ws with
      | some ds => if ds.length ≤ LIM then some (.dat (.list (ds.map (·.1))) (dOf ds), S1) else none
      | none => none
    | none => none
theorem p_tup {k : Nat} (h : PA X es (tA X.K eas)) : PE X (.Tuple es k pos) (tE X.K (tupE eas)) := pe_imp (pe_tup h) (by
  rintro σ H Q ⟨g, r, S, w, S', ok, en, ev, q⟩
  unfold tupE at ev
  split at ev
  case h_2 => cases ev
  rename_i ws S1 h1
  split at ev
  case h_2 => cases ev
  rename_i ds hd
  split at ev
  case isFalse => cases ev
  rename_i hl
  cases ev
  refine ⟨g, r, S, ws, S', ok, en, h1, fun vs H1 z => ?_⟩
  obtain ⟨g1, a, o⟩ := z.fz
  have o := drs_of hd o
  refine ⟨by rw [o.length, List.length_map]; exact lim_line hl, fun p hp => q _ _ (Rz.newT a hp o)⟩)
theorem VOs.length : ∀ {ws : List W} {vs : List V} {A : List Addr}, VOs K g H vs ws A → vs.length = ws.length
  | [], vs, _, h => by
    have h : vs = [] := h.1
    rw [h]
    rfl
  | _ :: _, _, _, ⟨v, r, B, C, e, _, _, t⟩ => by rw [e, List.length_cons, List.length_cons, VOs.length t]
theorem p_lst (h : PA X es (tA X.K eas)) : PE X (.List es pos) (tE X.K (lstE eas)) := pe_imp (pe_lst h) (by
  rintro σ H Q ⟨g, r, S, w, S', ok, en, ev, q⟩
  unfold lstE at ev
  split at ev
  case h_2 => cases ev
  rename_i ws S1 h1
  split at ev
  case h_2 => cases ev
  rename_i ds hd
  split at ev
  case isFalse => cases ev
  rename_i hl
  cases ev
  refine ⟨g, r, S, ws, S', ok, en, h1, fun vs H1 ⟨g1, A, a, o, f⟩ => ?_⟩
  have ew := datAll_w hd
  refine ⟨by rw [o.length, ew, List.length_map]; exact lim_line hl, fun p hp => q _ _ ?_⟩
  obtain ⟨z1, z2, z3⟩ := a.out hp
  have k : ∀ x ∈ A, ∀ o', H1 x = some o' → upd H1 p (.lst vs) x = some o' := fun x _ o' e => by
    rw [upd_ne (ne_of_none e hp)]
    exact e
  rw [ew] at o
  exact Rz.fin (a.new hp) upd_same z1 z2 z3 (o.mono (fun _ _ e => e) ⟨[], by simp⟩ k) f fun hx => by
    obtain ⟨xs, e⟩ := o.lsts p hx
    rw [hp] at e
    cases e)

/-! ### built-in functions -/
theorem vws1 {vs : List V} {w : W} (h : VWs K g vs [w]) : ∃ v, vs = [v] ∧ VW K g v w := by
  obtain ⟨v, r, e, q, t⟩ := h
  have t : r = [] := t
  exact ⟨v, by rw [e, t], q⟩
theorem vws2 {vs : List V} {w w' : W} (h : VWs K g vs [w, w']) : ∃ v v', vs = [v, v'] ∧ VW K g v w ∧ VW K g v' w' := by
  obtain ⟨v, r, e, q, t⟩ := h
  obtain ⟨v', e', q'⟩ := vws1 t
  exact ⟨v, v', by rw [e, e'], q, q'⟩
theorem ints_of : ∀ {ds : List D} {ns : List Int} {vs : List V}, allInts ds = some ns → DRs K F vs ds → vs = ns.map V.int
  | [], _, _, h, q => by
    cases h
    exact q
  | .int i :: ds, _, _, h, ⟨v, r, e, q, t⟩ => by
    simp only [allInts] at h
    obtain ⟨ns, hn, h⟩ := Option.map_eq_some_iff.mp h
    have q : v = .int i := q
    rw [← h, e, q, ints_of hn t]
    rfl
  | .none :: _, _, _, h, _ => by cases h
  | .bool _ :: _, _, _, h, _ => by cases h
  | .str _ :: _, _, _, h, _ => by cases h
  | .list _ :: _, _, _, h, _ => by cases h
  | .tuple _ :: _, _, _, h, _ => by cases h
  | .dict _ :: _, _, _, h, _ => by cases h
theorem bools_of : ∀ {ds : List D} {bs : List Bool} {vs : List V}, allBools ds = some bs → DRs K F vs ds → vs = bs.map V.bl
  | [], _, _, h, q => by
    cases h
    exact q
  | .bool i :: ds, _, _, h, ⟨v, r, e, q, t⟩ => by
    simp only [allBools] at h
    obtain ⟨ns, hn, h⟩ := Option.map_eq_some_iff.mp h
    have q : v = .bl i := q
    rw [← h, e, q, bools_of hn t]
    rfl
  | .none :: _, _, _, h, _ => by cases h
  | .int _ :: _, _, _, h, _ => by cases h
  | .str _ :: _, _, _, h, _ => by cases h
  | .list _ :: _, _, _, h, _ => by cases h
  | .tuple _ :: _, _, _, h, _ => by cases h
  | .dict _ :: _, _, _, h, _ => by cases h
theorem drs_ints : ∀ ns : List Int, DRs K F (ns.map V.int) (ns.map PyData.int)
  | [] => rfl
  | n :: ns => ⟨_, _, rfl, rfl, drs_ints ns⟩
theorem maxI_ge : ∀ (ns : List Int) (m : Int), m ≤ maxI m ns ∧ ∀ x ∈ ns, x ≤ maxI m ns
  | [], m => ⟨Int.le_refl _, fun _ h => by cases h⟩
  | n :: ns, m => by
    have ih := maxI_ge ns (if m < n then n else m)
    unfold maxI
    have h1 : m ≤ (if m < n then n else m) := by split <;> omega
    have h2 : n ≤ (if m < n then n else m) := by split <;> omega
    refine ⟨Int.le_trans h1 ih.1, fun x hx => ?_⟩
    rcases List.mem_cons.mp hx with e | hx
    · rw [e]
      exact Int.le_trans h2 ih.1
    · exact ih.2 x hx
theorem maxI_mem : ∀ (ns : List Int) (m : Int), maxI m ns = m ∨ maxI m ns ∈ ns
  | [], _ => .inl rfl
  | n :: ns, m => by
    unfold maxI
    rcases maxI_mem ns (if m < n then n else m) with h | h
    · rw [h]
      split
      · exact .inr (by simp)
      · exact .inl rfl
    · exact .inr (by simp [h])
theorem minI_le : ∀ (ns : List Int) (m : Int), minI m ns ≤ m ∧ ∀ x ∈ ns, minI m ns ≤ x
  | [], m => ⟨Int.le_refl _, fun _ h => by cases h⟩
  | n :: ns, m => by
    have ih := minI_le ns (if n < m then n else m)
    unfold minI
    have h1 : (if n < m then n else m) ≤ m := by split <;> omega
    have h2 : (if n < m then n else m) ≤ n := by split <;> omega
    refine ⟨Int.le_trans ih.1 h1, fun x hx => ?_⟩
    rcases List.mem_cons.mp hx with e | hx
    · rw [e]
      exact Int.le_trans ih.1 h2
    · exact ih.2 x hx
theorem minI_mem : ∀ (ns : List Int) (m : Int), minI m ns = m ∨ minI m ns ∈ ns
  | [], _ => .inl rfl
  | n :: ns, m => by
    unfold minI
    rcases minI_mem ns (if n < m then n else m) with h | h
    · rw [h]
      split
      · exact .inr (by simp)
      · exact .inl rfl
    · exact .inr (by simp [h])
theorem insI_perm (x : Int) : ∀ ys : List Int, (insI x ys).Perm (x :: ys)
  | [] => .refl _
  | y :: ys => by
    unfold insI
    split
    · exact .refl _
    · exact ((insI_perm x ys).cons y).trans (.swap x y ys)
theorem sortI_perm : ∀ xs : List Int, (sortI xs).Perm xs
  | [] => .refl _
  | x :: xs => (insI_perm x (sortI xs)).trans ((sortI_perm xs).cons x)
theorem insI_sorted (x : Int) : ∀ ys : List Int, ys.Pairwise (· ≤ ·) → (insI x ys).Pairwise (· ≤ ·)
  | [], _ => by simp [insI]
  | y :: ys, h => by
    obtain ⟨h1, h2⟩ := List.pairwise_cons.mp h
    unfold insI
    split
    · rename_i hx
      refine List.pairwise_cons.mpr ⟨fun z hz => ?_, h⟩
      rcases List.mem_cons.mp hz with e | hz
      · rw [e]
        exact hx
      · exact Int.le_trans hx (h1 z hz)
    · rename_i hx
      refine List.pairwise_cons.mpr ⟨fun z hz => ?_, insI_sorted x ys h2⟩
      rcases List.mem_cons.mp ((insI_perm x ys).mem_iff.mp hz) with e | hz
      · rw [e]
        omega
      · exact h1 z hz
theorem sortI_sorted : ∀ xs : List Int, (sortI xs).Pairwise (· ≤ ·)
  | [] => .nil
  | x :: xs => insI_sorted x _ (sortI_sorted xs)
theorem sorted_eq : ∀ {xs ys : List Int}, xs.Perm ys → xs.Pairwise (· ≤ ·) → ys.Pairwise (· ≤ ·) → xs = ys
  | [], ys, h, _, _ => (List.nil_perm.mp h).symm
  | x :: xs, [], h, _, _ => List.perm_nil.mp h
  | x :: xs, y :: ys, h, h1, h2 => by
    obtain ⟨a1, a2⟩ := List.pairwise_cons.mp h1
    obtain ⟨b1, b2⟩ := List.pairwise_cons.mp h2
    have e : x = y := by
      have m1 : x ∈ y :: ys := h.mem_iff.mp (by simp)
      have m2 : y ∈ x :: xs := h.mem_iff.mpr (by simp)
      rcases List.mem_cons.mp m1 with q | q
      · exact q
      · rcases List.mem_cons.mp m2 with q' | q'
        · exact q'.symm
        · exact Int.le_antisymm (a1 y q') (b1 x q)
    subst e
    rw [sorted_eq (List.Perm.cons_inv h) a2 b2]

/-! repr of data -/
mutual
theorem shown_le : ∀ d : D, d.hasDict = false → d.shown.length ≤ wt d
  | .none, _ => by decide +kernel
  | .bool true, _ => by decide +kernel
  | .bool false, _ => by decide +kernel
  | .int i, _ => by
    simp only [PyData.shown, wt]
    have h := int_text_length_le (a := i) (k := i.natAbs.log2 + 1) (by omega) (by omega)
    have e : (Str.ofString (toString i)).length = (toString i).length := ofString_length _
    exact Nat.le_trans (Nat.le_of_eq e) (by omega)
  | .str x, _ => by
    simp only [PyData.shown, wt]
    exact Nat.le_refl _
  | .list xs, h => by
    simp only [PyData.shown, wt]
    have h1 := shownAll_le xs (by simpa only [PyData.hasDict] using h)
    have h2 := listText_len_le (PyData.shownAll xs)
    omega
  | .tuple xs, h => by
    simp only [PyData.shown, wt]
    have h1 := shownAll_le xs (by simpa only [PyData.hasDict] using h)
    have h2 := tupleText_len_le (PyData.shownAll xs)
    omega
  | .dict _, h => by simp [PyData.hasDict] at h
theorem shownAll_le : ∀ ds : List D, PyData.hasDictAll ds = false → ((PyData.shownAll ds).map (·.length)).sum + 2 * (PyData.shownAll ds).length ≤ wtAll ds
  | [], _ => Nat.le_refl _
  | d :: ds, h => by
    have h : d.hasDict = false ∧ PyData.hasDictAll ds = false := by simpa [PyData.hasDictAll] using h
    have h1 := shown_le d h.1
    have h2 := shownAll_le ds h.2
    simp only [PyData.shownAll, wtAll, List.map_cons, List.sum_cons, List.length_cons]
    omega
end
end MP
end

section
/-! MpE4: built-in functions, isinstance. -/
namespace MP
open PySem L2

variable {X : Cx} {a b c e : Expr} {es : List Expr} {ea eb ec : Ev} {eas : Evs} {pos p1 p2 : Pos} {g g1 g2 : Gho} {H H1 H2 : Hp} {v u : V} {vs : List V} {w w1 w2 w3 : W} {ws : List W} {S S1 S2 S3 : Sto} {r : Rho} {σ : L2.St} {d : D} {ds : List D} {K : PySem.W.Frag} {F : Hp} {A B : List Addr}

/-! ### repr -/
theorem call_reprD (hg : X.A.guards = some []) (hu : X.A.units + 100 < cLine) : CallR X (.builtin "repr") (fun xs H Q => ∃ v d, xs = [v] ∧ Dp X.K H v d ∧ d.showable = true ∧ d.depth ≤ 64 ∧ wt d ≤ 1000000 ∧ d.hasDict = false ∧ Q (.str d.shown) H) := by
  intro pins s σ H xs us Q I r h
  obtain ⟨v, d, rfl, hd, h1, h2, h3, h4, q⟩ := h
  obtain ⟨u, rfl, rx⟩ := vals1 r
  have hz : d.shown.length ≤ sizeLine := Nat.le_trans (shown_le d h4) (Nat.le_trans h3 (by decide))
  cases hd with
  | non =>
    cases rx
    exact P.repr_of_none ⟨.str _, H, I.tok _, ⟨_, rfl⟩, q⟩
  | bl b =>
    cases rx
    exact P.repr_of_bool ⟨.str _, H, I.tok _, ⟨_, rfl⟩, q⟩
  | int i =>
    obtain ⟨t, rfl⟩ := rx
    exact P.repr_of_int (by simpa [PyData.showable] using h1) ⟨.str _, H, I.tok _, ⟨_, rfl⟩, q⟩
  | str x =>
    obtain ⟨t, rfl⟩ := rx
    exact P.repr_of_str ⟨.str _, H, I.tok _, ⟨_, rfl⟩, q⟩ (by simpa [PyData.shown] using hz)
  | lst hs ha =>
    cases rx
    obtain ⟨as, rd⟩ := Dp.reads I _ _ _ (.lst hs ha) (RelV_ref _)
    refine repr_of_reads' rd h1 (fun z => by rw [h4] at z; cases z) hg (by omega) (fun _ _ e => e) (fun h' u tk k => ⟨.str _, H, I.kept (t' := tk) k, ⟨_, rfl⟩, q⟩) hz
  | tup hs ha =>
    cases rx
    obtain ⟨as, rd⟩ := Dp.reads I _ _ _ (.tup hs ha) (RelV_ref _)
    refine repr_of_reads' rd h1 (fun z => by rw [h4] at z; cases z) hg (by omega) (fun _ _ e => e) (fun h' u tk k => ⟨.str _, H, I.kept (t' := tk) k, ⟨_, rfl⟩, q⟩) hz
where RelV_ref (a : Addr) : RelV (.ref a) (.ref a) := rfl

/-! ### range(n) as a value -/
theorem cr_range1 : CallR X (.type "range") (fun vs H Q => ∃ n, vs = [V.int n] ∧ ∀ p, H p = none → Q (.ref p) (upd H p (.rng 0 n))) := by
  intro pins s σ H vs us Q I r h
  obtain ⟨n, rfl, q⟩ := h
  obtain ⟨u, rfl, t, rfl⟩ := vals1 r
  refine call_range_1 ⟨.ref s.heap.objs.size, upd H s.heap.objs.size (.rng 0 n), I.laid (t' := s.toks + 1 + 1) (fun b o e => Heap.get?_push_of_some _ e) (Nat.le_refl _) ?_, rfl, q _ (I.hok.fresh (Nat.le_refl _))⟩
  exact ⟨s.toks, t, s.toks + 1, Heap.get?_push_size _ rfl⟩

/-- a built-in function's rule, by values -/
def biId : Bi → Option (Str × String × Bool)
  | .len => some ("len", "len", true)
  | .abs => some ("abs", "abs", true)
  | .max2 => some ("max", "max", true)
  | .min2 => some ("min", "min", true)
  | .maxL => some ("max", "max", true)
  | .minL => some ("min", "min", true)
  | .all => some ("all", "all", true)
  | .any => some ("any", "any", true)
  | .repr => some ("repr", "repr", true)
  | .divmod => some ("divmod", "divmod", true)
  | .sorted => some ("sorted", "sorted", true)
  | .int => some ("int", "int", false)
  | .list => some ("list", "list", false)
  | .tuple => some ("tuple", "tuple", false)
  | .rangeV => some ("range", "range", false)
  | .setlen => none
  | .listrng => none
def biVal (id : String) (f : Bool) : Value := if f then .builtin id else .type id

theorem len_list {n : Nat} : ((n : Nat) : Int) = (n : Int) := rfl
theorem max_uniq {ns : List Int} {n m : Int} (h1 : m ∈ n :: ns) (h2 : ∀ y ∈ n :: ns, y ≤ m) : m = maxI n ns := by
  obtain ⟨a1, a2⟩ := maxI_ge ns n
  refine Int.le_antisymm ?_ ?_
  · rcases List.mem_cons.mp h1 with e | h1
    · rw [e]
      exact a1
    · exact a2 m h1
  · rcases maxI_mem ns n with e | e
    · rw [e]
      exact h2 n (by simp)
    · exact h2 _ (by simp [e])
theorem min_uniq {ns : List Int} {n m : Int} (h1 : m ∈ n :: ns) (h2 : ∀ y ∈ n :: ns, m ≤ y) : m = minI n ns := by
  obtain ⟨a1, a2⟩ := minI_le ns n
  refine Int.le_antisymm ?_ ?_
  · rcases minI_mem ns n with e | e
    · rw [e]
      exact h2 n (by simp)
    · exact h2 _ (by simp [e])
  · rcases List.mem_cons.mp h1 with e | h1
    · rw [e]
      exact a1
    · exact a2 m h1
/-- the rule of each: what it hands back is what biop tells -/
theorem bi_rule {bi : Bi} {x : Str} {id : String} {f : Bool} (hi : biId bi = some (x, id, f)) (hc : X.calm = true) (hgd : X.A.guards = some []) (hu : X.A.units + 100 < cLine) (h : biop S1 bi ws = some w) :
    ∃ r2, CallR X (biVal id f) r2 ∧ ∀ g g1 H H1 vs (Q : VK), Go X.K g H g1 S1 H1 → VWs X.K g1 vs ws → (∀ v H', Rz X.K g H w S1 v H' → Q v H') → r2 vs H1 Q := by
  unfold biop at h
  split at h
  · -- len of a list
    split at h
    case isFalse => cases h
    rename_i hl
    cases h
    cases hi
    refine ⟨_, call_len, fun g g1 H H1 vs Q a z q => ?_⟩
    obtain ⟨v, rfl, p, xs, e, t, r⟩ := vws1 z
    exact ⟨v, xs.length, rfl, by rw [e]; exact .inl ⟨xs, SqL.of (a.ok.lst t), rfl⟩, by rw [r.length]; exact q _ _ (Rz.frz a rfl)⟩
  · split at h
    case isFalse => cases h
    rename_i hl
    cases h
    cases hi
    refine ⟨_, call_len, fun g g1 H H1 vs Q a z q => ?_⟩
    obtain ⟨v, rfl, p, xs, e, t, r⟩ := vws1 z
    exact ⟨v, xs.length, rfl, by rw [e]; exact .inr ⟨xs, a.ok.tup t, rfl⟩, by rw [r.length]; exact q _ _ (Rz.frz a rfl)⟩
  · split at h
    case isFalse => cases h
    rename_i ns hl
    cases h
    cases hi
    refine ⟨_, call_len, fun g g1 H H1 vs Q a z q => ?_⟩
    obtain ⟨v, rfl, p, e, t⟩ := vws1 z
    exact ⟨v, (ns.map V.int).length, rfl, by rw [e]; exact .inl ⟨_, Scr.seq a.ok.sub t, rfl⟩, by rw [List.length_map]; exact q _ _ (Rz.frz a rfl)⟩
  · cases h
    cases hi
    refine ⟨_, call_abs, fun g g1 H H1 vs Q a z q => ?_⟩
    obtain ⟨v, rfl, e⟩ := vws1 z
    exact ⟨_, by rw [show v = _ from e], q _ _ (Rz.frz a rfl)⟩
  · cases h
    cases hi
    refine ⟨_, call_max2 hc, fun g g1 H H1 vs Q a z q => ?_⟩
    obtain ⟨v, v', rfl, e, e'⟩ := vws2 z
    exact ⟨_, _, by rw [show v = _ from e, show v' = _ from e'], q _ _ (Rz.frz a rfl)⟩
  · cases h
    cases hi
    refine ⟨_, call_min2 hc, fun g g1 H H1 vs Q a z q => ?_⟩
    obtain ⟨v, v', rfl, e, e'⟩ := vws2 z
    exact ⟨_, _, by rw [show v = _ from e, show v' = _ from e'], q _ _ (Rz.frz a rfl)⟩
  · split at h
    case h_2 => cases h
    rename_i n ns hn
    cases h
    cases hi
    refine ⟨_, cr_max hc, fun g g1 H H1 vs Q a z q => ?_⟩
    obtain ⟨v, rfl, p, xs, e, t, r⟩ := vws1 z
    rw [ints_of hn r] at t
    refine ⟨p, n :: ns, by rw [e], SqL.of (a.ok.lst t), by simp, fun m h1 h2 => ?_⟩
    rw [max_uniq h1 h2]
    exact q _ _ (Rz.frz a rfl)
  · split at h
    case h_2 => cases h
    rename_i n ns hn
    cases h
    cases hi
    refine ⟨_, cr_min hc, fun g g1 H H1 vs Q a z q => ?_⟩
    obtain ⟨v, rfl, p, xs, e, t, r⟩ := vws1 z
    rw [ints_of hn r] at t
    refine ⟨p, n :: ns, by rw [e], SqL.of (a.ok.lst t), by simp, fun m h1 h2 => ?_⟩
    rw [min_uniq h1 h2]
    exact q _ _ (Rz.frz a rfl)
  · obtain ⟨bs, hb, h⟩ := Option.map_eq_some_iff.mp h
    subst h
    cases hi
    refine ⟨_, cr_all hc, fun g g1 H H1 vs Q a z q => ?_⟩
    obtain ⟨v, rfl, p, xs, e, t, r⟩ := vws1 z
    rw [bools_of hb r] at t
    exact ⟨p, bs, by rw [e], SqL.of (a.ok.lst t), q _ _ (Rz.frz a rfl)⟩
  · obtain ⟨bs, hb, h⟩ := Option.map_eq_some_iff.mp h
    subst h
    cases hi
    refine ⟨_, cr_any hc, fun g g1 H H1 vs Q a z q => ?_⟩
    obtain ⟨v, rfl, p, xs, e, t, r⟩ := vws1 z
    rw [bools_of hb r] at t
    exact ⟨p, bs, by rw [e], SqL.of (a.ok.lst t), q _ _ (Rz.frz a rfl)⟩
  · cases h
    cases hi
    refine ⟨_, call_int1, fun g g1 H H1 vs Q a z q => ?_⟩
    obtain ⟨v, rfl, e⟩ := vws1 z
    exact .inl ⟨_, by rw [show v = _ from e], q _ _ (Rz.frz a rfl)⟩
  · cases h
    cases hi
    refine ⟨_, call_int1, fun g g1 H H1 vs Q a z q => ?_⟩
    obtain ⟨v, rfl, e⟩ := vws1 z
    exact .inr ⟨_, by rw [show v = _ from e], q _ _ (Rz.frz a rfl)⟩
  · split at h
    case isFalse => cases h
    rename_i hs
    cases h
    cases hi
    simp only [Bool.and_eq_true, decide_eq_true_eq, Bool.not_eq_true'] at hs
    refine ⟨_, call_reprD hgd hu, fun g g1 H H1 vs Q a z q => ?_⟩
    obtain ⟨v, rfl, e⟩ := vws1 z
    exact ⟨v, _, rfl, DR.dp a.ok.sub _ v e, hs.1.1.1, hs.1.1.2, hs.1.2, hs.2, q _ _ (Rz.frz a rfl)⟩
  · cases h
    cases hi
    refine ⟨_, call_list_of, fun g g1 H H1 vs Q a z q => ?_⟩
    obtain ⟨v, rfl, p, xs, e, t, r⟩ := vws1 z
    exact ⟨p, xs, by rw [e], .inl (SqL.of (a.ok.lst t)), fun l hl => q _ _ (Rz.newL a hl r)⟩
  · cases h
    cases hi
    refine ⟨_, call_list_of, fun g g1 H H1 vs Q a z q => ?_⟩
    obtain ⟨v, rfl, p, xs, e, t, r⟩ := vws1 z
    exact ⟨p, xs, by rw [e], .inr (a.ok.tup t), fun l hl => q _ _ (Rz.newL a hl r)⟩
  · cases h
    cases hi
    refine ⟨_, call_tuple_of, fun g g1 H H1 vs Q a z q => ?_⟩
    obtain ⟨v, rfl, p, xs, e, t, r⟩ := vws1 z
    exact ⟨p, xs, by rw [e], .inl ⟨SqL.of (a.ok.lst t), fun l hl => q _ _ (Rz.newT a hl r)⟩⟩
  · cases h
    cases hi
    refine ⟨_, call_tuple_of, fun g g1 H H1 vs Q a z q => ?_⟩
    obtain ⟨v, rfl, p, xs, e, t, r⟩ := vws1 z
    exact ⟨p, xs, by rw [e], .inr ⟨a.ok.tup t, q _ _ (Rz.frz a ⟨p, xs, rfl, t, r⟩)⟩⟩
  · obtain ⟨ns, hn, h⟩ := Option.map_eq_some_iff.mp h
    subst h
    cases hi
    refine ⟨_, cr_sortedI, fun g g1 H H1 vs Q a z q => ?_⟩
    obtain ⟨v, rfl, p, xs, e, t, r⟩ := vws1 z
    rw [ints_of hn r] at t
    refine ⟨p, ns, by rw [e], SqL.of (a.ok.lst t), fun ns' p' pm st hp => ?_⟩
    rw [sorted_eq (pm.trans (sortI_perm ns).symm) st (sortI_sorted ns)]
    exact q _ _ (Rz.newL a hp (drs_ints _))
  · split at h
    case isFalse => cases h
    rename_i hj
    cases h
    cases hi
    refine ⟨_, call_divmod, fun g g1 H H1 vs Q a z q => ?_⟩
    obtain ⟨v, v', rfl, e, e'⟩ := vws2 z
    exact ⟨_, _, by rw [show v = _ from e, show v' = _ from e'], hj, fun p hp => q _ _ (Rz.newT a hp ⟨_, _, rfl, rfl, _, _, rfl, rfl, rfl⟩)⟩
  · split at h
    case isFalse => cases h
    cases hi
  · split at h
    case isFalse => cases h
    cases hi
  · split at h
    case isFalse => cases h
    rename_i n m hn
    cases h
    cases hi
    refine ⟨_, cr_range1, fun g g1 H H1 vs Q a z q => ?_⟩
    obtain ⟨v, rfl, e⟩ := vws1 z
    refine ⟨n, by rw [show v = _ from e], fun p hp => q _ _ ?_⟩
    exact Rz.vw (w := .rng 0 n) (a.newF hp) ⟨p, rfl, upd_same⟩
  · cases h

def biE (bi : Bi) (es : Evs) : Ev := fun r S => match es r S with
    | some (ws, S1) => match biop S1 bi ws with
      | some w => some (w, S1)
      | none => none
    | none => none
theorem p_biB {bi : Bi} {x : Str} {id : String} (hi : biId bi = some (x, id, true)) (hc : X.calm = true) (hgd : X.A.guards = some []) (hu : X.A.units + 100 < cLine) (hg : Gl X x) (hm : X.mg x = none) (hv : bootBuiltins x = some (.builtin id))
    (ha : PA X (e :: es) (tA X.K eas)) (hn : x ≠ "__name__") (hdb : (x == ("__debug__" : Str)) = false) (he : starEach (e :: es) X.env = (false, eval e X.env) :: starEach es X.env) (hpl : (backTo pos (starEach es X.env)).any (·.1) = false) :
    PE X (.Call (.Name x p1) (e :: es) [] pos) (tE X.K (biE bi eas)) := by
  refine pe_dyn ?_
  rintro σ H Q ⟨g, r, S, w, S', ok, en, ev, q⟩
  unfold biE at ev
  split at ev
  case h_2 => cases ev
  rename_i ws S1 h1
  split at ev
  case h_2 => cases ev
  rename_i w1 hop
  cases ev
  obtain ⟨r2, h2, hk⟩ := bi_rule hi hc hgd hu hop
  exact ⟨_, pe_callB h2 hg hm hv ha hn hdb he hpl, g, r, S, ws, S', ok, en, h1, fun vs H1 z => let ⟨g1, a, o⟩ := z.fz; hk g g1 H H1 vs Q a o q⟩
theorem p_biT {bi : Bi} {x : Str} {id : String} (hi : biId bi = some (x, id, false)) (hc : X.calm = true) (hgd : X.A.guards = some []) (hu : X.A.units + 100 < cLine) (hg : Gl X x) (hm : X.mg x = none) (hv : bootBuiltins x = some (.type id))
    (ha : PA X (e :: es) (tA X.K eas)) (hn : x ≠ "__name__") (hdb : (x == ("__debug__" : Str)) = false) (he : starEach (e :: es) X.env = (false, eval e X.env) :: starEach es X.env) (hpl : (backTo pos (starEach es X.env)).any (·.1) = false) :
    PE X (.Call (.Name x p1) (e :: es) [] pos) (tE X.K (biE bi eas)) := by
  refine pe_dyn ?_
  rintro σ H Q ⟨g, r, S, w, S', ok, en, ev, q⟩
  unfold biE at ev
  split at ev
  case h_2 => cases ev
  rename_i ws S1 h1
  split at ev
  case h_2 => cases ev
  rename_i w1 hop
  cases ev
  obtain ⟨r2, h2, hk⟩ := bi_rule hi hc hgd hu hop
  exact ⟨_, pe_callTy h2 hg hm hv ha hn hdb he hpl, g, r, S, ws, S', ok, en, h1, fun vs H1 z => let ⟨g1, a, o⟩ := z.fz; hk g g1 H H1 vs Q a o q⟩

/-! ### isinstance -/
def tyS : Ty → String
  | .int => "int"
  | .bool => "bool"
  | .str => "str"
  | .tuple => "tuple"
  | .list => "list"
def tyD : D → String
  | .none => "NoneType"
  | .bool _ => "bool"
  | .int _ => "int"
  | .str _ => "str"
  | .list _ => "list"
  | .tuple _ => "tuple"
  | .dict _ => "dict"
theorem tyX_of {ok : OkG K g S H} : ∀ {d : D} {v : V}, DR K g.fz v d → TyX K H v (.type (tyD d))
  | .none, _, h => by
    have h : _ = _ := h
    rw [h]
    exact .base .non
  | .bool _, _, h => by
    have h : _ = _ := h
    rw [h]
    exact .base (.bl _)
  | .int _, _, h => by
    have h : _ = _ := h
    rw [h]
    exact .base (.int _)
  | .str _, _, h => by
    have h : _ = _ := h
    rw [h]
    exact .base (.str _)
  | .list _, _, ⟨p, xs, e, t, r⟩ => by
    rw [e]
    exact .base (.lst (ok.lst t))
  | .tuple _, _, ⟨p, xs, e, t, r⟩ => by
    rw [e]
    rcases ok.tup t with (h | ⟨o, h⟩) | ⟨o, its, n, h, hc, _⟩
    · exact .base (.tup h)
    · exact .fTuple h
    · exact .kTuple h hc
  | .dict _, _, h => h.elim
theorem kit_all : ∀ (t : Ty), kitB "NoneType" (tyS t) = some false ∧ kitB "bool" (tyS t) = some (tyIs (.bool true) t) ∧ kitB "int" (tyS t) = some (tyIs (.int 0) t) ∧ kitB "str" (tyS t) = some (tyIs (.str ⟨#[]⟩) t) ∧
    kitB "list" (tyS t) = some (tyIs (.list []) t) ∧ kitB "tuple" (tyS t) = some (tyIs (.tuple []) t)
  | .int => by decide +kernel
  | .bool => by decide +kernel
  | .str => by decide +kernel
  | .tuple => by decide +kernel
  | .list => by decide +kernel
theorem kit_D : ∀ (d : D) (t : Ty), DR K F v d → kitB (tyD d) (tyS t) = some (tyIs d t)
  | .none, t, _ => (kit_all t).1
  | .bool b, t, _ => (kit_all t).2.1.trans (by cases t <;> rfl)
  | .int i, t, _ => (kit_all t).2.2.1.trans (by cases t <;> rfl)
  | .str x, t, _ => (kit_all t).2.2.2.1.trans (by cases t <;> rfl)
  | .list _, t, _ => (kit_all t).2.2.2.2.1.trans (by cases t <;> rfl)
  | .tuple _, t, _ => (kit_all t).2.2.2.2.2.trans (by cases t <;> rfl)
  | .dict _, _, h => h.elim
def isiE (ea : Ev) (t : Ty) : Ev := fun r S => match ea r S with
    | some (.dat d _, S1) => some (.dat (.bool (tyIs d t)) 0, S1)
    | _ => none
def isi2E (ea : Ev) (t u : Ty) : Ev := fun r S => match ea r S with
    | some (.dat d _, S1) => some (.dat (.bool (tyIs d t || tyIs d u)) 0, S1)
    | _ => none
theorem boot_isi : bootBuiltins ("isinstance" : Str) = some (.builtin "isinstance") := PyProof.Rows.boot_isinstance
theorem p_isi {t : Ty} {x : Str} (ha : PE X a (tE X.K ea)) (hg : Gl X "isinstance") (hm : X.mg "isinstance" = none) (hx : x = Str.ofString (tyS t)) (hg2 : Gl X x) (hm2 : X.mg x = none) (hv2 : bootBuiltins x = some (.type (tyS t)))
    (he : starEach [a, .Name x p2] X.env = (false, eval a X.env) :: starEach [.Name x p2] X.env) : PE X (.Call (.Name "isinstance" p1) [a, .Name x p2] [] pos) (tE X.K (isiE ea t)) := by
  have hn : x ≠ "__name__" := by
    rw [hx]
    cases t <;> decide
  have hd : (x == ("__debug__" : Str)) = false := by
    rw [hx]
    cases t <;> decide
  refine pe_imp (pe_callB (r := rIsi X.K) call_isi hg hm boot_isi (pa_cons ha (pa_cons (pe_bltn (v := .ty (tyS t)) hg2 hm2 hv2 rfl hn hd) pa_nil rfl) he) (by decide) (by decide) he rfl) ?_
  rintro σ H Q ⟨g, r, S, w, S', ok, en, ev, q⟩
  unfold isiE at ev
  split at ev
  case h_2 => cases ev
  rename_i d m S1 h1
  cases ev
  exact one ok en h1 fun v1 g1 H1 a q1 => ⟨v1, .ty (tyS t), .type (tyD d), .type (tyS t), tyIs d t, rfl, .ty _, tyX_of (ok := a.ok) q1, kit_ty (kit_D d t q1), q _ _ (Rz.frz a rfl)⟩
theorem p_isi2 {t u : Ty} {x y : Str} {p3 p4 : Pos} {k : Nat} (ha : PE X a (tE X.K ea)) (hg : Gl X "isinstance") (hm : X.mg "isinstance" = none) (hx : x = Str.ofString (tyS t)) (hg2 : Gl X x) (hm2 : X.mg x = none) (hv2 : bootBuiltins x = some (.type (tyS t)))
    (hy : y = Str.ofString (tyS u)) (hg3 : Gl X y) (hm3 : X.mg y = none) (hv3 : bootBuiltins y = some (.type (tyS u)))
    (he : starEach [a, .Tuple [.Name x p2, .Name y p3] k p4] X.env = (false, eval a X.env) :: starEach [.Tuple [.Name x p2, .Name y p3] k p4] X.env) : PE X (.Call (.Name "isinstance" p1) [a, .Tuple [.Name x p2, .Name y p3] k p4] [] pos) (tE X.K (isi2E ea t u)) := by
  have hn : ∀ t, Str.ofString (tyS t) ≠ "__name__" := fun t => by cases t <;> decide
  have hd : ∀ t, (Str.ofString (tyS t) == ("__debug__" : Str)) = false := fun t => by cases t <;> decide
  refine pe_imp (pe_callB (r := rIsiT X.K) call_isiT hg hm boot_isi (pa_cons ha (pa_cons (pe_tup (pa_cons (pe_bltn (v := .ty (tyS t)) hg2 hm2 hv2 rfl (hx ▸ hn t) (hx ▸ hd t)) (pa_cons (pe_bltn (v := .ty (tyS u)) hg3 hm3 hv3 rfl (hy ▸ hn u) (hy ▸ hd u)) pa_nil rfl) rfl)) pa_nil rfl) he) (by decide) (by decide) he rfl) ?_
  rintro σ H Q ⟨g, r, S, w, S', ok, en, ev, q⟩
  unfold isi2E at ev
  split at ev
  case h_2 => cases ev
  rename_i d m S1 h1
  cases ev
  refine one ok en h1 fun v1 g1 H1 a q1 => ⟨show 2 ≤ sizeLine by decide, fun p hp => ?_⟩
  have b := a.new (o := .tup [.ty (tyS t), .ty (tyS u)]) hp
  refine ⟨v1, p, _, .type (tyD d), [.type (tyS t), .type (tyS u)], tyIs d t || tyIs d u, rfl, upd_same, .cons (.ty _) (.cons (.ty _) .nil), tyX_of (ok := b.ok) q1, ?_, q _ _ (Rz.frz b rfl)⟩
  exact kitAny_cons (kit_ty (kit_D d t q1)) (fun e => by
    rw [e, Bool.false_or]
    exact kitAny_cons (kit_ty (kit_D d u q1)) (fun e2 => by rw [e2]; rfl) fun e2 => e2) fun e => by rw [e]; rfl
/-! ### list(range(n)) -/
theorem p_listrng {p3 q1 : Pos} (hc : X.calm = true) (hg : Gl X "list") (hm : X.mg "list" = none) (hg2 : Gl X "range") (hm2 : X.mg "range" = none) (ha : PE X a (tE X.K ea)) (na : starEach [a] X.env = (false, eval a X.env) :: starEach [] X.env) :
    PE X (.Call (.Name "list" p1) [.Call (.Name "range" p2) [a] [] q1] [] pos) (tE X.K (biE .listrng (consE ea nilE))) := by
  refine pe_imp (pe_listRg hc hg hm (prg_1 hg2 hm2 ha na)) ?_
  rintro σ H Q ⟨g, r, S, w, S', ok, en, ev, q⟩
  unfold biE consE nilE at ev
  split at ev
  case h_2 => cases ev
  rename_i ws S1 h1
  split at h1
  case h_2 => cases h1
  rename_i w1 S2 h2
  cases h1
  split at ev
  case h_2 => cases ev
  rename_i w2 hb
  cases ev
  obtain ⟨n, m, rfl, hn, rfl⟩ : ∃ n m, w1 = .dat (.int n) m ∧ (0 ≤ n ∧ n < 1000000) ∧ w = .dat (.list ((List.range n.toNat).map fun i => .int (i : Nat))) 1 := by
    cases w1 with
    | dat d m =>
      cases d <;> first | (cases hb; done) | skip
      rename_i n
      have hb : (if 0 ≤ n ∧ n < 1000000 then some (W.dat (.list ((List.range n.toNat).map fun i => .int (i : Nat))) 1) else none) = some w := hb
      split at hb
      case isFalse => cases hb
      rename_i hl
      exact ⟨n, m, rfl, hl, (Option.some.inj hb).symm⟩
    | loc l => cases hb
    | rng lo hi => cases hb
    | scr ns => cases hb
  refine one ok en h2 fun v1 g1 H1 a q1 => ⟨n, q1, RgOk.of_le (Int.le_refl 0) (by omega) (by omega) hn.1, fun p hp => q _ _ ?_⟩
  have e : rgV 0 n = ((List.range n.toNat).map fun i : Nat => (i : Int)).map V.int := by
    unfold rgV
    rw [Int.sub_zero, List.map_map]
    refine List.map_congr_left fun i _ => ?_
    show V.int (0 + (i : Int)) = V.int (i : Int)
    rw [Int.zero_add]
  have e2 : ((List.range n.toNat).map fun i => PyData.int (i : Nat)) = ((List.range n.toNat).map fun i : Nat => (i : Int)).map PyData.int := by
    rw [List.map_map]
    rfl
  rw [e, e2]
  exact Rz.newL a hp (drs_ints _)

/-! ### len(set(x)), x a list of pairs of ints -/
theorem sub_len {α : Type} [DecidableEq α] : ∀ (xs ys : List α), xs.Nodup → (∀ x ∈ xs, x ∈ ys) → xs.length ≤ ys.length
  | [], _, _, _ => Nat.zero_le _
  | x :: xs, ys, nd, h => by
    obtain ⟨n1, n2⟩ := List.nodup_cons.mp nd
    have ih := sub_len xs (ys.erase x) n2 fun z hz => (List.mem_erase_of_ne (fun e => n1 (by rw [← e]; exact hz))).mpr (h z (by simp [hz]))
    have hm : x ∈ ys := h x (by simp)
    rw [List.length_erase_of_mem hm] at ih
    have : 0 < ys.length := List.length_pos_of_mem hm
    rw [List.length_cons]
    omega
theorem distinct_nodup : ∀ ps : List (Int × Int), (distinct ps).Nodup ∧ ∀ p, p ∈ distinct ps ↔ p ∈ ps
  | [] => ⟨List.nodup_nil, fun _ => Iff.rfl⟩
  | p :: ps => by
    obtain ⟨h1, h2⟩ := distinct_nodup ps
    unfold distinct
    split
    · rename_i hc
      have hc : p ∈ distinct ps := by simpa using hc
      refine ⟨h1, fun q => ⟨fun h => by simp [(h2 q).mp h], fun h => ?_⟩⟩
      rcases List.mem_cons.mp h with e | h
      · rw [e]
        exact hc
      · exact (h2 q).mpr h
    · rename_i hc
      have hc : p ∉ distinct ps := by simpa using hc
      refine ⟨List.nodup_cons.mpr ⟨hc, h1⟩, fun q => ?_⟩
      rw [List.mem_cons, List.mem_cons, h2]
theorem pairs_of : ∀ {ds : List D} {ps : List (Int × Int)} {vs : List V}, allPairs ds = some ps → DRs K F vs ds →
    ∃ ks : List (Addr × List Int), vs = ks.map (fun p => V.ref p.1) ∧ ks.map (·.2) = ps.map (fun p => [p.1, p.2]) ∧ ∀ p ∈ ks, SqT K F p.1 (p.2.map V.int)
  | [], _, _, h, q => by
    cases h
    have q : _ = _ := q
    exact ⟨[], q, rfl, fun _ h => by cases h⟩
  | d :: ds, _, _, h, ⟨v, r, e, q, t⟩ => by
    simp only [allPairs] at h
    split at h
    case h_2 => cases h
    rename_i p ps hp hps
    cases h
    obtain ⟨ks, k1, k2, k3⟩ := pairs_of hps t
    unfold pairI at hp
    split at hp
    case h_2 => cases hp
    cases hp
    obtain ⟨a, xs, e1, t1, v1, r1, e2, q2, v2, r2, e3, q3, e4⟩ := q
    have q2 : v1 = _ := q2
    have q3 : v2 = _ := q3
    have e4 : r2 = [] := e4
    rw [e2, e3, e4, q2, q3] at t1
    refine ⟨(a, [_, _]) :: ks, by rw [e, k1, e1]; rfl, by rw [List.map_cons, List.map_cons, k2], fun z hz => ?_⟩
    rcases List.mem_cons.mp hz with y | y
    · rw [y]
      exact t1
    · exact k3 z y
theorem p_setlen {q1 : Pos} (hc : X.calm = true) (hu : X.A.units + 100 < cLine) (hg : Gl X "len") (hm : X.mg "len" = none) (hg2 : Gl X "set") (hm2 : X.mg "set" = none) (ha : PE X a (tE X.K ea)) (na : starEach [a] X.env = (false, eval a X.env) :: starEach [] X.env) :
    PE X (.Call (.Name "len" p1) [.Call (.Name "set" p2) [a] [] q1] [] pos) (tE X.K (biE .setlen (consE ea nilE))) := by
  refine ⟨fun pins s σ H Q I h => ?_⟩
  refine PyProof.Rows.Call_ (ld_blt I hg hm PySem.boot_len ?_)
  refine PyProof.Rows.callWith_builtin1 (PyProof.Rows.args_cons ?_ rfl) rfl rfl
  refine PyProof.Rows.Call_ (ld_blt I hg2 hm2 PyProof.Rows.boot_set ?_)
  obtain ⟨g, r, S, w, S', ok, en, ev, q⟩ := h
  unfold biE consE nilE at ev
  split at ev
  case h_2 => cases ev
  rename_i ws S1 h1
  split at h1
  case h_2 => cases h1
  rename_i w1 S2 h2
  cases h1
  split at ev
  case h_2 => cases ev
  rename_i w2 hb
  cases ev
  obtain ⟨xs, m, ps, rfl, hl, hps, rfl⟩ : ∃ xs m ps, w1 = .dat (.list xs) m ∧ xs.length < 64 ∧ allPairs xs = some ps ∧ w = .dat (.int (distinct ps).length) 0 := by
    cases w1 with
    | dat d m =>
      cases d <;> first | (cases hb; done) | skip
      rename_i xs
      have hb : (if xs.length < 64 then (allPairs xs).map fun ps => W.dat (.int (distinct ps).length) 0 else none) = some w := hb
      split at hb
      case isFalse => cases hb
      rename_i hl
      obtain ⟨ps, e, rfl⟩ := Option.map_eq_some_iff.mp hb
      exact ⟨xs, m, ps, rfl, hl, e, rfl⟩
    | loc l => cases hb
    | rng lo hi => cases hb
    | scr ns => cases hb
  have key : tE X.K ea σ H fun v H1 => ∃ p vs, v = .ref p ∧ H1 p = some (.lst vs) ∧ ∃ g1, Go X.K g H g1 S' H1 ∧ DRs X.K g1.fz vs xs := one ok en h2 fun v1 g1 H1 a ⟨p, vs, e, t, r⟩ => ⟨p, vs, e, a.ok.lst t, g1, a, r⟩
  refine PyProof.Rows.callWith_type1 (PyProof.Rows.args_cons (thn (ha.run pins s σ H _ I key) fun v s1 ⟨x, H1, I1, r1, q1⟩ => PyProof.Rows.args_nil ?_) na) na rfl
  obtain ⟨p, vs, rfl, hp, g1, a, hr⟩ := q1
  cases r1
  obtain ⟨its, rv, pl, hz⟩ := I1.list (SqL.of hp)
  obtain ⟨ks, k1, k2, k3⟩ := pairs_of hps hr
  have kl : ks.length = xs.length := by
    have e := congrArg List.length k1
    rw [List.length_map] at e
    rw [← e, hr.length]
  rw [k1] at rv
  refine call_set_tups (P := X.prog) (w := X.w) ks (I1.ok.hd hc) pl.isList (by simpa using refs_of_vals rv) (fun z hz => L2.Inv.isT I1 (a.ok.tup (k3 z hz))) (by omega) (by omega) fun h' tk L es ep t R gt k => ?_
  refine PyProof.Rows.args_nil ?_
  have I2 : Inv X pins σ H1 { s1 with heap := h', toks := tk } := I1.kept k
  obtain ⟨o, ho, hex, hd⟩ := R.ob
  have hn : es.size = L.length := R.size (s := { s1 with heap := h', toks := tk })
  have hf : t.fits es.size = true := R.fits (s := { s1 with heap := h', toks := tk })
  have en2 : (L.length : Nat) = (distinct ps).length := by
    obtain ⟨d1, d2⟩ := distinct_nodup ps
    have hL : ∀ z ∈ L, ∃ y ∈ ps, z.2 = [y.1, y.2] := fun z hz => by
      have m1 : z ∈ ks := List.mem_of_mem_take (gt.sub z hz)
      have m2 : z.2 ∈ ks.map (·.2) := List.mem_map.mpr ⟨z, m1, rfl⟩
      rw [k2] at m2
      obtain ⟨y, y1, y2⟩ := List.mem_map.mp m2
      exact ⟨y, y1, y2.symm⟩
    have l1 : L.length = (L.map (·.2)).length := (List.length_map _).symm
    have l2 : (distinct ps).length = ((distinct ps).map fun y => [y.1, y.2]).length := (List.length_map _).symm
    rw [l1, l2]
    refine Nat.le_antisymm (sub_len _ _ R.nd fun z hz => ?_) (sub_len _ _ ?_ fun z hz => ?_)
    · obtain ⟨y, y1, y2⟩ := List.mem_map.mp hz
      obtain ⟨x, x1, x2⟩ := hL y y1
      exact List.mem_map.mpr ⟨x, (d2 x).mpr x1, by rw [← y2, x2]⟩
    · exact List.Pairwise.map _ (fun x y ne e => ne (by
        injection e with e1 e2
        injection e2 with e2 _
        exact Prod.ext e1 e2)) d1
    · obtain ⟨y, y1, y2⟩ := List.mem_map.mp hz
      have m : [y.1, y.2] ∈ ks.map (·.2) := by
        rw [k2]
        exact List.mem_map.mpr ⟨y, (d2 y).mp y1, rfl⟩
      obtain ⟨x, x1, x2⟩ := List.mem_map.mp m
      have := gt.all x (by rw [List.take_length]; exact x1)
      rw [x2, y2] at this
      exact this
  have few := R.few
  refine call_len_set ho hex hd hf (by rw [hn] <;> omega) ⟨.int es.size, H1, I2.tok _, ⟨_, rfl⟩, ?_⟩
  rw [hn, en2]
  exact q _ _ (Rz.frz a rfl)
end MP
end

section
set_option maxRecDepth 100000
/-! MpIter: what is walked: lists, tuples, ranges, enumerate, zip. -/
namespace MP
open PySem L2

/-! ### enumerate(t), t a tuple -/
set_option maxHeartbeats 2000000 in
theorem enum_new1 {v : Value} {o : Obj} {HH : Heap → Prop} (B : Begins v o HH) :
    Meets (Builtin.«enumerate.__new__» ⟨[.type "enumerate", v], []⟩)
      (fun _ R s => HH s.heap ∧ R (.ok (.ret (.ref (s.heap.push o).objs.size)))
        { s with heap := (s.heap.push o).push { cls := .type "enumerate", data := .fields #[.none, .bool false, .ref s.heap.objs.size, rawInt 0, .none, .none] } }) :=
  .of_wp fun prog w A R s hs => by
    obtain ⟨hp, gs, dr, tk, os⟩ := s
    obtain ⟨h1, hR⟩ := hs
    have hsb := sub_enumerate
    have it1 : ∀ {A' : Around} {E : Value → Shared → Prop} {Q : Value → Shared → Prop}, Q (.ref hp.objs.size) ⟨hp.push o, gs, dr, tk, os⟩ →
        wpAny (model prog w) A' (pyIter v) Q E ⟨hp, gs, dr, tk, os⟩ := fun q => B.iter prog w _ _ ⟨hp, gs, dr, tk, os⟩ _ h1 q
    wp_walk using it1
    refine wpAny_stack_any fun st => wpAny_pure ?_
    split
    · rename_i c' _ _ _ _ _
      cases (c' == Value.type "enumerate")
      · wp_walk using it1
        exact ⟨_, rfl, hR⟩
      · wp_walk using it1
        exact ⟨_, rfl, hR⟩
    · wp_walk using it1
      exact ⟨_, rfl, hR⟩
theorem enum_begin1 {prog : Program} {w : World} {A : Around} {E : Value → Shared → Prop} {s : Shared} {v : Value} {o : Obj} {HH : Heap → Prop} {Q : Value → Shared → Prop} (B : Begins v o HH) (h1 : HH s.heap)
    (h : ∀ h', IsEnum h' (s.heap.objs.size + 1) s.heap.objs.size 0 .none → h'.get? s.heap.objs.size = some o → (∀ b u, s.heap.get? b = some u → h'.get? b = some u) → Q (.ref (s.heap.objs.size + 1)) { s with heap := h' }) :
    wpAny (model prog w) A (call (.type "enumerate") [v]) Q E s := by
  refine callType_new F.called_enumerate (by decide) (F.typeCall_enumerate_1 _) (F.newCall_enumerate_1 _) (fun obj => F.args_object_init_2 obj _) F.entry_enumerate_new (enum_new1 B) ⟨h1, ?_⟩
  have hz : (s.heap.push o).objs.size = s.heap.objs.size + 1 := Heap.size_push ..
  show _ ∧ _
  rw [hz]
  have he : IsEnum ((s.heap.push o).push { cls := .type "enumerate", data := .fields #[.none, .bool false, .ref s.heap.objs.size, rawInt 0, .none, .none] }) (s.heap.objs.size + 1) s.heap.objs.size 0 .none := by
    have z := Heap.get?_push_size (s.heap.push o) (o := { cls := .type "enumerate", data := .fields #[.none, .bool false, .ref s.heap.objs.size, rawInt 0, .none, .none] }) rfl
    rw [hz] at z
    exact z
  exact ⟨⟨_, he, rfl⟩, h _ he (Heap.get?_push_of_some _ (Heap.get?_push_size _ B.free)) fun b u x => Heap.get?_push_of_some _ (Heap.get?_push_of_some _ x)⟩

def IteT (K : PySem.W.Frag) (a : Addr) : It where
  go := fun i H => ∃ (xs : List V) (x : V), SqT K H a xs ∧ xs[i]? = some x
  yld := fun i H v H' => ∃ T x, v = .ref T ∧ H T = none ∧ H' = upd H T (.tup [.int (i : Nat), x]) ∧ ∀ xs, SqT K H a xs → xs[i]? = some x
  stop := fun i H => ∃ xs : List V, SqT K H a xs ∧ xs.length = i
theorem turn_enumT {P : Program} {w : World} {K : PySem.W.Frag} {elts : List Expr} {kk : Nat} {tpos : Pos} (a e it : Addr) :
    Turn P w K (.Tuple elts kk tpos) (IteT K a) [e, it] e (fun i h => (∃ old, IsEnum h e it ((i : Nat) : Int) old) ∧ h.IsTupleIter it a i ∧ e ≠ it ∧ a ≠ it ∧ e ≠ a) where
  mem := by simp
  obj := fun i h st b hb => by
    obtain ⟨⟨old, he⟩, ⟨o, ho, hc, hd⟩, _⟩ := st
    rcases (show b = e ∨ b = it by simpa using hb) with z | z
    · rw [z]
      exact ⟨_, he, fun v q => nomatch q⟩
    · rw [z]
      exact ⟨o, ho, fun v q => by rw [hd] at q; cases q⟩
  keep := fun i h h' st k => by
    obtain ⟨⟨old, he⟩, hi, hne⟩ := st
    exact ⟨⟨old, k e (by simp) _ he⟩, hi.at fun o q => k it (by simp) o q, hne⟩
  item := by
    intro X hP hw hK hc i pins s σ H E I hf st hg
    subst hP hw hK
    obtain ⟨⟨old, he⟩, hit, hne, hai, hea⟩ := st
    obtain ⟨xs, x, hq, hx⟩ := hg
    obtain ⟨its, rv, p, hz⟩ := I.tuple hq
    obtain ⟨u, hu, ru⟩ := rv.get hx
    have hil : it < s.heap.objs.size := by
      obtain ⟨_, q, _⟩ := id hit
      exact Heap.lt_size q
    have hel : e < s.heap.objs.size := Heap.lt_size he
    have hlt : i < its.toArray.size := by
      rw [List.size_toArray]
      exact (List.getElem?_eq_some_iff.mp hu).1
    have Dr := Draws.tuple (prog := X.prog) (w := X.w) (A := X.A.in1) (I.ok.hd hc) it a hai its.toArray
    refine wpAny_pyNext_enum_itemD Dr he ⟨hit, p⟩ hlt hne (by simp [hne, hea]) fun x' h' tk px ho hit' hT hsz hk => ?_
    have ex : x' = u := by
      have q : its.toArray[i]? = some x' := px
      have q2 : its.toArray[i]? = some u := by simpa using hu
      rw [q2] at q
      exact (Option.some.inj q).symm
    subst ex
    refine ⟨_, rfl, wpAny_letOwnedTupleGo_enum (s := { s with heap := h', toks := tk + 1 }) ho fun h'' he' sb => ?_⟩
    have hT2 : h''.get? s.heap.objs.size = some { cls := .type "tuple", data := .seq #[.int i tk, x'] } := (sb.2 _ (Nat.ne_of_gt hel)).trans hT
    have nw : ObjOk X.prog X.w (upd H s.heap.objs.size (.tup [.int (i : Nat), x])) h'' s.heap.objs.size (.tup [.int (i : Nat), x]) :=
      ⟨by show 2 ≤ sizeLine; decide, [.int i tk, x'], .cons ⟨_, rfl⟩ (.cons ru .nil), ⟨_, hT2, rfl, _, rfl⟩⟩
    have I1 : Inv X pins σ (upd H s.heap.objs.size (.tup [.int (i : Nat), x])) { s with heap := h'', toks := tk + 1 } :=
      I.turnedNew (ch := [e, it]) (fun b ob hb q => (sb.2 b (fun z => hb (by simp [z]))).trans (hk b ob (fun z => hb (by simp [z])) (fun z => hb (by simp [z])) q)) hf (Nat.le_refl _) nw
    refine ⟨.ref s.heap.objs.size, _, I1, rfl, ⟨_, x, rfl, I.hok.fresh (Nat.le_refl _), rfl, fun ys hy => by rw [I.tuple_inj hy hq]; exact hx⟩, ⟨⟨x', ?_⟩, hit'.1.at fun o q => (sb.2 it (Ne.symm hne)).trans q, hne, hai, hea⟩, fun b hb => ?_⟩
    · rw [show ((i + 1 : Nat) : Int) = (i : Int) + 1 by omega]
      exact he'
    · have hb' : b < s.heap.objs.size := by
        rcases (show b = e ∨ b = it by simpa using hb) with z | z
        · rw [z]
          exact hel
        · rw [z]
          exact hil
      rw [upd_ne (Nat.ne_of_lt hb')]
      exact (hf b hb).1
  done := by
    intro X hP hw hK hc i pins s σ H E I hf st hg
    subst hP hw hK
    obtain ⟨⟨old, he⟩, hit, hne, hai, hea⟩ := st
    obtain ⟨xs, hq, hx⟩ := hg
    obtain ⟨its, rv, p, hz⟩ := I.tuple hq
    obtain ⟨f0, f1, f2, f3, f4, f5⟩ := hf it (by simp)
    have hl := rv.length
    have hs : its.toArray.size = i := by
      rw [List.size_toArray]
      omega
    have Dr := Draws.tuple (prog := X.prog) (w := X.w) (A := X.A.in1) (I.ok.hd hc) it a hai its.toArray
    exact wpAny_pyNext_enum_endD Dr he ⟨by rw [hs]; exact hit, p⟩ fun h' eb => ⟨rfl, I.turned (t' := s.toks) (fun b o hb q => eb b o hb q) f0 f1 f3 f4 f5⟩
  self := fun A i s Q E st h => by
    obtain ⟨⟨_, he⟩, _⟩ := st
    exact wpAny_pyIter_enum he h

/-! ### iterators come -/
section
variable {X : Cx} {a b e e2 : Expr} {ea eb : Ev} {eas : Evs} {pos p tpos : Pos} {tg : Expr} {elts : List Expr} {kk : Nat} {g g1 : Gho} {H H1 : Hp} {S S1 : Sto} {r : Rho} {σ : L2.St} {d : D} {K : PySem.W.Frag} {ws : List W} {xs : List D}

def iEnumA (K : PySem.W.Frag) (ta : TA) : TI := fun σ H R => ta σ H fun vs H1 => ∃ a xs, vs = [.ref a] ∧ ((SqL K H1 a xs ∧ R (Ite K a) H1) ∨ (SqT K H1 a xs ∧ R (IteT K a) H1))
theorem pi_enumA {ta : TA} (hg : Gl X "enumerate") (hm : X.mg "enumerate" = none) (ha : PA X [e] ta) (hs : starEach [e] X.env = [(false, eval e X.env)]) :
    PI X (.Tuple elts kk tpos) (.Call (.Name "enumerate" p) [e] [] pos) (iEnumA X.K ta) := by
  refine ⟨fun pins s σ H R I h => ?_⟩
  refine PyProof.Rows.Call_ (ld_blt I hg hm PyProof.Rows.boot_enumerate (PyProof.Rows.callWith_type1 (thn (ha.run pos pins s σ H _ I h) fun us s1 ⟨vs, H1, I1, r1, q1⟩ => ?_) hs rfl))
  obtain ⟨a, xs, ex, q1⟩ := q1
  subst ex
  obtain ⟨u, rfl, ru⟩ := vals1 r1
  cases ru
  have fresh : ∀ c, s1.heap.objs.size ≤ c → FpOk X pins H1 c := fun c hc => I1.fpOk hc (I1.hok.fresh hc)
  rcases q1 with ⟨hq, q⟩ | ⟨hq, q⟩
  · obtain ⟨its, rv, p', hz⟩ := I1.list hq
    refine call_enumerate_list p'.isList fun h' he hit hsz hk => wpAny_pyIter_enum he ?_
    have I2 : Inv X pins σ H1 { s1 with heap := h' } := I1.kept (t' := s1.toks) hk
    refine ⟨s1.heap.objs.size + 1, [s1.heap.objs.size + 1, s1.heap.objs.size], _, _, H1, rfl, I2, turn_enum a (s1.heap.objs.size + 1) s1.heap.objs.size, ⟨⟨.none, he⟩, hit, Nat.succ_ne_self _⟩, fun c hc => fresh c ?_, q⟩
    rcases (show c = s1.heap.objs.size + 1 ∨ c = s1.heap.objs.size by simpa using hc) with z | z
    · rw [z]
      exact Nat.le_add_right _ _
    · exact Nat.le_of_eq z.symm
  · obtain ⟨its, rv, p', hz⟩ := I1.tuple hq
    have hlt : a < s1.heap.objs.size := by
      obtain ⟨o, ho, _⟩ := id p'
      exact Heap.lt_size ho
    refine enum_begin1 (begins_tuple a its.toArray) p' fun h' he hit hk => wpAny_pyIter_enum he ?_
    have I2 : Inv X pins σ H1 { s1 with heap := h' } := I1.kept (t' := s1.toks) hk
    refine ⟨s1.heap.objs.size + 1, [s1.heap.objs.size + 1, s1.heap.objs.size], _, _, H1, rfl, I2, turn_enumT a (s1.heap.objs.size + 1) s1.heap.objs.size,
      ⟨⟨.none, he⟩, ⟨_, hit, rfl, rfl⟩, Nat.succ_ne_self _, Nat.ne_of_lt hlt, Nat.ne_of_gt (Nat.lt_succ_of_lt hlt)⟩, fun c hc => fresh c ?_, q⟩
    rcases (show c = s1.heap.objs.size + 1 ∨ c = s1.heap.objs.size by simpa using hc) with z | z
    · rw [z]
      exact Nat.le_add_right _ _
    · exact Nat.le_of_eq z.symm

/-- a range that is a value -/
def iRngV (te : TE) : TI := fun σ H R => te σ H fun x H1 => ∃ a lo hi, x = .ref a ∧ H1 a = some (.rng lo hi) ∧ (-(2 ^ 62) ≤ lo ∧ lo < 2 ^ 62 ∧ -(2 ^ 62) ≤ hi ∧ hi < 2 ^ 62) ∧ R (Itr lo (hi - lo).toNat) H1
theorem pi_rngV {te : TE} (he : PE X e te) : PI X tg e (iRngV te) := by
  refine ⟨fun pins s σ H R I h => ?_⟩
  refine thn (he.run pins s σ H _ I h) fun v s1 ⟨x, H1, I1, r1, q1⟩ => ?_
  obtain ⟨a, lo, hi, ex, ha, hb, q⟩ := q1
  subst ex
  cases r1
  obtain ⟨t, u, w, ho⟩ := (show ObjOk X.prog X.w H1 s1.heap a (.rng lo hi) from I1.hok a _ ha)
  refine wpAny_pyIter_range (a := lo) (b := hi) (c := 1) (t := t) (u := u) (v := w) ho (PySem.small_one hb.1 hb.2.1 hb.2.2.1 hb.2.2.2) ?_
  have I2 := I1.kept (h' := s1.heap.push { cls := .type "range_iterator", data := .fields #[rawInt lo, rawInt (Builtin.Range.rangeSize lo hi 1), rawInt 1] }) (t' := s1.toks) fun b o e => Heap.get?_push_of_some _ e
  refine ⟨s1.heap.objs.size, [s1.heap.objs.size], _, _, H1, rfl, I2, turn_range _ lo (hi - lo).toNat, ?_, fun c hc => ?_, q⟩
  · have e1 : lo + ((0 : Nat) : Int) * 1 = lo := by simp
    have e2 : (((hi - lo).toNat : Nat) : Int) - ((0 : Nat) : Int) = Builtin.Range.rangeSize lo hi 1 := by
      rw [PySem.rangeSize_one]
      split <;> omega
    show IsRangeIter _ _ (lo + ((0 : Nat) : Int) * 1) ((((hi - lo).toNat : Nat) : Int) - ((0 : Nat) : Int)) 1
    rw [e1, e2]
    exact Heap.get?_push_size _ rfl
  · have z : c = s1.heap.objs.size := by simpa using hc
    rw [z]
    exact I1.fpOk (Nat.le_refl _) (I1.hok.fresh (Nat.le_refl _))

def Yd (K : PySem.W.Frag) (g : Gho) (d : D) (H : Hp) (v : V) (H' : Hp) : Prop :=
  (H' = H ∧ DR K g.fz v d) ∨ ∃ T vs ds, v = .ref T ∧ H T = none ∧ H' = upd H T (.tup vs) ∧ d = .tuple ds ∧ DRs K g.fz vs ds
/-- what J gives are the data xs, as long as what is frozen stays -/
structure Wk (K : PySem.W.Frag) (g : Gho) (J : It) (xs : List D) : Prop where
  ex : ∃ (n : Nat) (G : Hp → Prop) (Y : Nat → Hp → V → Hp → Prop), n = xs.length ∧ Walk J n G Y ∧ (∀ H, Same g.fz H → G H) ∧ ∀ i H v H' d, xs[i]? = some d → Same g.fz H → Y i H v H' → Yd K g d H v H'
def tI (K : PySem.W.Frag) (k : Ik) (es : Evs) : TI := fun σ H R => ∃ g r S ws S' xs, OkG K g S H ∧ EnvF K g r σ ∧ es r S = some (ws, S') ∧ items k ws = some xs ∧ ∀ J H1 g1 vs, Go K g H g1 S' H1 → VWs K g1 vs ws → (∀ g', VWs K g' vs ws → Wk K g' J xs) → R J H1
theorem pi_dyn {wi : TI} (h : ∀ σ H R, wi σ H R → ∃ t', PI X tg e t' ∧ t' σ H R) : PI X tg e wi :=
  ⟨fun pins s σ H R I q => let ⟨_, p, q'⟩ := h σ H R q; p.run pins s σ H R I q'⟩
theorem wk_list {p : Addr} {vs : List V} (h : g.fz p = some (.lst vs)) (hr : DRs K g.fz vs xs) : Wk K g (Itl K p) xs :=
  ⟨_, _, _, hr.length, walk_list, fun H s => SqL.of (s _ _ h), fun i H v H' d hd s y => by
    obtain ⟨v', e1, e2⟩ := hr.get hd
    refine .inl ⟨y.1, ?_⟩
    rw [y.2] at e1
    cases e1
    exact e2⟩
theorem wk_tup {p : Addr} {vs : List V} (h : SqT K g.fz p vs) (hr : DRs K g.fz vs xs) : Wk K g (Itt K p) xs :=
  ⟨_, _, _, hr.length, walk_tup, fun H s => same_sqT s h, fun i H v H' d hd s y => by
    obtain ⟨v', e1, e2⟩ := hr.get hd
    refine .inl ⟨y.1, ?_⟩
    rw [y.2] at e1
    cases e1
    exact e2⟩
theorem wk_range {lo hi : Int} {f : Nat → D} (hf : ∀ i, f i = .int (lo + (i : Nat))) : Wk K g (Itr lo (hi - lo).toNat) ((List.range (hi - lo).toNat).map f) :=
  ⟨_, _, _, by rw [List.length_map, List.length_range], walk_range, fun _ _ => trivial, fun i H v H' d hd s y => by
    obtain ⟨hlt, hd⟩ := List.getElem?_eq_some_iff.mp hd
    rw [List.getElem_map, List.getElem_range] at hd
    refine .inl ⟨y.1, ?_⟩
    rw [← hd, hf]
    exact y.2⟩
theorem wk_enumL {p : Addr} {vs : List V} {f : Nat → D → D} (h : g.fz p = some (.lst vs)) (hr : DRs K g.fz vs xs) (hf : ∀ i x, f i x = .tuple [.int (i : Nat), x]) : Wk K g (Ite K p) (xs.mapIdx f) :=
  ⟨_, _, _, by rw [List.length_mapIdx]; exact hr.length, walk_enum, fun H s => SqL.of (s _ _ h), fun i H v H' d hd s y => by
    rw [List.getElem?_mapIdx] at hd
    obtain ⟨x, hx, hd⟩ := Option.map_eq_some_iff.mp hd
    obtain ⟨T, a1, a2, h1, h2, h3, h4, h5⟩ := y
    cases h4
    obtain ⟨v', e1, e2⟩ := hr.get hx
    cases Option.some.inj (h5.symm.trans e1)
    refine .inr ⟨T, [.int (i : Nat), a2], [.int (i : Nat), x], h1, h2, h3, by rw [← hd, hf], ?_⟩
    exact ⟨_, _, rfl, rfl, _, _, rfl, e2, rfl⟩⟩
theorem walk_enumT {p : Addr} {vs : List V} : Walk (IteT K p) vs.length (fun H => SqT K H p vs) (YPair (fun i => some (.int (i : Nat))) (fun i => vs[i]?)) := by
  refine ⟨fun i _ hi q => ⟨vs, vs[i], q, by simp [hi]⟩, fun _ q => ⟨vs, q, rfl⟩, fun i H v H' _ q y => ?_⟩
  obtain ⟨T, x, h1, h2, h3, h4⟩ := y
  exact ⟨T, .int (i : Nat), x, h1, h2, h3, rfl, h4 vs q⟩
theorem wk_enumT {p : Addr} {vs : List V} {f : Nat → D → D} (h : SqT K g.fz p vs) (hr : DRs K g.fz vs xs) (hf : ∀ i x, f i x = .tuple [.int (i : Nat), x]) : Wk K g (IteT K p) (xs.mapIdx f) :=
  ⟨_, _, _, by rw [List.length_mapIdx]; exact hr.length, walk_enumT, fun H s => same_sqT s h, fun i H v H' d hd s y => by
    rw [List.getElem?_mapIdx] at hd
    obtain ⟨x, hx, hd⟩ := Option.map_eq_some_iff.mp hd
    obtain ⟨T, a1, a2, h1, h2, h3, h4, h5⟩ := y
    cases h4
    obtain ⟨v', e1, e2⟩ := hr.get hx
    cases Option.some.inj (h5.symm.trans e1)
    refine .inr ⟨T, [.int (i : Nat), a2], [.int (i : Nat), x], h1, h2, h3, by rw [← hd, hf], ?_⟩
    exact ⟨_, _, rfl, rfl, _, _, rfl, e2, rfl⟩⟩
theorem zip_get {f : D → D → D} {xs ys : List D} {i : Nat} {d : D} (h : (List.zipWith f xs ys)[i]? = some d) : ∃ x y, xs[i]? = some x ∧ ys[i]? = some y ∧ d = f x y := by
  rw [List.getElem?_zipWith] at h
  cases hx : xs[i]? with
  | none => rw [hx] at h; cases h
  | some x =>
    cases hy : ys[i]? with
    | none => rw [hx, hy] at h; cases h
    | some y =>
      rw [hx, hy] at h
      exact ⟨x, y, rfl, rfl, (Option.some.inj h).symm⟩
theorem wk_zipL {p q : Addr} {vs us : List V} {ys : List D} {f : D → D → D} (h : g.fz p = some (.lst vs)) (h2 : g.fz q = some (.lst us)) (hr : DRs K g.fz vs xs) (hr2 : DRs K g.fz us ys) (hf : ∀ x y, f x y = .tuple [x, y]) : Wk K g (Itz K p q) (List.zipWith f xs ys) :=
  ⟨_, _, _, by rw [List.length_zipWith, ← hr.length, ← hr2.length], walk_zip rfl, fun H s => ⟨SqL.of (s _ _ h), SqL.of (s _ _ h2)⟩, fun i H v H' d hd s y => by
    obtain ⟨x, y', hx, hy, rfl⟩ := zip_get hd
    obtain ⟨T, a1, a2, h1, h2, h3, h4, h5⟩ := y
    obtain ⟨v1, e1, e2⟩ := hr.get hx
    obtain ⟨v2, e3, e4⟩ := hr2.get hy
    cases Option.some.inj (h4.symm.trans e1)
    cases Option.some.inj (h5.symm.trans e3)
    refine .inr ⟨T, [a1, a2], [x, y'], h1, h2, h3, hf _ _, ?_⟩
    exact ⟨_, _, rfl, e2, _, _, rfl, e4, rfl⟩⟩
theorem walk_zipT {p q : Addr} {vs us : List V} : Walk (RZ.ItzT K p q) (min vs.length us.length) (fun H => SqT K H p vs ∧ SqT K H q us) (YPair (fun i => vs[i]?) (fun i => us[i]?)) := by
  refine ⟨fun i H hi z => ?_, fun H z => ⟨vs, us, z.1, z.2, by omega⟩, fun i H v H' hi z y => ?_⟩
  · have h1 : i < vs.length := by omega
    have h2 : i < us.length := by omega
    exact ⟨vs, us, vs[i], us[i], z.1, z.2, by simp [h1], by simp [h2]⟩
  · obtain ⟨T, x, y', h1, h2, h3, h4, h5⟩ := y
    exact ⟨T, x, y', h1, h2, h3, h4 vs z.1, h5 us z.2⟩
theorem wk_zipT {p q : Addr} {vs us : List V} {ys : List D} {f : D → D → D} (h : SqT K g.fz p vs) (h2 : SqT K g.fz q us) (hr : DRs K g.fz vs xs) (hr2 : DRs K g.fz us ys) (hf : ∀ x y, f x y = .tuple [x, y]) : Wk K g (RZ.ItzT K p q) (List.zipWith f xs ys) :=
  ⟨_, _, _, by rw [List.length_zipWith, ← hr.length, ← hr2.length], walk_zipT, fun H s => ⟨same_sqT s h, same_sqT s h2⟩, fun i H v H' d hd s y => by
    obtain ⟨x, y', hx, hy, rfl⟩ := zip_get hd
    obtain ⟨T, a1, a2, h1, h2, h3, h4, h5⟩ := y
    obtain ⟨v1, e1, e2⟩ := hr.get hx
    obtain ⟨v2, e3, e4⟩ := hr2.get hy
    cases Option.some.inj (h4.symm.trans e1)
    cases Option.some.inj (h5.symm.trans e3)
    refine .inr ⟨T, [a1, a2], [x, y'], h1, h2, h3, hf _ _, ?_⟩
    exact ⟨_, _, rfl, e2, _, _, rfl, e4, rfl⟩⟩

theorem ref_inj {p p' : Addr} (h : V.ref p = V.ref p') : p = p' := by
  injection h
theorem wkV_list {p : Addr} {m : Nat} (h : VWs K g [.ref p] [.dat (.list xs) m]) : Wk K g (Itl K p) xs := by
  obtain ⟨v, r, e, ⟨p', vs, e', t, hr⟩, _⟩ := h
  injection e with e1 e2
  rw [← e1] at e'
  rw [ref_inj e']
  exact wk_list t hr
theorem wkV_tup {p : Addr} {m : Nat} (h : VWs K g [.ref p] [.dat (.tuple xs) m]) : Wk K g (Itt K p) xs := by
  obtain ⟨v, r, e, ⟨p', vs, e', t, hr⟩, _⟩ := h
  injection e with e1 e2
  rw [← e1] at e'
  rw [ref_inj e']
  exact wk_tup t hr
theorem wkV_enumL {p : Addr} {m : Nat} {f : Nat → D → D} (hf : ∀ i x, f i x = .tuple [.int (i : Nat), x]) (h : VWs K g [.ref p] [.dat (.list xs) m]) : Wk K g (Ite K p) (xs.mapIdx f) := by
  obtain ⟨v, r, e, ⟨p', vs, e', t, hr⟩, _⟩ := h
  injection e with e1 e2
  rw [← e1] at e'
  rw [ref_inj e']
  exact wk_enumL t hr hf
theorem wkV_enumT {p : Addr} {m : Nat} {f : Nat → D → D} (hf : ∀ i x, f i x = .tuple [.int (i : Nat), x]) (h : VWs K g [.ref p] [.dat (.tuple xs) m]) : Wk K g (IteT K p) (xs.mapIdx f) := by
  obtain ⟨v, r, e, ⟨p', vs, e', t, hr⟩, _⟩ := h
  injection e with e1 e2
  rw [← e1] at e'
  rw [ref_inj e']
  exact wk_enumT t hr hf
theorem wkV_zipL {p q : Addr} {m m' : Nat} {ys : List D} {f : D → D → D} (hf : ∀ x y, f x y = .tuple [x, y]) (h : VWs K g [.ref p, .ref q] [.dat (.list xs) m, .dat (.list ys) m']) : Wk K g (Itz K p q) (List.zipWith f xs ys) := by
  obtain ⟨v, r, e, ⟨p', vs, e', t, hr⟩, v2, r2, e2, ⟨q', us, e3, t2, hr2⟩, _⟩ := h
  injection e with e1 e4
  rw [← e4] at e2
  injection e2 with e2 _
  rw [← e1] at e'
  rw [← e2] at e3
  rw [ref_inj e', ref_inj e3]
  exact wk_zipL t t2 hr hr2 hf
theorem wkV_zipT {p q : Addr} {m m' : Nat} {ys : List D} {f : D → D → D} (hf : ∀ x y, f x y = .tuple [x, y]) (h : VWs K g [.ref p, .ref q] [.dat (.tuple xs) m, .dat (.tuple ys) m']) : Wk K g (RZ.ItzT K p q) (List.zipWith f xs ys) := by
  obtain ⟨v, r, e, ⟨p', vs, e', t, hr⟩, v2, r2, e2, ⟨q', us, e3, t2, hr2⟩, _⟩ := h
  injection e with e1 e4
  rw [← e4] at e2
  injection e2 with e2 _
  rw [← e1] at e'
  rw [← e2] at e3
  rw [ref_inj e', ref_inj e3]
  exact wk_zipT t t2 hr hr2 hf

theorem cons1 {ws : List W} {S' : Sto} (h : consE ea nilE r S = some (ws, S')) : ∃ w, ws = [w] ∧ ea r S = some (w, S') := by
  unfold consE nilE at h
  split at h
  case h_2 => cases h
  rename_i w1 S2 h2
  cases h
  exact ⟨w1, rfl, h2⟩
theorem i_seq (he : PE X e (tE X.K ea)) : PI X tg e (tI X.K .seq (consE ea nilE)) := by
  refine pi_dyn ?_
  rintro σ H R ⟨g, r, S, ws, S', xs, ok, en, ev, hi, q⟩
  obtain ⟨w, rfl, h1⟩ := cons1 ev
  cases w with
  | dat d m =>
    cases d <;> first | (cases hi; done) | skip
    · cases hi
      exact ⟨_, pi_list he, one ok en h1 fun v g1 H1 a ⟨p, vs, e, t, hr⟩ => ⟨p, e, ⟨vs, SqL.of (a.ok.lst t)⟩, q _ _ g1 [.ref p] a ⟨_, _, rfl, ⟨p, vs, rfl, t, hr⟩, rfl⟩ fun _ o => wkV_list o⟩⟩
    · cases hi
      exact ⟨_, pi_tup he, one ok en h1 fun v g1 H1 a ⟨p, vs, e, t, hr⟩ => ⟨p, e, ⟨vs, a.ok.tup t⟩, q _ _ g1 [.ref p] a ⟨_, _, rfl, ⟨p, vs, rfl, t, hr⟩, rfl⟩ fun _ o => wkV_tup o⟩⟩
  | loc l => cases hi
  | rng lo hi' =>
    have hi : (if lo = 0 ∧ 0 ≤ hi' ∧ hi' < 1000000 then some ((List.range hi'.toNat).map fun i => PyData.int (i : Nat)) else none) = some xs := hi
    split at hi
    case isFalse => cases hi
    rename_i hb
    cases hi
    obtain ⟨rfl, hb⟩ := hb
    refine ⟨_, pi_rngV he, one ok en h1 fun v g1 H1 a ⟨p, e, t⟩ => ⟨p, 0, hi', e, a.ok.sub _ _ t, ⟨by omega, by omega, by omega, by omega⟩, q _ _ g1 [v] a ⟨_, _, rfl, ⟨p, e, t⟩, rfl⟩ fun g2 _ => ?_⟩⟩
    have z := wk_range (K := X.K) (g := g2) (lo := 0) (hi := hi') (f := fun i => .int (i : Nat)) fun i => by rw [Int.zero_add]
    rw [Int.sub_zero] at z ⊢
    exact z
  | scr ns => cases hi
theorem i_enum (hg : Gl X "enumerate") (hm : X.mg "enumerate" = none) (he : PE X e (tE X.K ea)) (hs : starEach [e] X.env = [(false, eval e X.env)]) : PI X (.Tuple elts kk tpos) (.Call (.Name "enumerate" p) [e] [] pos) (tI X.K .enum (consE ea nilE)) := by
  refine pi_dyn ?_
  rintro σ H R ⟨g, r, S, ws, S', xs, ok, en, ev, hi, q⟩
  refine ⟨_, pi_enumA hg hm (p_cons he p_nil hs) hs, g, r, S, ws, S', ok, en, ev, fun vs H1 z => ?_⟩
  obtain ⟨g1, a, o⟩ := z.fz
  obtain ⟨w, rfl, h1⟩ := cons1 ev
  obtain ⟨v, rfl, o1⟩ := vws1 o
  clear o
  cases w with
  | dat d m =>
    cases d <;> first | (cases hi; done) | skip
    · simp only [items] at hi
      split at hi
      case isFalse => cases hi
      cases hi
      obtain ⟨p', vs, e', t, hr⟩ := o1
      exact ⟨p', vs, by rw [e'], .inl ⟨SqL.of (a.ok.lst t), q _ _ g1 [.ref p'] a ⟨_, _, rfl, ⟨p', vs, rfl, t, hr⟩, rfl⟩ fun _ o => wkV_enumL (fun _ _ => rfl) o⟩⟩
    · simp only [items] at hi
      split at hi
      case isFalse => cases hi
      cases hi
      obtain ⟨p', vs, e', t, hr⟩ := o1
      exact ⟨p', vs, by rw [e'], .inr ⟨a.ok.tup t, q _ _ g1 [.ref p'] a ⟨_, _, rfl, ⟨p', vs, rfl, t, hr⟩, rfl⟩ fun _ o => wkV_enumT (fun _ _ => rfl) o⟩⟩
  | loc l => cases hi
  | rng lo hi' => cases hi
  | scr ns => cases hi
theorem i_range1 (hg : Gl X "range") (hm : X.mg "range" = none) (he : PE X e (tE X.K ea)) (hs : starEach [e] X.env = [(false, eval e X.env)]) : PI X tg (.Call (.Name "range" p) [e] [] pos) (tI X.K .range1 (consE ea nilE)) := by
  refine pi_dyn ?_
  rintro σ H R ⟨g, r, S, ws, S', xs, ok, en, ev, hi, q⟩
  refine ⟨_, pi_range1 hg hm (p_cons he p_nil hs) hs, g, r, S, ws, S', ok, en, ev, fun vs H1 z => ?_⟩
  obtain ⟨g1, a, o⟩ := z.fz
  obtain ⟨w, rfl, h1⟩ := cons1 ev
  obtain ⟨v, rfl, o1⟩ := vws1 o
  clear o
  cases w with
  | dat d m =>
    cases d <;> first | (cases hi; done) | skip
    rename_i n
    simp only [items] at hi
    split at hi
    case isFalse => cases hi
    rename_i hb
    cases hi
    refine ⟨n, by rw [show v = _ from o1], hb.1, by omega, q _ _ g1 [v] a ⟨_, _, rfl, o1, rfl⟩ fun g2 _ => ?_⟩
    have z := wk_range (K := X.K) (g := g2) (lo := 0) (hi := n) (f := fun i => .int (i : Nat)) fun i => by rw [Int.zero_add]
    rw [Int.sub_zero] at z
    exact z
  | loc l => cases hi
  | rng lo hi' => cases hi
  | scr ns => cases hi
theorem cons2 {ws : List W} {S' : Sto} (h : consE ea (consE eb nilE) r S = some (ws, S')) : ∃ w u, ws = [w, u] := by
  unfold consE at h
  split at h
  case h_2 => cases h
  rename_i w1 S2 h2
  split at h
  case h_2 => cases h
  rename_i ws S3 h3
  cases h
  obtain ⟨u, rfl, _⟩ := cons1 h3
  exact ⟨w1, u, rfl⟩
theorem items_r2 (h : items .range2 ws = some xs) : ∃ a b m m', ws = [.dat (.int a) m, .dat (.int b) m'] ∧ (-(2 ^ 62) ≤ a ∧ a < 2 ^ 62 ∧ -(2 ^ 62) ≤ b ∧ b < 2 ^ 62 ∧ b - a < 1000000) ∧ xs = (List.range (b - a).toNat).map fun i => .int (a + (i : Nat)) := by
  unfold items at h
  split at h <;> first | contradiction | skip
  split at h
  case isFalse => cases h
  rename_i hb
  cases h
  exact ⟨_, _, _, _, rfl, hb, rfl⟩
theorem items_zip (h : items .zip ws = some xs) : (∃ a b m m', ws = [.dat (.list a) m, .dat (.list b) m'] ∧ xs = List.zipWith (fun x y => .tuple [x, y]) a b) ∨ (∃ a b m m', ws = [.dat (.tuple a) m, .dat (.tuple b) m'] ∧ xs = List.zipWith (fun x y => .tuple [x, y]) a b) := by
  unfold items at h
  split at h <;> first | contradiction | skip
  · cases h
    exact .inl ⟨_, _, _, _, rfl, rfl⟩
  · cases h
    exact .inr ⟨_, _, _, _, rfl, rfl⟩
theorem i_range2 (hg : Gl X "range") (hm : X.mg "range" = none) (he : PE X e (tE X.K ea)) (he2 : PE X e2 (tE X.K eb)) (hs : starEach [e, e2] X.env = (false, eval e X.env) :: starEach [e2] X.env) (hs2 : starEach [e2] X.env = [(false, eval e2 X.env)]) :
    PI X tg (.Call (.Name "range" p) [e, e2] [] pos) (tI X.K .range2 (consE ea (consE eb nilE))) := by
  refine pi_dyn ?_
  rintro σ H R ⟨g, r, S, ws, S', xs, ok, en, ev, hi, q⟩
  refine ⟨_, pi_range2 hg hm (p_cons he (p_cons he2 p_nil hs2) hs) (by rw [hs, hs2]) hs2, g, r, S, ws, S', ok, en, ev, fun vs H1 z => ?_⟩
  obtain ⟨g1, a, o⟩ := z.fz
  obtain ⟨w, u, rfl⟩ := cons2 ev
  obtain ⟨v, v', rfl, o1, o2⟩ := vws2 o
  clear o
  obtain ⟨n, n', m, m', ew, hb, rfl⟩ := items_r2 hi
  cases ew
  exact ⟨n, n', by rw [show v = _ from o1, show v' = _ from o2], ⟨hb.1, hb.2.1, hb.2.2.1, hb.2.2.2.1⟩, q _ _ g1 [v, v'] a ⟨_, _, rfl, o1, _, _, rfl, o2, rfl⟩ fun _ _ => wk_range fun _ => rfl⟩
theorem i_zip (hg : Gl X "zip") (hm : X.mg "zip" = none) (he : PE X e (tE X.K ea)) (he2 : PE X e2 (tE X.K eb)) (hs : starEach [e, e2] X.env = (false, eval e X.env) :: starEach [e2] X.env) (hs2 : starEach [e2] X.env = [(false, eval e2 X.env)])
    (hpl : (backTo pos (starEach [e2] X.env)).any (·.1) = false) : PI X (.Tuple elts kk tpos) (.Call (.Name "zip" p) [e, e2] [] pos) (tI X.K .zip (consE ea (consE eb nilE))) := by
  refine pi_dyn ?_
  rintro σ H R ⟨g, r, S, ws, S', xs, ok, en, ev, hi, q⟩
  refine ⟨_, RZ.pi_zipA hg hm (p_cons he (p_cons he2 p_nil hs2) hs) hs hpl, g, r, S, ws, S', ok, en, ev, fun vs H1 z => ?_⟩
  obtain ⟨g1, a, o⟩ := z.fz
  obtain ⟨w, u, rfl⟩ := cons2 ev
  obtain ⟨v, v', rfl, o1, o2⟩ := vws2 o
  clear o
  rcases items_zip hi with ⟨x1, x2, m, m', ew, rfl⟩ | ⟨x1, x2, m, m', ew, rfl⟩ <;> cases ew
  · obtain ⟨p1, vs1, e1, t1, r1⟩ := o1
    obtain ⟨p2, vs2, e2', t2, r2⟩ := o2
    exact ⟨p1, p2, vs1, vs2, by rw [e1, e2'], .inl ⟨SqL.of (a.ok.lst t1), SqL.of (a.ok.lst t2), q _ _ g1 [.ref p1, .ref p2] a ⟨_, _, rfl, ⟨p1, vs1, rfl, t1, r1⟩, _, _, rfl, ⟨p2, vs2, rfl, t2, r2⟩, rfl⟩ fun _ o => wkV_zipL (fun _ _ => rfl) o⟩⟩
  · obtain ⟨p1, vs1, e1, t1, r1⟩ := o1
    obtain ⟨p2, vs2, e2', t2, r2⟩ := o2
    exact ⟨p1, p2, vs1, vs2, by rw [e1, e2'], .inr ⟨a.ok.tup t1, a.ok.tup t2, q _ _ g1 [.ref p1, .ref p2] a ⟨_, _, rfl, ⟨p1, vs1, rfl, t1, r1⟩, _, _, rfl, ⟨p2, vs2, rfl, t2, r2⟩, rfl⟩ fun _ o => wkV_zipT (fun _ _ => rfl) o⟩⟩
end
end MP
end

section
set_option maxRecDepth 100000
/-! MpComp: targets, comprehensions. -/
namespace MP
open PySem L2

variable {X : Cx} {a b e elt iter : Expr} {ea eb : Ev} {eas : Evs} {pos p tpos : Pos} {tg : Expr} {g g1 g2 : Gho} {H H0 H1 H2 H' : Hp} {S S1 S2 : Sto} {r r1 : Rho} {σ : L2.St} {d : D} {ds xs : List D} {K : PySem.W.Frag} {ws : List W} {vs : List V} {v : V} {A : List Addr}

/-! ### targets -/
def gNames : List Nat → TGs
  | [] => gNil
  | i :: is => gCons (gName i) (gNames is)
def tgR (K : PySem.W.Frag) (tg : List Nat) (one : Bool) : TG :=
  if one then match tg with
    | [i] => gName i
    | _ => fun _ _ _ _ => False
  else gTup K tg.length (gNames tg)

/-- as EnvF, but for the names ex -/
def EnvX (K : PySem.W.Frag) (g : Gho) (r : Rho) (σ : L2.St) (ex : List Nat) : Prop := ∀ (i : Nat) (w : W), i ∉ ex → r[i]? = some (some w) → ∃ v, σ[i]? = some (some v) ∧ VW K g v w
theorem EnvF.x {ex : List Nat} (en : EnvF K g r σ) : EnvX K g r σ ex := fun i w _ h => en i w h
theorem EnvX.f (en : EnvX K g r σ []) : EnvF K g r σ := fun i w h => en i w (by simp) h
theorem EnvX.mono {ex : List Nat} (h : Same g.fz g1.fz) (p : ∃ more, g1.phi = g.phi ++ more) (e : EnvX K g r σ ex) : EnvX K g1 r σ ex := fun i w hi hw => by
  obtain ⟨v, h1, h2⟩ := e i w hi hw
  exact ⟨v, h1, h2.mono h p⟩
theorem EnvX.set {i : Nat} {w : W} {ex : List Nat} (en : EnvX K g r σ (i :: ex)) (h : VW K g v w) (hl : i < σ.length) : EnvX K g (r.set i (some w)) (σ.set i (some v)) ex := fun j w' hx hj => by
  by_cases e : i = j
  · subst e
    have e2 : w' = w := by
      by_cases hi : i < r.length
      · rw [List.getElem?_set_self hi] at hj
        exact (Option.some.inj (Option.some.inj hj)).symm
      · rw [List.getElem?_eq_none (by simpa using hi)] at hj
        cases hj
    subst e2
    exact ⟨v, List.getElem?_set_self hl, h⟩
  · rw [List.getElem?_set_ne e] at hj
    obtain ⟨v', h1, h2⟩ := en j w' (by simp [Ne.symm e, hx]) hj
    exact ⟨v', by rw [List.getElem?_set_ne e]; exact h1, h2⟩
theorem EnvF.set {i : Nat} {w : W} (en : EnvF K g r σ) (h : VW K g v w) (hl : i < σ.length) : EnvF K g (r.set i (some w)) (σ.set i (some v)) := (EnvX.set (ex := []) en.x h hl).f
/-- σ has a place for each -/
def Fits (tg : List Nat) (σ : L2.St) : Prop := ∀ i ∈ tg, i < σ.length
theorem setAll_ok {Q : L2.St → Hp → Prop} : ∀ {tg : List Nat} {ds : List D} {vs : List V} {r r1 : Rho} {σ : L2.St}, setAll tg ds r = some r1 → DRs K g.fz vs ds → EnvX K g r σ tg → Fits tg σ →
    (∀ σ', EnvF K g r1 σ' → σ'.length = σ.length → (∀ j, j ∉ tg → σ'[j]? = σ[j]?) → Q σ' H) → gNames tg vs σ H Q
  | [], [], vs, r, r1, σ, h, q, en, _, k => by
    cases h
    exact ⟨q, k σ en.f rfl fun _ _ => rfl⟩
  | i :: is, d :: ds, _, r, r1, σ, h, ⟨v, rs, e, q, t⟩, en, f, k => by
    have hi : i < σ.length := f i (by simp)
    refine ⟨v, rs, e, setAll_ok (tg := is) h t (en.set (w := .dat d 0) q hi) (fun j hj => by rw [List.length_set]; exact f j (by simp [hj])) fun σ' h1 h2 h3 => k σ' h1 (by rw [h2, List.length_set]) fun j hj => ?_⟩
    have hj : j ≠ i ∧ j ∉ is := by simpa using hj
    rw [h3 j hj.2, List.getElem?_set_ne (Ne.symm hj.1)]
  | [], _ :: _, _, _, _, _, h, _, _, _, _ => by cases h
  | _ :: _, [], _, _, _, _, h, _, _, _, _ => by cases h
theorem setAll_len : ∀ {tg : List Nat} {ds : List D} {r r1 : Rho}, setAll tg ds r = some r1 → tg.length = ds.length
  | [], [], _, _, _ => rfl
  | i :: is, d :: ds, _, _, h => by
    have e := setAll_len (tg := is) (ds := ds) h
    show is.length + 1 = ds.length + 1
    rw [e]
  | [], _ :: _, _, _, h => by cases h
  | _ :: _, [], _, _, h => by cases h
/-- an item comes to the target -/
theorem bind_ok {tg : List Nat} {one : Bool} {Q : L2.St → Hp → Prop} (h : bindT tg one d r = some r1) (ok : OkG K g S H) (y : Yd K g d H v H') (en : EnvX K g r σ tg) (f : Fits tg σ)
    (k : ∀ g' σ', Go K g H g' S H' → EnvF K g' r1 σ' → σ'.length = σ.length → (∀ j, j ∉ tg → σ'[j]? = σ[j]?) → Q σ' H') : tgR K tg one v σ H' Q := by
  unfold bindT at h
  unfold tgR
  cases one with
  | true =>
    rw [if_pos rfl] at h ⊢
    cases tg with
    | nil => cases h
    | cons i is =>
      cases is with
      | cons _ _ => cases h
      | nil =>
        cases h
        show Q (σ.set i (some v)) H'
        have hi : i < σ.length := f i (by simp)
        have hj : ∀ v', ∀ j, j ∉ [i] → (σ.set i (some v'))[j]? = σ[j]? := fun v' j hj => by
          rw [List.getElem?_set_ne]
          intro z
          exact hj (by simp [z])
        rcases y with ⟨e, q⟩ | ⟨T, vs, ds, e1, hT, e, e2, q⟩
        · rw [e] at k ⊢
          exact k g _ (Go.refl ok) (en.set (w := .dat d 0) q hi).f (by rw [List.length_set]) (hj v)
        · have a := (Go.refl ok).newF (o := .tup vs) hT
          rw [e] at k ⊢
          have q2 : DR K (upd g.fz T (.tup vs)) v d := by
            rw [e1, e2]
            exact ⟨T, vs, rfl, .inl (.inl upd_same), DRs.mono a.le ds vs q⟩
          exact k _ _ a ((en.mono a.le a.pre).set (w := .dat d 0) q2 hi).f (by rw [List.length_set]) (hj v)
  | false =>
    rw [if_neg (by decide)] at h ⊢
    cases d <;> first | (cases h; done) | skip
    rename_i ds
    have h : setAll tg ds r = some r1 := h
    rcases y with ⟨e, p, xs, e1, t, q⟩ | ⟨T, vs, ds', e1, hT, e, e2, q⟩
    · rw [e] at k ⊢
      exact ⟨p, xs, e1, ok.tup t, by rw [q.length]; exact (setAll_len h).symm, setAll_ok h q en f fun σ' h1 h2 h3 => k g σ' (Go.refl ok) h1 h2 h3⟩
    · cases e2
      have a := (Go.refl ok).new (o := .tup vs) hT
      rw [e] at k ⊢
      exact ⟨T, vs, e1, .inl (.inl upd_same), by rw [q.length]; exact (setAll_len h).symm, setAll_ok h q en f fun σ' h1 h2 h3 => k g σ' a h1 h2 h3⟩

/-! ### wiped slots -/
theorem wipe_get (σ : L2.St) (j : Nat) : ∀ vs : List Nat, (wipe σ vs)[j]? = if j ∈ vs then σ[j]?.map (fun _ => none) else σ[j]?
  | [] => by simp [wipe]
  | i :: vs => by
    have ih := wipe_get σ j vs
    unfold wipe
    by_cases e : i = j
    · subst e
      rw [if_pos (by simp)]
      by_cases hl : i < σ.length
      · rw [List.getElem?_set_self (by rw [wipe_length]; exact hl), List.getElem?_eq_getElem hl]
        rfl
      · rw [List.getElem?_eq_none (by rw [List.length_set, wipe_length]; omega), List.getElem?_eq_none (by omega)]
        rfl
    · rw [List.getElem?_set_ne e, ih]
      have : (j ∈ i :: vs) ↔ j ∈ vs := by
        rw [List.mem_cons]
        exact ⟨fun z => z.elim (fun z => absurd z.symm e) id, .inr⟩
      by_cases hj : j ∈ vs
      · rw [if_pos hj, if_pos (this.mpr hj)]
      · rw [if_neg hj, if_neg fun z => hj (this.mp z)]
theorem wipe_eq {σ σ' : L2.St} {vs : List Nat} (hl : σ'.length = σ.length) (h : ∀ j, j ∉ vs → σ'[j]? = σ[j]?) : wipe σ' vs = wipe σ vs := by
  refine List.ext_getElem? fun j => ?_
  rw [wipe_get, wipe_get]
  by_cases hj : j ∈ vs
  · rw [if_pos hj, if_pos hj]
    by_cases h1 : j < σ.length
    · rw [List.getElem?_eq_getElem h1, List.getElem?_eq_getElem (by omega)]
      rfl
    · rw [List.getElem?_eq_none (by omega), List.getElem?_eq_none (by omega)]
  · rw [if_neg hj, if_neg hj, h j hj]
theorem wipe_out {σ : L2.St} {vs : List Nat} {j : Nat} (h : j ∉ vs) : (wipe σ vs)[j]? = σ[j]? := by
  rw [wipe_get, if_neg h]
theorem wipe_wipe {σ : L2.St} {vs us : List Nat} (h : ∀ j ∈ us, j ∈ vs) : wipe (wipe σ vs) us = wipe σ vs := by
  refine List.ext_getElem? fun j => ?_
  rw [wipe_get]
  by_cases hj : j ∈ us
  · rw [if_pos hj, wipe_get, if_pos (h j hj)]
    cases σ[j]? <;> rfl
  · rw [if_neg hj]

/-! ### a comprehension -/
def tTs (K : PySem.W.Frag) (ev : Rho → Sto → Option (Bool × Sto)) : TT := fun σ H Q => ∃ g r S b S', OkG K g S H ∧ EnvF K g r σ ∧ ev r S = some (b, S') ∧ ∀ H' g', Go K g H g' S' H' → Q b H'
def ts0 : Rho → Sto → Option (Bool × Sto) := fun _ S => some (true, S)
def ts1 (ea : Ev) : Rho → Sto → Option (Bool × Sto) := fun r S => match ea r S with
    | some (.dat (.bool true) _, S1) => some (true, S1)
    | some (.dat (.bool false) _, S1) => some (false, S1)
    | _ => none
theorem p_ts0 : PTs X [] (tTs X.K ts0) := ⟨fun pins s σ H Q I h => pts_nil.run pins s σ H Q I (by
  obtain ⟨g, r, S, b, S', ok, en, ev, q⟩ := h
  cases ev
  exact q _ g (Go.refl ok))⟩
theorem p_ts1 {c : Expr} (h : PT X c (tT X.K ea)) : PTs X [c] (tTs X.K (ts1 ea)) := ⟨fun pins s σ H Q I hq => (pts_one h).run pins s σ H Q I (by
  obtain ⟨g, r, S, b, S', ok, en, ev, q⟩ := hq
  unfold ts1 at ev
  split at ev
  · rename_i m S1 h1
    cases ev
    exact ⟨g, r, S, true, m, S', ok, en, h1, q⟩
  · rename_i m S1 h1
    cases ev
    exact ⟨g, r, S, false, m, S', ok, en, h1, q⟩
  · cases ev)⟩

/-- a fresh list grows -/
theorem Go.upd {D : Addr} {o o' : HO} (a : Go K g H g1 S1 H1) (hD : H1 D = some o) (h0 : H D = none) (h1 : g1.fz D = none) (h2 : D ∉ g1.phi) : Go K g H g1 S1 (upd H1 D o') := by
  refine ⟨a.le, a.phi, ⟨fun x u e => ?_, a.ok.len, a.ok.nd, fun l x ds e1 e2 => ?_⟩, fun x u q1 q2 => ?_, a.nw, fun x u q => ?_⟩
  · have ne : x ≠ D := fun z => by
      rw [z, h1] at e
      cases e
    rw [upd_ne ne]
    exact a.ok.sub x u e
  · obtain ⟨vs, q1, q2⟩ := a.ok.cell l x ds e1 e2
    have ne : x ≠ D := fun z => h2 (z ▸ List.mem_of_getElem? e1)
    exact ⟨vs, by rw [upd_ne ne]; exact q1, q2⟩
  · have ne : x ≠ D := fun z => by
      rw [z, h0] at q1
      cases q1
    rw [upd_ne ne]
    exact a.fr x u q1 q2
  · by_cases ne : x = D
    · exact ⟨o', by rw [ne]; exact upd_same⟩
    · obtain ⟨u', q'⟩ := a.dm x u q
      exact ⟨u', by rw [upd_ne ne]; exact q'⟩
/-- what a comprehension has made so far: the list at D, over the state (g, H) ahead of it -/
structure Acc (K : PySem.W.Frag) (g : Gho) (H : Hp) (D : Addr) (dm : List (MP.D × Nat)) (g1 : Gho) (S1 : Sto) (H1 : Hp) : Prop where
  go : Go K g H g1 S1 H1
  h0 : H D = none
  h1 : g1.fz D = none
  h2 : D ∉ g1.phi
  its : ∃ vs A, H1 D = some (.lst vs) ∧ VOs K g1 H1 vs (dm.map fun q => W.dat q.1 q.2) A ∧ Fre g1 H A ∧ D ∉ A
theorem Acc.fin {D : Addr} {dm : List (MP.D × Nat)} (c : Acc K g H D dm g1 S1 H1) : Rz K g H (.dat (.list (dm.map (·.1))) (dOf dm)) S1 (.ref D) H1 := by
  obtain ⟨vs, A, e, o, f, n⟩ := c.its
  exact Rz.fin c.go e c.h0 c.h1 c.h2 o f n
theorem Acc.step {D : Addr} {dm : List (MP.D × Nat)} (c : Acc K g H D dm g1 S1 H1) (b : Go K g1 H1 g2 S2 H2) : Acc K g H D dm g2 S2 H2 := by
  obtain ⟨vs, A, e, o, f, n⟩ := c.its
  obtain ⟨m, e2, n2⟩ := b.phi
  refine ⟨c.go.trans b, c.h0, b.nw _ _ e c.h1, fun z => ?_, vs, A, b.fr _ _ e c.h2, o.mono b.le b.pre (b.keep f), b.fre o.lsts f, n⟩
  rw [e2] at z
  rcases List.mem_append.mp z with z | z
  · exact c.h2 z
  · rw [n2 D z] at e
    cases e
theorem VOs.app : ∀ {ws us : List W} {vs ys : List V} {A B : List Addr}, VOs K g H vs ws A → VOs K g H ys us B → VOs K g H (vs ++ ys) (ws ++ us) (A ++ B)
  | [], _, _, _, _, _, h, q => by
    rw [h.1, h.2]
    exact q
  | w :: ws, us, _, ys, _, B, ⟨v, r, B1, C, e, eA, q, t⟩, h => by
    rw [e, eA, List.append_assoc]
    exact ⟨v, r ++ ys, B1, C ++ B, rfl, rfl, q, VOs.app t h⟩
theorem Acc.put {D : Addr} {dm : List (MP.D × Nat)} {d : MP.D} {m : Nat} {y : V} (c : Acc K g H D dm g1 S1 H1) (z : Rz K g1 H1 (.dat d m) S2 y H2) :
    ∃ g2 acc, Same g1.fz g2.fz ∧ (∃ more, g2.phi = g1.phi ++ more) ∧ H2 D = some (.lst acc) ∧ acc.length = dm.length ∧ Acc K g H D (dm ++ [(d, m)]) g2 S2 (L2.upd H2 D (.lst (acc ++ [y]))) := by
  obtain ⟨g2, B, b, o2, f2⟩ := z
  have c2 := c.step b
  obtain ⟨vs, A, e, o, f, n⟩ := c.its
  obtain ⟨vs', A', e', o', f', n'⟩ := c2.its
  have ev : H2 D = some (.lst vs) := b.fr _ _ e c.h2
  have nB : D ∉ B := fun hD => by
    rw [(f2.2 D hD).1] at e
    cases e
  have oA : VOs K g2 H2 vs (dm.map fun q => W.dat q.1 q.2) A := o.mono b.le b.pre (b.keep f)
  refine ⟨g2, vs, b.le, b.pre, ev, by rw [o.length, List.length_map], c2.go.upd ev c2.h0 c2.h1 c2.h2, c2.h0, c2.h1, c2.h2, vs ++ [y], A ++ B, upd_same, ?_, fre_app f b c.go o.lsts f2, fun hD => (List.mem_append.mp hD).elim n nB⟩
  rw [List.map_append]
  have k : ∀ x ∈ A ++ B, ∀ o, H2 x = some o → L2.upd H2 D (.lst (vs ++ [y])) x = some o := fun x hx o q => by
    have ne : x ≠ D := fun z => (List.mem_append.mp hx).elim (fun h => n (z ▸ h)) fun h => nB (z ▸ h)
    rw [upd_ne ne]
    exact q
  exact VOs.mono (fun _ _ e => e) ⟨[], by simp⟩ k (VOs.app oA ⟨y, [], B, [], rfl, by simp, o2, rfl, rfl⟩)

def stepE (eelt : Ev) (ets : Rho → Sto → Option (Bool × Sto)) (tg : List Nat) (one : Bool) (r : Rho) : MP.D → Sto → Option (Option (MP.D × Nat) × Sto) := fun x S => match bindT tg one x r with
    | some r1 => match ets r1 S with
      | some (true, S2) => match eelt r1 S2 with
        | some (.dat d m, S3) => some (some (d, m), S3)
        | _ => none
      | some (false, S2) => some (none, S2)
      | none => none
    | none => none
def compE (eelt : Ev) (ets : Rho → Sto → Option (Bool × Sto)) (tg : List Nat) (one : Bool) (k : Ik) (eits : Evs) : Ev := fun r S => match eits r S with
    | some (ws, S1) => match items k ws with
      | some xs => if xs.length ≤ LIM then
          match compGo (stepE eelt ets tg one r) xs S1 with
          | some (ds, S2) => some (.dat (.list (ds.map (·.1))) (dOf ds), S2)
          | none => none
        else none
      | none => none
    | none => none
theorem compGo_len {f : MP.D → Sto → Option (Option (MP.D × Nat) × Sto)} : ∀ {xs : List MP.D} {S S' : Sto} {ds : List (MP.D × Nat)}, compGo f xs S = some (ds, S') → ds.length ≤ xs.length
  | [], _, _, _, h => by
    cases h
    exact Nat.zero_le _
  | x :: xs, S, S', ds, h => by
    unfold compGo at h
    split at h
    case h_1 => cases h
    split at h
    case h_1 => cases h
    rename_i o S1 h1 _ ys S2 h2
    have ih := compGo_len h2
    cases h
    rw [List.length_cons]
    cases o with
    | none => exact Nat.le_succ_of_le ih
    | some y =>
      rw [List.length_cons]
      omega
variable {ifs : List Expr} {scope : Scope} {own : List (Str × Nat)} {eelt : Ev} {ets : Rho → Sto → Option (Bool × Sto)} {tgs : List Nat} {one : Bool} {k : Ik} {eits : Evs}

/-- the turns of a walk, one item at a time -/
theorem lc_run {xs : List MP.D} {J : It} {D : Addr} {g0 : Gho} {H0 : Hp} {r : Rho} {σ : L2.St} {us : List Nat} {ds : List (MP.D × Nat)} {S0 S' : Sto} {dm : List (MP.D × Nat)} {Qd : Hp → Prop} (wk : Wk K g1 J xs) (hus : ∀ j, j ∈ us ↔ j ∈ tgs)
    (en : EnvF K g1 r σ) (fit : Fits tgs σ) (hx : dm.length + xs.length ≤ LIM) (hgo : compGo (stepE eelt ets tgs one r) xs S0 = some (ds, S')) (ac : Acc K g0 H0 D dm g1 S0 H1)
    (hd : ∀ g' H', Acc K g0 H0 D (dm ++ ds) g' S' H' → Same g1.fz g'.fz → (∃ more, g'.phi = g1.phi ++ more) → Qd H') :
    ∃ W : Nat → Nat → Hp → Prop, (∃ m, W 0 m H1) ∧ ∀ i m H, W i m H →
      (J.stop i H ∧ Qd H) ∨ (J.go i H ∧ ∃ Nx : Hp → Prop, (∀ H', Nx H' → ∃ m', m' < m ∧ W (i + 1) m' H') ∧ ∀ x H', J.yld i H x H' → tgR K tgs one x (wipe σ us) H' fun σ2 H2 => wipe σ2 us = wipe σ us ∧ tTs K ets σ2 H2 fun b H3 =>
        if b = true then tE K eelt σ2 H3 fun y H4 => ∃ acc, H4 D = some (.lst acc) ∧ acc.length < sizeLine ∧ Nx (L2.upd H4 D (.lst (acc ++ [y]))) else Nx H3) := by
  obtain ⟨n, G, Y, hn, w, hG, hY⟩ := wk.ex
  let Pv : Nat → Hp → Prop := fun i H => ∃ g2 S2 dm2 rest, Acc K g0 H0 D dm2 g2 S2 H ∧ Same g1.fz g2.fz ∧ (∃ more, g2.phi = g1.phi ++ more) ∧ compGo (stepE eelt ets tgs one r) (xs.drop i) S2 = some (rest, S') ∧ dm2 ++ rest = dm ++ ds ∧ dm2.length ≤ dm.length + i
  refine ⟨fun i m H => m = n - i ∧ i ≤ n ∧ Pv i H, ⟨n, by simp, Nat.zero_le _, g1, S0, dm, ds, ac, fun _ _ e => e, ⟨[], by simp⟩, hgo, rfl, by omega⟩, ?_⟩
  rintro i m H ⟨rfl, hi, g2, S2, dm2, rest, ac2, sm, pre, hgo2, hap, hl2⟩
  have q := hG H (sm.trans ac2.go.ok.sub)
  by_cases hlt : i < n
  · refine .inr ⟨w.goes i H hlt q, Pv (i + 1), fun H' p' => ⟨n - (i + 1), by omega, rfl, hlt, p'⟩, fun x H' y => ?_⟩
    have hlt' : i < xs.length := by omega
    have e1 : xs.drop i = xs[i] :: xs.drop (i + 1) := List.drop_eq_getElem_cons hlt'
    rw [e1] at hgo2
    unfold compGo at hgo2
    split at hgo2
    case h_1 => cases hgo2
    rename_i o S3 h1
    split at hgo2
    case h_1 => cases hgo2
    rename_i ys S4 h2
    cases hgo2
    have y2 := hY i H x H' xs[i] (List.getElem?_eq_getElem hlt') (sm.trans ac2.go.ok.sub) (w.yields i H x H' hlt q y)
    have y3 : Yd K g2 xs[i] H x H' := by
      rcases y2 with ⟨a1, a2⟩ | ⟨T, vs, dd, a1, a2, a3, a4, a5⟩
      · exact .inl ⟨a1, DR.mono sm _ _ a2⟩
      · exact .inr ⟨T, vs, dd, a1, a2, a3, a4, DRs.mono sm _ _ a5⟩
    unfold stepE at h1
    split at h1
    case h_2 => cases h1
    rename_i r1 hb
    have enw : EnvX K g2 r (wipe σ us) tgs := fun j w hj hw => by
      obtain ⟨v, q1, q2⟩ := en j w hw
      exact ⟨v, by rw [wipe_out fun z => hj ((hus j).mp z)]; exact q1, q2.mono sm pre⟩
    refine bind_ok hb ac2.go.ok y3 enw (fun j hj => by rw [wipe_length]; exact fit j hj) fun g3 σ3 b1 en3 l3 s3 => ?_
    have hw : wipe σ3 us = wipe σ us := by
      rw [wipe_eq (σ := wipe σ us) (by rw [l3]) fun j hj => s3 j fun z => hj ((hus j).mpr z), wipe_wipe fun _ z => z]
    have next : ∀ {g4 : Gho} {S4 : Sto} {H4 : Hp} {dm4 : List (MP.D × Nat)} {rest4 : List (MP.D × Nat)}, Acc K g0 H0 D dm4 g4 S4 H4 → Same g2.fz g4.fz → (∃ more, g4.phi = g2.phi ++ more) →
        compGo (stepE eelt ets tgs one r) (xs.drop (i + 1)) S4 = some (rest4, S') → dm4 ++ rest4 = dm ++ ds → dm4.length ≤ dm.length + (i + 1) → Pv (i + 1) H4 := fun {g4 S4 H4 dm4 rest4} c s4 p4 q4 a4 l4 => by
      obtain ⟨m1, e1⟩ := pre
      obtain ⟨m2, e2⟩ := p4
      exact ⟨g4, S4, dm4, rest4, c, sm.trans s4, ⟨m1 ++ m2, by rw [e2, e1, List.append_assoc]⟩, q4, a4, l4⟩
    have l5 : dm2.length < sizeLine := by
      have : dm2.length < LIM := by omega
      exact Nat.lt_of_lt_of_le this (by decide)
    split at h1
    · rename_i S5 ht
      split at h1
      case h_2 => cases h1
      rename_i d m S6 hel
      cases h1
      refine ⟨hw, g3, r1, S2, true, S5, b1.ok, en3, ht, fun H5 g5 b2 => ?_⟩
      dsimp only
      rw [if_pos rfl]
      refine ⟨g5, r1, S5, _, _, b2.ok, b2.env en3, hel, fun y5 H6 z => ?_⟩
      obtain ⟨g6, acc, k4, k5, k1, k2, k3⟩ := ((ac2.step b1).step b2).put z
      exact ⟨acc, k1, by rw [k2]; exact l5, next k3 ((b1.le.trans b2.le).trans k4) (by
        obtain ⟨m1, e1⟩ := b1.pre
        obtain ⟨m2, e2⟩ := b2.pre
        obtain ⟨m3, e3⟩ := k5
        exact ⟨m1 ++ (m2 ++ m3), by rw [e3, e2, e1, List.append_assoc, List.append_assoc]⟩) h2 (by rw [← hap, List.append_assoc]; rfl) (by rw [List.length_append]; simp; omega)⟩
    · rename_i S5 ht
      cases h1
      refine ⟨hw, g3, r1, S2, false, _, b1.ok, en3, ht, fun H5 g5 b2 => ?_⟩
      dsimp only
      rw [if_neg (by decide)]
      exact next ((ac2.step b1).step b2) (b1.le.trans b2.le) (by
        obtain ⟨m1, e1⟩ := b1.pre
        obtain ⟨m2, e2⟩ := b2.pre
        exact ⟨m1 ++ m2, by rw [e2, e1, List.append_assoc]⟩) h2 hap (by omega)
    · cases h1
  · have e : i = n := by omega
    subst e
    refine .inl ⟨w.stops H q, hd g2 H ?_ sm pre⟩
    rw [hn, List.drop_length] at hgo2
    cases hgo2
    rw [List.append_nil] at hap
    rw [← hap]
    exact ac2

/-! ### as expressions -/
theorem pe_len {X : Cx} {e : Expr} {t t' : TE} (p : PE X e t') (h : ∀ σ H Q, σ.length = X.N.length → t σ H Q → t' σ H Q) : PE X e t :=
  ⟨fun pins s σ H Q I q => p.run pins s σ H Q I (h σ H Q I.len q)⟩
theorem Acc.start {D : Addr} (a : Go K g H g1 S1 H1) (hD : H1 D = none) : Acc K g H D [] g1 S1 (L2.upd H1 D (.lst [])) := by
  obtain ⟨h0, h1, h2⟩ := a.out hD
  exact ⟨a.new hD, h0, h1, h2, [], [], upd_same, ⟨rfl, rfl⟩, Fre.nil, by simp⟩
theorem comp_imp {X : Cx} (ok : BlkOk X.N X.env.scope scope own) (hus : ∀ j, j ∈ own.map (·.2) ↔ j ∈ tgs) : ∀ (σ : L2.St) (H : Hp) (Q : VK), σ.length = X.N.length → tE X.K (compE eelt ets tgs one k eits) σ H Q →
    tLc (tI X.K k eits) (tgR X.K tgs one) (tTs X.K ets) (tE X.K eelt) (own.map (·.2)) σ H Q := by
  rintro σ H Q hl ⟨g, r, S, w, S', okg, en, ev, q⟩
  unfold compE at ev
  split at ev
  case h_2 => cases ev
  rename_i ws S1 h1
  split at ev
  case h_2 => cases ev
  rename_i xs h2
  split at ev
  case isFalse => cases ev
  rename_i h3
  split at ev
  case h_2 => cases ev
  rename_i ds S2 h4
  cases ev
  have fit : Fits tgs σ := fun i hi' => by
    obtain ⟨p, hp, e⟩ := List.mem_map.mp ((hus i).mpr hi')
    have := ok.ix p hp
    rw [hl, ← e]
    exact (List.getElem?_eq_some_iff.mp this).1
  refine ⟨g, r, S, ws, S1, xs, okg, en, h1, h2, fun J H1 g1 _ a o wk D hD => ?_⟩
  exact lc_run (dm := []) (wk g1 o) hus (a.env en) fit (by simpa using h3) h4 (Acc.start a hD) fun g' H' ac _ _ => q _ _ ac.fin
theorem p_comp (hc : X.calm = true) (hN : X.N.Nodup) (hi : PI X tg iter (tI X.K k eits)) (ok : BlkOk X.N X.env.scope scope own) (hus : ∀ j, j ∈ own.map (·.2) ↔ j ∈ tgs)
    (hg : ∀ (s : Shared) (H : Hp) (C : Addr) (cl : List (Str × Addr)) (fp : List Addr), PG (X.blk s H scope (compEnvC scope cl C X.env) fp) tg (tgR X.K tgs one))
    (ht : ∀ (s : Shared) (H : Hp) (C : Addr) (cl : List (Str × Addr)) (fp : List Addr), PTs (X.blk s H scope (compEnvC scope cl C X.env) fp) ifs (tTs X.K ets))
    (he : ∀ (s : Shared) (H : Hp) (C : Addr) (cl : List (Str × Addr)) (fp : List Addr), PE (X.blk s H scope (compEnvC scope cl C X.env) fp) elt (tE X.K eelt)) (hs : ∀ x, foldedSetIterable iter X.env x = pure x) :
    PE X (.ListComp elt [⟨tg, iter, ifs, 0⟩] scope pos) (tE X.K (compE eelt ets tgs one k eits)) :=
  pe_len (pe_lc hc hN hi ok hg ht he hs) (comp_imp ok hus)

variable {elt2 iter2 : Expr} {tg2 : Expr} {eit eit2 : Ev} {i j : Nat}
def step2E (eelt : Ev) (ets : Rho → Sto → Option (Bool × Sto)) (i j : Nat) (eit2 : Ev) (r : Rho) : MP.D → Sto → Option (List (MP.D × Nat) × Sto) := fun x S =>
    match eit2 ((r.set j none).set i (some (.dat x 0))) S with
    | some (w2, S2) => match items .seq [w2] with
      | some ys => if ys.length ≤ 300 then compGo (stepE eelt ets [j] true ((r.set j none).set i (some (.dat x 0)))) ys S2 else none
      | none => none
    | none => none
def comp2E (eelt : Ev) (ets : Rho → Sto → Option (Bool × Sto)) (i j : Nat) (eit eit2 : Ev) : Ev := fun r S => match eit r S with
    | some (w, S1) => match items .seq [w] with
      | some xs => if xs.length ≤ 300 then
          match compGo2 (step2E eelt ets i j eit2 r) xs S1 with
          | some (ds, S2) => some (.dat (.list (ds.map (·.1))) (dOf ds), S2)
          | none => none
        else none
      | none => none
    | none => none
theorem lc2_run {xs : List MP.D} {J : It} {D : Addr} {g0 : Gho} {H0 : Hp} {r : Rho} {σ : L2.St} {us : List Nat} {ds : List (MP.D × Nat)} {S0 S' : Sto} {dm : List (MP.D × Nat)} {Qd : Hp → Prop} (wk : Wk K g1 J xs) (hus : ∀ l, l ∈ us ↔ l = i ∨ l = j) (hij : i ≠ j)
    (en : EnvF K g1 r σ) (fi : i < σ.length) (fj : j < σ.length) (hx : dm.length + 300 * xs.length ≤ LIM) (hgo : compGo2 (step2E eelt ets i j eit2 r) xs S0 = some (ds, S')) (ac : Acc K g0 H0 D dm g1 S0 H1)
    (hd : ∀ g' H', Acc K g0 H0 D (dm ++ ds) g' S' H' → Same g1.fz g'.fz → (∃ more, g'.phi = g1.phi ++ more) → Qd H') :
    ∃ W : Nat → Nat → Hp → Prop, (∃ m, W 0 m H1) ∧ ∀ t m H, W t m H →
      (J.stop t H ∧ Qd H) ∨ (J.go t H ∧ ∃ Nx : Hp → Prop, (∀ H', Nx H' → ∃ m', m' < m ∧ W (t + 1) m' H') ∧ ∀ x H', J.yld t H x H' → tgR K [i] true x (wipe σ us) H' fun σ2 H2 => wipe σ2 us = wipe σ us ∧ tTs K ts0 σ2 H2 fun b H3 =>
        if b = true then tI K .seq (consE eit2 nilE) σ2 H3 fun J1 H4 => ∃ W1 : Nat → Nat → Hp → Prop, (∃ m, W1 0 m H4) ∧ ∀ j' k H, W1 j' k H →
          (J1.stop j' H ∧ Nx H) ∨ (J1.go j' H ∧ ∃ Nx1 : Hp → Prop, (∀ H', Nx1 H' → ∃ k', k' < k ∧ W1 (j' + 1) k' H') ∧ ∀ x H', J1.yld j' H x H' → tgR K [j] true x (wipe σ2 [j]) H' fun σ3 H5 => wipe σ3 [j] = wipe σ2 [j] ∧ tTs K ets σ3 H5 fun b H6 =>
            if b = true then tE K eelt σ3 H6 fun y H7 => ∃ acc, H7 D = some (.lst acc) ∧ acc.length < sizeLine ∧ Nx1 (L2.upd H7 D (.lst (acc ++ [y]))) else Nx1 H6)
        else Nx H3) := by
  obtain ⟨n, G, Y, hn, w, hG, hY⟩ := wk.ex
  let Pv : Nat → Hp → Prop := fun t H => ∃ g2 S2 dm2 rest, Acc K g0 H0 D dm2 g2 S2 H ∧ Same g1.fz g2.fz ∧ (∃ more, g2.phi = g1.phi ++ more) ∧ compGo2 (step2E eelt ets i j eit2 r) (xs.drop t) S2 = some (rest, S') ∧ dm2 ++ rest = dm ++ ds ∧ dm2.length ≤ dm.length + 300 * t
  refine ⟨fun t m H => m = n - t ∧ t ≤ n ∧ Pv t H, ⟨n, by simp, Nat.zero_le _, g1, S0, dm, ds, ac, fun _ _ e => e, ⟨[], by simp⟩, hgo, rfl, by omega⟩, ?_⟩
  rintro t m H ⟨rfl, hi, g2, S2, dm2, rest, ac2, sm, pre, hgo2, hap, hl2⟩
  have q := hG H (sm.trans ac2.go.ok.sub)
  by_cases hlt : t < n
  · refine .inr ⟨w.goes t H hlt q, Pv (t + 1), fun H' p' => ⟨n - (t + 1), by omega, rfl, hlt, p'⟩, fun x H' y => ?_⟩
    have hlt' : t < xs.length := by omega
    have e1 : xs.drop t = xs[t] :: xs.drop (t + 1) := List.drop_eq_getElem_cons hlt'
    rw [e1] at hgo2
    unfold compGo2 at hgo2
    split at hgo2
    case h_1 => cases hgo2
    rename_i zs S3 h1
    split at hgo2
    case h_1 => cases hgo2
    rename_i ys S4 h2
    cases hgo2
    have y2 := hY t H x H' xs[t] (List.getElem?_eq_getElem hlt') (sm.trans ac2.go.ok.sub) (w.yields t H x H' hlt q y)
    have y3 : Yd K g2 xs[t] H x H' := by
      rcases y2 with ⟨a1, a2⟩ | ⟨T, vs, dd, a1, a2, a3, a4, a5⟩
      · exact .inl ⟨a1, DR.mono sm _ _ a2⟩
      · exact .inr ⟨T, vs, dd, a1, a2, a3, a4, DRs.mono sm _ _ a5⟩
    unfold step2E at h1
    split at h1
    case h_2 => cases h1
    rename_i w2 S5 hw2
    split at h1
    case h_2 => cases h1
    rename_i yy hit
    split at h1
    case isFalse => cases h1
    rename_i hyy
    have enw : EnvX K g2 (r.set j none) (wipe σ us) [i] := fun l w hl hw => by
      have hli : l ≠ i := by simpa using hl
      by_cases hlj : j = l
      · subst hlj
        by_cases hlr : j < r.length
        · rw [List.getElem?_set_self hlr] at hw
          cases hw
        · rw [List.getElem?_eq_none (by simpa using hlr)] at hw
          cases hw
      · rw [List.getElem?_set_ne hlj] at hw
        obtain ⟨v, q1, q2⟩ := en l w hw
        exact ⟨v, by rw [wipe_out fun z => ((hus l).mp z).elim hli fun z => hlj z.symm]; exact q1, q2.mono sm pre⟩
    have hb : bindT [i] true xs[t] (r.set j none) = some ((r.set j none).set i (some (.dat xs[t] 0))) := rfl
    refine bind_ok hb ac2.go.ok y3 enw (fun l hl => by
      have e : l = i := by simpa using hl
      rw [e, wipe_length]
      exact fi) fun g3 σ3 b1 en3 l3 s3 => ?_
    have hw : wipe σ3 us = wipe σ us := by
      rw [wipe_eq (σ := wipe σ us) (by rw [l3]) fun l hl => s3 l fun z => hl ((hus l).mpr (.inl (by simpa using z))), wipe_wipe fun _ z => z]
    have cl := compGo_len h1
    refine ⟨hw, g3, _, S2, true, S2, b1.ok, en3, rfl, fun H5 g5 b2 => ?_⟩
    dsimp only
    rw [if_pos rfl]
    have hc1 : consE eit2 nilE ((r.set j none).set i (some (.dat xs[t] 0))) S2 = some ([w2], S5) := by
      unfold consE nilE
      rw [hw2]
    refine ⟨g5, _, S2, [w2], S5, yy, b2.ok, b2.env en3, hc1, hit, fun J1 H6 g6 _ b3 o6 wk1 => ?_⟩
    have ac6 := ((ac2.step b1).step b2).step b3
    refine lc_run (dm := dm2) (wk1 g6 o6) (fun l => Iff.rfl) (b3.env (b2.env en3)) (fun l hl => ?_) (by omega) h1 ac6 fun g' H' ac' s' p' => ?_
    · have e : l = j := by simpa using hl
      rw [e, l3, wipe_length]
      exact fj
    · refine ⟨g', S3, dm2 ++ zs, ys, ac', sm.trans (((b1.le.trans b2.le).trans b3.le).trans s'), ?_, h2, by rw [← hap, List.append_assoc], by rw [List.length_append]; omega⟩
      obtain ⟨m0, e0⟩ := pre
      obtain ⟨m1, e1⟩ := b1.pre
      obtain ⟨m2, e2⟩ := b2.pre
      obtain ⟨m3, e3⟩ := b3.pre
      obtain ⟨m4, e4⟩ := p'
      exact ⟨m0 ++ (m1 ++ (m2 ++ (m3 ++ m4))), by rw [e4, e3, e2, e1, e0]; simp⟩
  · have e : t = n := by omega
    subst e
    refine .inl ⟨w.stops H q, hd g2 H ?_ sm pre⟩
    rw [hn, List.drop_length] at hgo2
    cases hgo2
    rw [List.append_nil] at hap
    rw [← hap]
    exact ac2
theorem comp2_imp {X : Cx} (ok : BlkOk X.N X.env.scope scope own) (hus : ∀ l, l ∈ own.map (·.2) ↔ l = i ∨ l = j) (hij : i ≠ j) : ∀ (σ : L2.St) (H : Hp) (Q : VK), σ.length = X.N.length → tE X.K (comp2E eelt ets i j eit eit2) σ H Q →
    tLc2 (tI X.K .seq (consE eit nilE)) (tgR X.K [i] true) (tTs X.K ts0) (tI X.K .seq (consE eit2 nilE)) (tgR X.K [j] true) (tTs X.K ets) (tE X.K eelt) (own.map (·.2)) [j] σ H Q := by
  have mi : i ∈ own.map (·.2) := (hus i).mpr (.inl rfl)
  have mj : j ∈ own.map (·.2) := (hus j).mpr (.inr rfl)
  rintro σ H Q hl ⟨g, r, S, w, S', okg, en, ev, q⟩
  unfold comp2E at ev
  split at ev
  case h_2 => cases ev
  rename_i w1 S1 h1
  split at ev
  case h_2 => cases ev
  rename_i xs h2
  split at ev
  case isFalse => cases ev
  rename_i h3
  split at ev
  case h_2 => cases ev
  rename_i ds S2 h4
  cases ev
  have fit : ∀ l ∈ own.map (·.2), l < σ.length := fun l hl' => by
    obtain ⟨p, hp, e⟩ := List.mem_map.mp hl'
    have := ok.ix p hp
    rw [hl, ← e]
    exact (List.getElem?_eq_some_iff.mp this).1
  have hc1 : consE eit nilE r S = some ([w1], S1) := by
    unfold consE nilE
    rw [h1]
  refine ⟨g, r, S, [w1], S1, xs, okg, en, hc1, h2, fun J H1 g1 _ a o wk D hD => ?_⟩
  have hL : ([] : List (MP.D × Nat)).length + 300 * xs.length ≤ LIM := by
    have : LIM = 100000 := rfl
    rw [List.length_nil]
    omega
  exact lc2_run (dm := []) (wk g1 o) hus hij (a.env en) (fit i mi) (fit j mj) hL h4 (Acc.start a hD) fun g' H' ac _ _ => q _ _ ac.fin
theorem p_comp2 (hc : X.calm = true) (hN : X.N.Nodup) (hi : PI X tg iter (tI X.K .seq (consE eit nilE))) (ok : BlkOk X.N X.env.scope scope own) (hus : ∀ l, l ∈ own.map (·.2) ↔ l = i ∨ l = j) (hij : i ≠ j)
    (hg : ∀ (s : Shared) (H : Hp) (C : Addr) (cl : List (Str × Addr)) (fp : List Addr), PG (X.blk s H scope (compEnvC scope cl C X.env) fp) tg (tgR X.K [i] true))
    (hi1 : ∀ (s : Shared) (H : Hp) (C : Addr) (cl : List (Str × Addr)) (fp : List Addr), PI (X.blk s H scope (compEnvC scope cl C X.env) fp) tg2 iter2 (tI X.K .seq (consE eit2 nilE)))
    (hg1 : ∀ (s : Shared) (H : Hp) (C : Addr) (cl : List (Str × Addr)) (fp : List Addr), PG (X.blk s H scope (compEnvC scope cl C X.env) fp) tg2 (tgR X.K [j] true))
    (ht : ∀ (s : Shared) (H : Hp) (C : Addr) (cl : List (Str × Addr)) (fp : List Addr), PTs (X.blk s H scope (compEnvC scope cl C X.env) fp) ifs (tTs X.K ets))
    (he : ∀ (s : Shared) (H : Hp) (C : Addr) (cl : List (Str × Addr)) (fp : List Addr), PE (X.blk s H scope (compEnvC scope cl C X.env) fp) elt (tE X.K eelt)) (hs : ∀ x, foldedSetIterable iter X.env x = pure x) (hs1 : ∀ env x, foldedSetIterable iter2 env x = pure x) :
    PE X (.ListComp elt [⟨tg, iter, [], 0⟩, ⟨tg2, iter2, ifs, 0⟩] scope pos) (tE X.K (comp2E eelt ets i j eit eit2)) := by
  have mj : j ∈ own.map (·.2) := (hus j).mpr (.inr rfl)
  refine pe_len (pe_lc2 (vs1 := [j]) hc hN hi ok (fun l hl => by
    have e : l = j := by simpa using hl
    rw [e]
    exact mj) hg (show ∀ (s : Shared) (H : Hp) (C : Addr) (cl : List (Str × Addr)) (fp : List Addr), PTs (X.blk s H scope (compEnvC scope cl C X.env) fp) [] (tTs X.K ts0) from fun s H C cl fp => p_ts0 (X := X.blk s H scope (compEnvC scope cl C X.env) fp)) hi1 hg1 ht he hs hs1) (comp2_imp ok hus hij)
end MP
end

section
set_option maxRecDepth 100000
/-! MpFn: what a def of the text keeps; calls. -/
namespace MP
open PySem L2

structure Rm (k : Nat) (A : Around) : Prop where
  room : Room k A
  gd : A.guards = some []
theorem Rm.mono {j k : Nat} {A : Around} (r : Rm k A) (h : j ≤ k) : Rm j A := ⟨r.room.mono h, r.gd⟩
theorem Rm.deeper {k : Nat} {A : Around} (r : Rm (k + 1) A) (env : Env) : Rm k (A.deeper env) := ⟨r.room.deeper env, r.gd⟩
theorem Rm.u {k : Nat} {A : Around} (r : Rm k A) : A.units + 100 < cLine := by
  have := r.room.un
  omega

abbrev SpG := List V → Hp → VK → Prop
structure FnG (P : Program) (w : World) (K : PySem.W.Frag) (mg : Str → Option Value) (base : Heap) (k : Nat) (f : Addr) (fd : FuncData) (ps : List Str) (sp : SpG) : Prop where
  len : ∀ vs H Q, sp vs H Q → vs.length = ps.length
  run : ∀ (A : Around) (outer : List Env) (s : Shared) (H : Hp) (args : Args) (us : List Value) (vs : List V) (Q : VK), Rm k A → Env0 P w K mg base A outer s H →
    BindsTo s fd args (ps.zip us) → Vals vs us → sp vs H Q → codeAny (model P w) A (.call (.ref f) args) (CR CX0 outer P w H s Q E0) s

/-- the body's context -/
abbrev bodyX (P : Program) (w : World) (K : PySem.W.Frag) (mg : Str → Option Value) (base : Heap) (N : List Str) (qual : Str) (sc : Scope) (f : Addr) (cdv : Value) (A : Around) (outer : List Env) (s : Shared) (H : Hp) : Cx :=
  (cxOf CX0 P w K mg base N qual sc f cdv A outer s H E0).nox
theorem g_of {P : Program} {w : World} {K : PySem.W.Frag} {mg : Str → Option Value} {base : Heap} {k : Nat} {x qual : Str} {st : Stmt} {f : Addr} {fd : FuncData} {N ps : List Str} {sp : SpG} (F : L2.Fun K x qual st f fd) (Sc : FnScope N ps (defScope st))
    (len : ∀ vs H Q, sp vs H Q → vs.length = ps.length)
    (hbody : ∀ (cdv : Value) (A : Around) (outer : List Env) (s : Shared) (H : Hp) (vs : List V) (Q : VK), Rm k (A.deeper (PyProof.Rows.envOfC qual (defScope st) s.heap.objs.size f cdv)) → sp vs H Q →
      ∃ t, PSs (bodyX P w K mg base N qual (defScope st) f cdv A outer s H) (defBody st) t ∧ t { nx := fun _ H' => Q .non H', rt := Q } (start N vs) H) :
    FnG P w K mg base (k + 1) f fd ps sp := by
  obtain ⟨oc, od, kV, doc, pm, an, cdv, ct, osl, rfl, lk, hcd⟩ := F.ex
  refine ⟨len, fun A outer s H args us vs Q rm en hbind rv hsp => ?_⟩
  have hlen := len _ _ _ hsp
  have inK : K.In s.heap := en.mod.kin.keeps fun b o q => (en.bs b o q).1
  have nolim : s.heap.NoLimit := en.mod.nolimit.keeps fun b o q => (en.bs b o q).1
  have kinds : ∀ y ∈ ps.zip us, (defScope st).names.lookup y.1 = some .local ∨ ((defScope st).names.lookup y.1 = some .cell ∧ ((cellsFrom (s.heap.objs.size + 1) (defScope st).names []).lookup y.1).isSome = true) := fun y hy => by
    rcases Sc.par y.1 (List.of_mem_zip hy).1 with q | q
    · exact .inl q
    · exact .inr ⟨q, PySem.W.cellsFrom_some _ _ _ (.inl q)⟩
  refine codeAny_call_function rm.room.depth (inK _ _ lk) rfl Sc.co Sc.gen rfl (PySem.W.codeRec_of inK hcd) (hbind _ _ _ _ ?_)
  refine wpAny_newFunctionEnv_cells Sc.kind kinds fun env henv s1 ic => ?_
  subst henv
  refine ⟨nolim.keeps ic.toInCall.keep, codeAny_func ?_⟩
  obtain ⟨t, ht, hq⟩ := hbody cdv A outer s H vs Q (rm.deeper _) hsp
  have I : Inv (cxOf CX0 P w K mg base N qual (defScope st) f cdv A outer s H E0) [] (start N vs) H s1 := inv_start Sc rm.room.hd en hlen rv ic
  refine wpAny_mono (ht.nox.run [] s1 (start N vs) H _ I hq) (fun fl s' hs => ?_) fun e s' hs => hs
  have done : ∀ {σ' : L2.St} {H' : Hp} {v : V} {u : Value}, Inv (cxOf CX0 P w K mg base N qual (defScope st) f cdv A outer s H E0) [] σ' H' s' → RelV v u → Q v H' → CE outer P w H s Q u s' :=
    fun {σ' H' v u} J rel q => ⟨v, H', J.os, J.bare, J.base, J.hok, rel, q⟩
  cases fl with
  | ret u =>
    obtain ⟨v, σ', H', J, rel, q⟩ := hs
    exact done J rel q
  | next =>
    obtain ⟨σ', H', J, q⟩ := hs
    exact done (v := V.non) (u := Value.none) J rfl q
  | brk =>
    obtain ⟨_, _, _, q⟩ := hs
    exact q.elim
  | cont =>
    obtain ⟨_, _, _, q⟩ := hs
    exact q.elim

variable {X : Cx} {e : Expr} {es : List Expr} {ea : Ev} {eas ebs : Evs} {pos p : Pos} {g g0 g1 g2 : Gho} {H H0 H1 H2 H' : Hp} {S S1 S2 : Sto} {r : Rho} {σ : L2.St} {K : PySem.W.Frag} {ws us : List W} {vs : List V} {v : V} {A B : List Addr} {w : W}

/-- the callee runs -/
theorem run_g {pins : List (Addr × Obj)} {s : Shared} {Q : VK} {k : Nat} {f : Addr} {fd : FuncData} {ps : List Str} {sp : SpG} {uv : List Value} {kw : List (Str × Value)} {full : List Value} {vf : List V} (F : FnG X.prog X.w X.K X.mg X.base k f fd ps sp) (rm : Rm k X.A)
    (hb : BindsTo s fd ⟨uv, kw⟩ (ps.zip full)) (I : Inv X pins σ H s) (rv : Vals vf full) (h : sp vf H Q) : wpAny (model X.prog X.w) X.A (call (.ref f) uv kw) (EP X pins σ Q) X.xe s := by
  refine wpAny_call (codeAny_mono (F.run X.A X.stack s H ⟨uv, kw⟩ full vf Q rm I.env0 hb rv h) fun res s' hq => ?_)
  cases res with
  | error er => exact False.elim hq
  | ok fl =>
    cases fl with
    | ret u => exact I.after hq
    | next => exact False.elim hq
    | brk => exact False.elim hq
    | cont => exact False.elim hq

/-! ### arguments in their places -/
theorem pr_app {α β : Type} {R : α → β → Prop} : ∀ {xs xs' : List α} {ys ys' : List β}, Paired R xs ys → Paired R xs' ys' → Paired R (xs ++ xs') (ys ++ ys')
  | _, _, _, _, .nil, h => h
  | _, _, _, _, .cons q t, h => .cons q (pr_app t h)
theorem pr_flip {α β : Type} {R : α → β → Prop} : ∀ {xs : List α} {ys : List β}, Paired R xs ys → Paired (fun y x => R x y) ys xs
  | _, _, .nil => .nil
  | _, _, .cons q t => .cons q (pr_flip t)
theorem lookup_rel {α β : Type} {R : α → β → Prop} {p : Str} : ∀ {ks : List Str} {xs : List α} {ys : List β}, Paired R xs ys → (∀ {y}, (ks.zip ys).lookup p = some y → ∃ x, (ks.zip xs).lookup p = some x ∧ R x y) ∧ ((ks.zip ys).lookup p = none → (ks.zip xs).lookup p = none)
  | [], _, _, _ => ⟨fun h => (by cases h), fun _ => rfl⟩
  | _ :: _, _, _, .nil => ⟨fun h => (by cases h), fun _ => rfl⟩
  | q :: ks, _, _, .cons (a := x) (b := y) h t => by
    obtain ⟨h1, h2⟩ := lookup_rel (p := p) (ks := ks) t
    rw [List.zip_cons_cons, List.zip_cons_cons, List.lookup_cons, List.lookup_cons]
    cases p == q with
    | true => exact ⟨fun e => ⟨x, rfl, by rw [← Option.some.inj e]; exact h⟩, fun e => by cases e⟩
    | false => exact ⟨h1, h2⟩
theorem bindK_rel {α β : Type} {R : α → β → Prop} {ks dn : List Str} {xs xd : List α} {ys yd : List β} (h1 : Paired R xs ys) (h2 : Paired R xd yd) : ∀ {ps : List Str} {zs : List β}, bindK ps (ks.zip ys) (dn.zip yd) = some zs → ∃ ws, bindK ps (ks.zip xs) (dn.zip xd) = some ws ∧ Paired R ws zs
  | [], _, h => by
    cases h
    exact ⟨[], rfl, .nil⟩
  | p :: ps, zs, h => by
    unfold bindK at h ⊢
    obtain ⟨a1, a2⟩ := lookup_rel (p := p) (ks := ks) h1
    obtain ⟨b1, b2⟩ := lookup_rel (p := p) (ks := dn) h2
    split at h
    · rename_i y hy
      split at h
      case h_2 => cases h
      rename_i zs' hz
      cases h
      obtain ⟨x, e, q⟩ := a1 hy
      obtain ⟨ws, e2, q2⟩ := bindK_rel h1 h2 hz
      exact ⟨x :: ws, by rw [e, e2], .cons q q2⟩
    · rename_i hn
      split at h
      case h_2 => cases h
      rename_i y hy
      split at h
      case h_2 => cases h
      rename_i zs' hz
      cases h
      obtain ⟨x, e, q⟩ := b1 hy
      obtain ⟨ws, e2, q2⟩ := bindK_rel h1 h2 hz
      exact ⟨x :: ws, by rw [a2 hn, e, e2], .cons q q2⟩
theorem arr_rel {α β : Type} {R : α → β → Prop} {ks dn ps : List Str} {us xs xd : List α} {vs ys yd : List β} {zs : List β} (h0 : Paired R us vs) (h1 : Paired R xs ys) (h2 : Paired R xd yd) (h : arr ps vs (ks.zip ys) (dn.zip yd) = some zs) :
    ∃ ws, arr ps us (ks.zip xs) (dn.zip xd) = some ws ∧ Paired R ws zs := by
  unfold arr at h ⊢
  have el : us.length = vs.length := Paired.length h0
  rw [el]
  split at h
  case isFalse => cases h
  rename_i hl
  split at h
  case h_2 => cases h
  rename_i zs' hz
  cases h
  obtain ⟨ws, e, q⟩ := bindK_rel h1 h2 hz
  rw [if_pos hl, e]
  exact ⟨_, rfl, pr_app h0 q⟩

theorem VWs.paired : ∀ {ws : List W} {vs : List V}, VWs K g vs ws → Paired (fun w v => VW K g v w) ws vs
  | [], vs, h => by
    have h : vs = [] := h
    rw [h]
    exact .nil
  | w :: ws, _, ⟨v, r, e, q, t⟩ => by
    rw [e]
    exact .cons q t.paired
theorem VWs.of_paired : ∀ {ws : List W} {vs : List V}, Paired (fun w v => VW K g v w) ws vs → VWs K g vs ws
  | _, _, .nil => rfl
  | _, _, .cons q t => ⟨_, _, rfl, q, VWs.of_paired t⟩

/-- a def with its facts: its shapes of calls bind, its defaults are values -/
structure Bnd (K : PySem.W.Frag) (fd : FuncData) (fn : Fn) : Prop where
  dflt : ∃ (dv : List V) (du : List Value), DRs K (fun _ => none) dv fn.df ∧ Vals dv du ∧ ∀ sh ∈ fn.sh, ∀ (s : Shared) (us ks zs : List Value), K.In s.heap → us.length = sh.1 → ks.length = sh.2.length →
    arr fn.ps us (sh.2.zip ks) (fn.dn.zip du) = some zs → BindsTo s fd ⟨us, sh.2.zip ks⟩ (fn.ps.zip zs)

/-- the promise: what the evaluator tells -/
def spR (K : PySem.W.Frag) (ev : List W → Sto → Option (W × Sto)) : SpG := fun vs H Q => ∃ g0 H0 g S ws A w S', Go K g0 H0 g S H ∧ VOs K g H vs ws A ∧ Fre g H0 A ∧ ev ws S = some (w, S') ∧ ∀ v H', Rz K g0 H0 w S' v H' → Q v H'

/-- what a context knows of the functions -/
structure Known (X : Cx) (tab : Str → Option Fn) (G : Str → Option D) (k : Nat) : Prop where
  fn : ∀ f fn, tab f = some fn → ∃ addr fd, X.mg f = some (.ref addr) ∧ PySem.W.keepIn X.K (.ref addr) = true ∧ Bnd X.K fd fn ∧ (f == ("__debug__" : Str)) = false ∧
    ∀ j, k = j + 1 → FnG X.prog X.w X.K X.mg X.base k addr fd fn.ps (spR X.K (fn.run (FT tab G j) G))

def callE (F : Fns) (f : Str) (es : Evs) : Ev := fun r S => match es r S with
    | some (ws, S1) => F f ws [] S1
    | none => none
def callKE (F : Fns) (f : Str) (es : Evs) (ks : List Str) (kes : Evs) : Ev := fun r S => match es r S with
    | some (ws, S1) => match kes r S1 with
      | some (vs, S2) => F f (ws.map W.fz) (ks.zip (vs.map W.fz)) S2
      | none => none
    | none => none
theorem VOs.fz : ∀ {ws : List W} {vs : List V}, VWs K g vs ws → VOs K g H vs (ws.map W.fz) []
  | [], vs, h => ⟨h, rfl⟩
  | w :: ws, _, ⟨v, r, e, q, t⟩ => ⟨v, r, [], [], e, rfl, by
    cases w with
    | dat d m => exact own0.mpr ⟨rfl, q⟩
    | loc l => exact ⟨rfl, q⟩
    | rng lo hi => exact ⟨rfl, q⟩
    | scr ns => exact ⟨rfl, q⟩, VOs.fz t⟩
theorem dflts_vos : ∀ {ds : List D} {vs : List V}, DRs K (fun _ => none) vs ds → VWs K g vs (ds.map fun d => W.dat d 0)
  | [], vs, h => h
  | d :: ds, _, ⟨v, r, e, q, t⟩ => ⟨v, r, e, DR.mono (fun _ _ z => by cases z) d v q, dflts_vos t⟩
theorem map_fz (ds : List D) : (ds.map fun d => W.dat d 0).map W.fz = ds.map fun d => W.dat d 0 := by
  rw [List.map_map]
  rfl
theorem sh_of {fn : Fn} {n : Nat} {ks : List Str} (h : fn.sh.contains (n, ks) = true) : (n, ks) ∈ fn.sh := by simpa using h
theorem vw_fz : ∀ {df : List W} {dv : List V}, VWs K g dv df → df.map W.fz = df → Paired (fun v w => VW K g v w ∧ w.fz = w) dv df
  | [], dv, h, _ => by
    have h : dv = [] := h
    rw [h]
    exact .nil
  | w :: df, _, ⟨v, r, e, q, t⟩, hdf => by
    rw [List.map_cons] at hdf
    injection hdf with f1 f2
    rw [e]
    exact .cons ⟨q, f1⟩ (vw_fz t f2)
theorem vos_fz : ∀ {zs : List W} {zv : List V}, Paired (fun v w => VW K g v w ∧ w.fz = w) zv zs → VOs K g H zv zs []
  | _, _, .nil => ⟨rfl, rfl⟩
  | _, _, .cons (a := v) (b := w) ⟨q, f⟩ t => ⟨_, _, [], [], rfl, rfl, by
    cases w with
    | dat d m =>
      have e : m = 0 := by
        injection f with _ e
        exact e.symm
      rw [e]
      exact own0.mpr ⟨rfl, q⟩
    | loc l => exact ⟨rfl, q⟩
    | rng lo hi => exact ⟨rfl, q⟩
    | scr ns => exact ⟨rfl, q⟩, vos_fz t⟩
/-- a positional call: what the callee is given -/
theorem arr_pos {ps : List Str} {dn : List Str} {df : List W} {dv : List V} {du : List Value} {uv : List Value} {us : List W} (ho : VOs K g H vs ws A) (hd : VWs K g dv df) (hdf : df.map W.fz = df) (rd : Vals dv du) (rv : Vals vs uv) (h : arr ps ws [] (dn.zip df) = some us) :
    ∃ vf full, arr ps uv (([] : List Str).zip []) (dn.zip du) = some full ∧ Vals vf full ∧ VOs K g H vf us A := by
  unfold arr at h
  split at h
  case isFalse => cases h
  rename_i hl
  split at h
  case h_2 => cases h
  rename_i zs hz
  cases h
  have e0 : bindK (ps.drop ws.length) (([] : List Str).zip ([] : List W)) (dn.zip df) = some zs := hz
  obtain ⟨zv, e1, q1⟩ := bindK_rel (R := fun v w => VW K g v w ∧ w.fz = w) (xs := []) (ks := []) .nil (vw_fz hd hdf) e0
  have lw : vs.length = ws.length := ho.length
  have lu : vs.length = uv.length := rv.length
  obtain ⟨zu, e2, q2⟩ := bindK_rel (R := fun (u : Value) (v : V) => RelV v u) (ks := []) (xs := []) (ys := []) (dn := dn) .nil (pr_flip rd) e1
  refine ⟨vs ++ zv, uv ++ zu, ?_, rv.append (pr_flip q2), ?_⟩
  · unfold arr
    rw [show uv.length = ws.length by omega, if_pos hl, e2]
  · have := VOs.app ho (vos_fz q1 (K := K) (H := H))
    rw [List.append_nil] at this
    exact this

variable {tab : Str → Option Fn} {G : Str → Option D} {k : Nat} {f : Str}
theorem datAll_fz (ds : List D) : (ds.map fun d => W.dat d 0).map W.fz = ds.map fun d => W.dat d 0 := by
  rw [List.map_map]
  rfl
theorem p_call (C : Known X tab G k) (rm : Rm k X.A) (hg : Gl X f) (ha : PA X (e :: es) (tA X.K eas)) (he : starEach (e :: es) X.env = (false, eval e X.env) :: starEach es X.env) (hpl : (backTo pos (starEach es X.env)).any (·.1) = false) :
    PE X (.Call (.Name f p) (e :: es) [] pos) (tE X.K (callE (FT tab G k) f eas)) := by
  refine ⟨fun pins s σ H Q I h => ?_⟩
  obtain ⟨g, r, S, w, S', ok, en, ev, q⟩ := h
  unfold callE at ev
  split at ev
  case h_2 => cases ev
  rename_i ws S1 h1
  cases k with
  | zero => cases ev
  | succ j =>
    unfold FT at ev
    split at ev
    case h_2 => cases ev
    rename_i fn hfn
    split at ev
    case isFalse => cases ev
    rename_i hsh
    split at ev
    case h_2 => cases ev
    rename_i us hus
    obtain ⟨addr, fd, hm, hk, bd, hdb, hF⟩ := C.fn f fn hfn
    have hF := hF j rfl
    obtain ⟨dv, du, d1, d2, d3⟩ := bd.dflt
    refine wpAny_Call_Name_kw (ld_glob I hg hm ?_ hdb)
    have key : tA X.K eas σ H fun vs H1 => ∃ g1 A, Go X.K g H g1 S1 H1 ∧ VOs X.K g1 H1 vs ws A ∧ Fre g1 H A := ⟨g, r, S, ws, S1, ok, en, h1, fun vs H1 z => z⟩
    refine PySem.W.callWith_K (h₀ := X.base) I.ok.mod.kin hk (thn (ha.run pos pins s σ H _ I key) fun uv s1 ⟨vs, H1, I1, rv, q1⟩ => ⟨I1.kIn, ?_⟩) he hpl
    obtain ⟨g1, A, a, o, f1⟩ := q1
    obtain ⟨vf, full, b1, b2, b3⟩ := arr_pos o (dflts_vos d1) (datAll_fz _) d2 rv hus
    have lw : uv.length = ws.length := by rw [← rv.length, o.length]
    exact run_g hF rm (d3 _ (sh_of hsh) s1 uv [] full I1.kIn lw rfl b1) I1 b2 ⟨g, H, g1, S1, us, A, w, S', a, b3, f1, ev, q⟩
/-- keywords -/
structure PKw (X : Cx) (kws : List Keyword) (ks : List Str) (evs : Evs) : Prop where
  pk : PK X kws (tA X.K evs)
  len : ∀ r S ws S', evs r S = some (ws, S') → ws.length = ks.length
  all : ∀ pos, (backToKw pos (keywordEach kws X.env)).all (·.1.isSome) = true
  nm : ∀ pos, (backToKw pos (keywordEach kws X.env)).filterMap (·.1) = ks
  no : ∀ pos, (backToKw pos (keywordEach kws X.env)).any (·.1.isNone) = false
theorem pk_nil' : PKw X [] [] nilE := by
  refine ⟨⟨fun pos pins s σ H Q I hq => pk_nil.run pos pins s σ H Q I (by
    obtain ⟨g, r, S, ws, S', ok, en, ev, q⟩ := hq
    cases ev
    exact q _ _ ⟨g, [], Go.refl ok, ⟨rfl, rfl⟩, Fre.nil⟩)⟩, fun r S ws S' h => by
    cases h
    rfl, fun _ => rfl, fun _ => rfl, fun _ => rfl⟩
theorem pk_cons' {kws : List Keyword} {ks : List Str} {x : Str} {kp : Pos} (ha : PE X e (tE X.K ea)) (hr : PKw X kws ks eas) : PKw X (⟨some x, e, kp⟩ :: kws) (x :: ks) (consE ea eas) := by
  refine ⟨⟨fun pos pins s σ H Q I hq => (pk_cons ha hr.pk).run pos pins s σ H Q I ?_⟩, fun r S ws S' h => ?_, fun pos => ?_, fun pos => ?_, fun pos => ?_⟩
  · obtain ⟨g, r, S, ws, S', ok, en, ev, q⟩ := hq
    unfold consE at ev
    split at ev
    case h_2 => cases ev
    rename_i w S1 h1
    split at ev
    case h_2 => cases ev
    rename_i ws S2 h2
    cases ev
    refine ⟨g, r, S, w, S1, ok, en, h1, fun v H1 ⟨g1, A, a, o, f⟩ => ⟨g1, r, S1, ws, S', a.ok, a.env en, h2, fun vs H2 ⟨g2, B, b, o2, f2⟩ => ?_⟩⟩
    exact q _ _ ⟨g2, A ++ B, a.trans b, ⟨v, vs, A, B, rfl, rfl, o.mono b.le b.pre (b.keep f), o2⟩, fre_app f b a o.lsts f2⟩
  · unfold consE at h
    split at h
    case h_2 => cases h
    split at h
    case h_2 => cases h
    rename_i h2
    cases h
    rw [List.length_cons, List.length_cons, hr.len _ _ _ _ h2]
  · have := hr.all pos
    unfold backToKw at this ⊢
    simp only [keywordEach, List.map_cons, List.all_cons, Option.isSome_some, Bool.true_and]
    exact this
  · have := hr.nm pos
    unfold backToKw at this ⊢
    simp only [keywordEach, List.map_cons]
    rw [List.filterMap_cons_some (by rfl), this]
  · have := hr.no pos
    unfold backToKw at this ⊢
    simp only [keywordEach, List.map_cons, List.any_cons, Option.isNone_some, Bool.false_or]
    exact this
theorem VWs.length : ∀ {ws : List W} {vs : List V}, VWs K g vs ws → vs.length = ws.length
  | [], vs, h => by
    have h : vs = [] := h
    rw [h]
    rfl
  | w :: ws, _, ⟨v, r, e, q, t⟩ => by rw [e, List.length_cons, List.length_cons, t.length]
theorem VW.fz : ∀ {w : W}, VW K g v w → VW K g v w.fz
  | .dat _ _, h => h
  | .loc _, h => h
  | .rng _ _, h => h
  | .scr _, h => h
theorem VWs.fz : ∀ {ws : List W} {vs : List V}, VWs K g vs ws → VWs K g vs (ws.map W.fz)
  | [], _, h => h
  | _ :: _, _, ⟨v, r, e, q, t⟩ => ⟨v, r, e, q.fz, t.fz⟩
theorem fz_fz (ws : List W) : (ws.map W.fz).map W.fz = ws.map W.fz := by
  rw [List.map_map]
  refine List.map_congr_left fun w _ => ?_
  cases w <;> rfl
/-- a call with keywords: all frozen -/
theorem arr_kw {fn : Fn} {ks : List Str} {kv : List V} {ku : List Value} {kw : List W} {dv : List V} {du : List Value} {uv : List Value} (h0 : VWs K g vs ws) (h1 : VWs K g kv kw) (d1 : DRs K (fun _ => none) dv fn.df) (rd : Vals dv du) (rv : Vals vs uv) (rk : Vals kv ku)
    (h : arr fn.ps (ws.map W.fz) (ks.zip (kw.map W.fz)) (fn.dn.zip (fn.df.map fun d => W.dat d 0)) = some us) :
    ∃ vf full, arr fn.ps uv (ks.zip ku) (fn.dn.zip du) = some full ∧ Vals vf full ∧ VOs K g H vf us [] := by
  obtain ⟨vf, e1, q1⟩ := arr_rel (R := fun v w => VW K g v w ∧ w.fz = w) (vw_fz h0.fz (fz_fz _)) (vw_fz h1.fz (fz_fz _)) (vw_fz (dflts_vos d1) (datAll_fz _)) h
  obtain ⟨full, e2, q2⟩ := arr_rel (R := fun (u : Value) (v : V) => RelV v u) (pr_flip rv) (pr_flip rk) (pr_flip rd) e1
  exact ⟨vf, full, e2, pr_flip q2, vos_fz q1⟩
theorem p_callK {kws : List Keyword} {ks : List Str} (C : Known X tab G k) (rm : Rm k X.A) (hg : Gl X f) (ha : PA X (e :: es) (tA X.K eas)) (hkw : PKw X kws ks ebs) (he : starEach (e :: es) X.env = (false, eval e X.env) :: starEach es X.env) (hpl : (backTo pos (starEach (e :: es) X.env)).any (·.1) = false) :
    PE X (.Call (.Name f p) (e :: es) kws pos) (tE X.K (callKE (FT tab G k) f eas ks ebs)) := by
  refine ⟨fun pins s σ H Q I h => ?_⟩
  obtain ⟨g, r, S, w, S', ok, en, ev, q⟩ := h
  unfold callKE at ev
  split at ev
  case h_2 => cases ev
  rename_i ws S1 h1
  split at ev
  case h_2 => cases ev
  rename_i kw S2 h2
  cases k with
  | zero => cases ev
  | succ j =>
    unfold FT at ev
    split at ev
    case h_2 => cases ev
    rename_i fn hfn
    split at ev
    case isFalse => cases ev
    rename_i hsh
    split at ev
    case h_2 => cases ev
    rename_i us hus
    obtain ⟨addr, fd, hm, hk, bd, hdb, hF⟩ := C.fn f fn hfn
    have hF := hF j rfl
    obtain ⟨dv, du, d1, d2, d3⟩ := bd.dflt
    refine wpAny_Call_Name_kw (ld_glob I hg hm ?_ hdb)
    have key : tA X.K eas σ H fun vs H1 => tA X.K ebs σ H1 fun zs H2 => ∃ g2, Go X.K g H g2 S2 H2 ∧ VWs X.K g2 vs ws ∧ VWs X.K g2 zs kw := ⟨g, r, S, ws, S1, ok, en, h1, fun vs H1 z => by
      obtain ⟨g1, a, o⟩ := z.fz
      refine ⟨g1, r, S1, kw, S2, a.ok, a.env en, h2, fun zs H2 z2 => ?_⟩
      obtain ⟨g2, b, o2⟩ := z2.fz
      exact ⟨g2, a.trans b, o.mono b.le b.pre, o2⟩⟩
    refine PySem.W.callWith_KW (h₀ := X.base) I.ok.mod.kin hk (hkw.all pos) (thn (ha.run pos pins s σ H _ I key) fun uv s1 ⟨vs, H1, I1, rv, q1⟩ => ?_) (by rw [hpl, hkw.no pos]; rfl) he
    refine thn (hkw.pk.run pos pins s1 σ H1 _ I1 q1) fun ku s2 ⟨zs, H2, I2, rz, q2⟩ => ⟨I2.kIn, ?_⟩
    rw [hkw.nm pos]
    obtain ⟨g2, a, o, o2⟩ := q2
    obtain ⟨vf, full, b1, b2, b3⟩ := arr_kw (H := H2) (fn := fn) o o2 d1 d2 rv rz hus
    have lkw := hkw.len _ _ _ _ h2
    have hks : ((ks.zip (kw.map W.fz)).map (·.1)) = ks := List.map_fst_zip (by rw [List.length_map]; omega)
    rw [hks, List.length_map] at hsh
    have lw : uv.length = ws.length := by rw [← rv.length, o.length]
    have lk : ku.length = ks.length := by rw [← rz.length, o2.length, lkw]
    exact run_g hF rm (d3 _ (sh_of hsh) s2 uv ku full I2.kIn lw lk b1) I2 b2 ⟨g, H, g2, S2, us, [], w, S', a, b3, Fre.nil, ev, q⟩
end MP
end

section
set_option maxRecDepth 100000
/-! MpSt: the state between statements: slots that own their lists. -/
namespace MP
open PySem L2

variable {K : PySem.W.Frag} {g g0 g1 g2 g' : Gho} {H H0 H1 H2 H' : Hp} {v : V} {vs : List V} {w : W} {ws : List W} {A B : List Addr} {S S' S1 S2 : Sto} {r r1 r2 : Rho} {σ σ' : L2.St} {d : D} {ds : List D} {As : Nat → List Addr} {F F' : Hp}

structure SL (K : PySem.W.Frag) (g0 : Gho) (H0 : Hp) (g : Gho) (As : Nat → List Addr) (S : Sto) (H : Hp) (r : Rho) (σ : L2.St) : Prop where
  go : Go K g0 H0 g S H
  sl : ∀ i w, r[i]? = some (some w) → ∃ v, σ[i]? = some (some v) ∧ VO K g H v w (As i)
  fre : ∀ i, Fre g H0 (As i)
  dj : ∀ i j a, i ≠ j → a ∈ As i → a ∉ As j
  ls : ∀ i a, a ∈ As i → ∃ xs, H a = some (.lst xs)
  bd : ∀ i, r.length ≤ i → As i = []
  len : σ.length = r.length

def allA (n : Nat) (As : Nat → List Addr) : List Addr := (List.range n).flatMap As
theorem SL.mem (s : SL K g0 H0 g As S H r σ) {a : Addr} : a ∈ allA r.length As ↔ ∃ i, a ∈ As i := by
  unfold allA
  rw [List.mem_flatMap]
  refine ⟨fun ⟨i, _, h⟩ => ⟨i, h⟩, fun ⟨i, h⟩ => ⟨i, ?_, h⟩⟩
  by_cases q : i < r.length
  · exact List.mem_range.mpr q
  · rw [s.bd i (by omega)] at h
    cases h
theorem SL.all (s : SL K g0 H0 g As S H r σ) : ∀ a ∈ allA r.length As, (∃ xs, H a = some (.lst xs)) ∧ H0 a = none ∧ g.fz a = none ∧ a ∉ g.phi := fun a h => by
  obtain ⟨i, h⟩ := s.mem.mp h
  exact ⟨s.ls i a h, (s.fre i).2 a h⟩

/-- all lists of the slots frozen -/
abbrev bor (g : Gho) (H : Hp) (A : List Addr) : Gho := ⟨ext g.fz H A, g.phi⟩
theorem SL.borG (s : SL K g0 H0 g As S H r σ) : Go K g0 H0 (bor g H (allA r.length As)) S H := s.go.ext (fun a h => (s.all a h).1) fun a h => (s.all a h).2
theorem SL.leB (s : SL K g0 H0 g As S H r σ) : Same g.fz (bor g H (allA r.length As)).fz := same_ext fun a h => (s.all a h).2.2.1
theorem SL.env (s : SL K g0 H0 g As S H r σ) : EnvF K (bor g H (allA r.length As)) r σ := fun i w h => by
  obtain ⟨v, h1, h2⟩ := s.sl i w h
  exact ⟨v, h1, h2.frz s.leB ⟨[], by simp⟩ fun a ha => ext_in (s.mem.mpr ⟨i, ha⟩)⟩

def cut (F : Hp) (A : List Addr) : Hp := fun a => if a ∈ A then none else F a
theorem cut_in {a : Addr} (h : a ∈ A) : cut F A a = none := if_pos h
theorem cut_out {a : Addr} (h : a ∉ A) : cut F A a = F a := if_neg h
theorem cut_sub : Same (cut F A) F := fun a o e => by
  by_cases m : a ∈ A
  · rw [cut_in m] at e
    cases e
  · rwa [cut_out m] at e
theorem cut_none {a : Addr} (h : F a = none) : cut F A a = none := by
  by_cases m : a ∈ A
  · exact cut_in m
  · rw [cut_out m, h]
/-- what was frozen for a while is given back -/
theorem restore (b : Go K (bor g H A) H g2 S' H') (hA : ∀ a ∈ A, (∃ xs, H a = some (.lst xs)) ∧ g.fz a = none) : Go K g H ⟨cut g2.fz A, g2.phi⟩ S' H' ∧ KeepT g2.fz (cut g2.fz A) := by
  have kt : KeepT g2.fz (cut g2.fz A) := fun a o e n => by
    by_cases m : a ∈ A
    · obtain ⟨⟨xs, q⟩, _⟩ := hA a m
      have e2 : g2.fz a = some (.lst xs) := b.le a _ ((ext_in m).trans q)
      rw [e2] at e
      cases e
      exact absurd rfl (n xs)
    · rw [cut_out m]
      exact e
  refine ⟨⟨fun a o e => ?_, b.phi, ⟨cut_sub.trans b.ok.sub, b.ok.len, b.ok.nd, fun l a ds e1 e2 => ?_⟩, b.fr, fun a o h1 h2 => ?_, b.dm⟩, kt⟩
  · have m : a ∉ A := fun m => by
      rw [(hA a m).2] at e
      cases e
    show cut g2.fz A a = some o
    rw [cut_out m]
    exact b.le a o ((ext_out m).trans e)
  · obtain ⟨vs, q1, q2, q3, q4⟩ := b.ok.cell l a ds e1 e2
    exact ⟨vs, q1, cut_none q2, DRs.strip kt ds vs q4 q3, q4⟩
  · by_cases m : a ∈ A
    · exact cut_in m
    · show cut g2.fz A a = none
      rw [cut_out m]
      exact b.nw a o h1 ((ext_out m).trans h2)
theorem VO.strip (p : g2.phi = g1.phi) (kt : KeepT g1.fz g2.fz) (k : w.keep = true) (h : VO K g1 H v w A) : VO K g2 H v w A := by
  cases w with
  | dat d m => exact Own.strip kt d m v A k h
  | loc l =>
    obtain ⟨e, a, ea, q⟩ := h
    exact ⟨e, a, ea, by rw [p]; exact q⟩
  | rng lo hi =>
    obtain ⟨e, a, ea, q⟩ := h
    exact ⟨e, a, ea, kt _ _ q fun _ z => nomatch z⟩
  | scr ns =>
    obtain ⟨e, a, ea, q⟩ := h
    refine ⟨e, a, ea, ?_⟩
    rcases q with ⟨o, q⟩ | q
    · exact .inl ⟨o, kt _ _ q fun _ z => nomatch z⟩
    · exact .inr q
theorem VOs.strip (p : g2.phi = g1.phi) (kt : KeepT g1.fz g2.fz) : ∀ {ws : List W} {vs : List V} {A : List Addr}, ws.all W.keep = true → VOs K g1 H vs ws A → VOs K g2 H vs ws A
  | [], _, _, _, h => h
  | w :: ws, _, _, k, ⟨v, r, B, C, e, eA, q, t⟩ =>
    have k' : w.keep = true ∧ ws.all W.keep = true := by simpa using k
    ⟨v, r, B, C, e, eA, q.strip p kt k'.1, VOs.strip p kt k'.2 t⟩

/-- the slots while others are reckoned -/
theorem SL.step (s : SL K g0 H0 g As S H r σ) (b : Go K g H g' S' H') : SL K g0 H0 g' As S' H' r σ :=
  ⟨s.go.trans b, fun i w h => by
    obtain ⟨v, h1, h2⟩ := s.sl i w h
    exact ⟨v, h1, h2.mono b.le b.pre (b.keep (s.fre i))⟩, fun i => b.fre (s.ls i) (s.fre i), s.dj, fun i a h => by
    obtain ⟨xs, q⟩ := s.ls i a h
    exact ⟨xs, b.keep (s.fre i) a h _ q⟩, s.bd, s.len⟩
theorem Fre.base (f : Fre g H A) (dm : ∀ a o, H0 a = some o → ∃ o', H a = some o') : Fre g H0 A := ⟨f.1, fun a ha => by
  obtain ⟨h1, h2⟩ := f.2 a ha
  refine ⟨?_, h2⟩
  cases q : H0 a with
  | none => rfl
  | some o =>
    obtain ⟨o', q'⟩ := dm a o q
    rw [h1] at q'
    cases q'⟩
theorem VW.own (h : VW K g v w) : VO K g H v w.fz [] := by
  cases w with
  | dat d m => exact own0.mpr ⟨rfl, h⟩
  | loc l => exact ⟨rfl, h⟩
  | rng lo hi => exact ⟨rfl, h⟩
  | scr ns => exact ⟨rfl, h⟩
theorem fzAll_get {i : Nat} {w : W} (h : (fzAll r)[i]? = some (some w)) : ∃ w', r[i]? = some (some w') ∧ w = w'.fz := by
  unfold fzAll at h
  rw [List.getElem?_map] at h
  cases q : r[i]? with
  | none => rw [q] at h; cases h
  | some o =>
    rw [q] at h
    cases o with
    | none => cases h
    | some w' =>
      cases h
      exact ⟨w', rfl, rfl⟩
/-- all flags nought -/
theorem SL.zero (s : SL K g0 H0 g As S H r σ) (b : Go K (bor g H (allA r.length As)) H g2 S' H') : SL K g0 H0 g2 (fun _ => []) S' H' (fzAll r) σ :=
  ⟨s.borG.trans b, fun i w h => by
    obtain ⟨w', h1, rfl⟩ := fzAll_get h
    obtain ⟨v, e1, e2⟩ := s.env i w' h1
    exact ⟨v, e1, (b.vw e2).own⟩, fun _ => Fre.nil, fun _ _ _ _ h => (by cases h), fun _ _ h => (by cases h), fun _ _ => rfl, by unfold fzAll; rw [List.length_map]; exact s.len⟩
theorem fre_apart (s : SL K g0 H0 g As S H r σ) (f : ∀ a ∈ A, H a = none) : ∀ i a, a ∈ A → a ∉ As i := fun i a ha hi => by
  obtain ⟨xs, q⟩ := s.ls i a hi
  rw [f a ha] at q
  cases q
/-- after a reckoning -/
structure Aft (K : PySem.W.Frag) (g0 : Gho) (H0 : Hp) (g : Gho) (g' : Gho) (As' : Nat → List Addr) (S' : Sto) (H' : Hp) (r' : Rho) (σ : L2.St) (A : List Addr) : Prop where
  sl : SL K g0 H0 g' As' S' H' r' σ
  fre : Fre g' H0 A
  ap : ∀ i a, a ∈ A → a ∉ As' i
  le : Same g.fz g'.fz
/-- the value is not owned whole: all is frozen -/
theorem SL.lose (s : SL K g0 H0 g As S H r σ) (b : Go K (bor g H (allA r.length As)) H g2 S' H') (f : Fre g2 H A) : Aft K g0 H0 g g2 (fun _ => []) S' H' (fzAll r) σ A :=
  ⟨s.zero b, f.base s.go.dm, fun _ _ _ h => (by cases h), s.leB.trans b.le⟩
/-- the value is owned whole: the slots keep what they own -/
theorem SL.hold (s : SL K g0 H0 g As S H r σ) (b : Go K (bor g H (allA r.length As)) H g2 S' H') (f : Fre g2 H A) :
    ∃ g3, Go K g H g3 S' H' ∧ KeepT g2.fz g3.fz ∧ g3.phi = g2.phi ∧ Aft K g0 H0 g g3 As S' H' r σ A := by
  obtain ⟨a, kt⟩ := restore b fun a h => ⟨(s.all a h).1, (s.all a h).2.2.1⟩
  have f3 : Fre ⟨cut g2.fz (allA r.length As), g2.phi⟩ H A := ⟨f.1, fun a ha => ⟨(f.2 a ha).1, cut_none (f.2 a ha).2.1, (f.2 a ha).2.2⟩⟩
  exact ⟨_, a, kt, rfl, s.step a, f3.base s.go.dm, fre_apart s fun a ha => (f.2 a ha).1, a.le⟩
theorem SL.ev {ea : Ev} {Q : VK} (s : SL K g0 H0 g As S H r σ) (he : ea r S = some (w, S')) (k : ∀ v H' g' As' A, VO K g' H' v w A → Aft K g0 H0 g g' As' S' H' (useR w r) σ A → Q v H') : tE K ea σ H Q :=
  ⟨_, r, S, w, S', s.borG.ok, s.env, he, fun v H' ⟨g2, A, b, o, f⟩ => by
    cases hk : w.keep with
    | true =>
      obtain ⟨g3, a, kt, p, t⟩ := s.hold b f
      refine k v H' g3 As A (o.strip p kt hk) ?_
      unfold useR
      rw [if_pos hk]
      exact t
    | false =>
      refine k v H' g2 (fun _ => []) A o ?_
      unfold useR
      rw [if_neg (by rw [hk]; decide)]
      exact s.lose b f⟩
/-- with what it leaves as it is -/
theorem SL.evK {ea : Ev} {Q : VK} (s : SL K g0 H0 g As S H r σ) (he : ea r S = some (w, S')) (hk : w.keep = true) (k : ∀ v H' g' A, VO K g' H' v w A → Go K g H g' S' H' → Aft K g0 H0 g g' As S' H' r σ A → Q v H') : tE K ea σ H Q :=
  ⟨_, r, S, w, S', s.borG.ok, s.env, he, fun v H' ⟨g2, A, b, o, f⟩ => by
    obtain ⟨g3, a, kt, p, t⟩ := s.hold b f
    exact k v H' g3 A (o.strip p kt hk) a t⟩
theorem SL.evT {ea : Ev} {b : Bool} {m : Nat} {Q : Bool → Hp → Prop} (s : SL K g0 H0 g As S H r σ) (he : ea r S = some (.dat (.bool b) m, S')) (k : ∀ H' g', SL K g0 H0 g' As S' H' r σ → Same g.fz g'.fz → Q b H') : tT K ea σ H Q :=
  ⟨_, r, S, b, m, S', s.borG.ok, s.env, he, fun H' g2 bo => by
    obtain ⟨g3, a, kt, p, t⟩ := s.hold bo Fre.nil
    exact k H' g3 t.sl t.le⟩
theorem SL.evs {eas : Evs} {Q : List V → Hp → Prop} (s : SL K g0 H0 g As S H r σ) (he : eas r S = some (ws, S')) (hk : ws.all W.keep = true) (k : ∀ vs H' g' A, VOs K g' H' vs ws A → Aft K g0 H0 g g' As S' H' r σ A → Q vs H') : tA K eas σ H Q :=
  ⟨_, r, S, ws, S', s.borG.ok, s.env, he, fun v H' ⟨g2, A, b, o, f⟩ => by
    obtain ⟨g3, a, kt, p, t⟩ := s.hold b f
    exact k v H' g3 A (o.strip p kt hk) t⟩

/-! ### a slot is set -/
def setA (As : Nat → List Addr) (i : Nat) (A : List Addr) : Nat → List Addr := fun j => if j = i then A else As j
theorem setA_self {i : Nat} : setA As i A i = A := if_pos rfl
theorem setA_ne {i j : Nat} (h : j ≠ i) : setA As i A j = As j := if_neg h
theorem SL.put {i : Nat} (s : SL K g0 H0 g As S H r σ) (o : VO K g H v w A) (f : Fre g H0 A) (ap : ∀ j a, a ∈ A → a ∉ As j) : ∃ As', SL K g0 H0 g As' S H (r.set i (some w)) (σ.set i (some v)) ∧ ∀ j a, a ∈ As' j → a ∈ As j ∨ a ∈ A := by
  by_cases hi : i < r.length
  · refine ⟨setA As i A, ⟨s.go, fun j u h => ?_, fun j => ?_, fun j l a hjl h1 h2 => ?_, fun j a h => ?_, fun j h => ?_, by rw [List.length_set, List.length_set, s.len]⟩, fun j a h => ?_⟩
    · by_cases e : j = i
      · subst e
        rw [List.getElem?_set_self hi] at h
        cases h
        exact ⟨v, List.getElem?_set_self (by rw [s.len]; exact hi), by rw [setA_self]; exact o⟩
      · rw [List.getElem?_set_ne (Ne.symm e)] at h
        obtain ⟨v', h1, h2⟩ := s.sl j u h
        exact ⟨v', by rw [List.getElem?_set_ne (Ne.symm e)]; exact h1, by rw [setA_ne e]; exact h2⟩
    · by_cases e : j = i
      · subst e
        rw [setA_self]
        exact f
      · rw [setA_ne e]
        exact s.fre j
    · by_cases e : j = i
      · subst e
        rw [setA_self] at h1
        rw [setA_ne (Ne.symm hjl)] at h2
        exact ap l a h1 h2
      · rw [setA_ne e] at h1
        by_cases e2 : l = i
        · subst e2
          rw [setA_self] at h2
          exact ap j a h2 h1
        · rw [setA_ne e2] at h2
          exact s.dj j l a hjl h1 h2
    · by_cases e : j = i
      · subst e
        rw [setA_self] at h
        exact o.lsts a h
      · rw [setA_ne e] at h
        exact s.ls j a h
    · rw [List.length_set] at h
      rw [setA_ne (by omega)]
      exact s.bd j h
    · by_cases e : j = i
      · subst e
        rw [setA_self] at h
        exact .inr h
      · rw [setA_ne e] at h
        exact .inl h
  · rw [List.set_eq_of_length_le (by omega), List.set_eq_of_length_le (by rw [s.len]; omega)]
    exact ⟨As, s, fun j a h => .inl h⟩

/-- the state, with a floor that stays frozen -/
def St (K : PySem.W.Frag) (g0 : Gho) (H0 F : Hp) (S : Sto) (H : Hp) (r : Rho) (σ : L2.St) : Prop := ∃ g As, SL K g0 H0 g As S H r σ ∧ Same F g.fz
def tS (K : PySem.W.Frag) (x : Rho → Sto → Option R) : TS := fun D σ H => ∃ g0 H0 F S r R, St K g0 H0 F S H r σ ∧ x r S = some R ∧ match R with
  | .nx r' S' => ∀ σ' H', St K g0 H0 F S' H' r' σ' → D.nx σ' H'
  | .bk r' S' => ∀ σ' H', St K g0 H0 F S' H' r' σ' → D.bk σ' H'
  | .ct r' S' => ∀ σ' H', St K g0 H0 F S' H' r' σ' → D.ct σ' H'
  | .rt w S' => ∀ v H', Rz K g0 H0 w S' v H' → D.rt v H'
theorem ps_dyn {X : Cx} {st : Stmt} {t : TS} (h : ∀ D σ H, t D σ H → ∃ t', PS X st t' ∧ t' D σ H) : PS X st t :=
  ⟨fun pins s σ H D I q => let ⟨_, p, q'⟩ := h D σ H q; p.run pins s σ H D I q'⟩
theorem ps_imp {X : Cx} {st : Stmt} {t t' : TS} (p : PS X st t') (h : ∀ D σ H, t D σ H → t' D σ H) : PS X st t := ps_dyn fun D σ H q => ⟨t', p, h D σ H q⟩
theorem pss_imp {X : Cx} {st : List Stmt} {t t' : TS} (p : PSs X st t') (h : ∀ D σ H, t D σ H → t' D σ H) : PSs X st t := ⟨fun pins s σ H D I q => p.run pins s σ H D I (h D σ H q)⟩
theorem Aft.rz (t : Aft K g0 H0 g g' As S' H' r σ A) (o : VO K g' H' v w A) : Rz K g0 H0 w S' v H' := ⟨g', A, t.sl.go, o, t.fre⟩
theorem Aft.set {i : Nat} (t : Aft K g0 H0 g g' As S' H' r σ A) (o : VO K g' H' v w A) (fl : Same F g.fz) : St K g0 H0 F S' H' (r.set i (some w)) (σ.set i (some v)) := by
  obtain ⟨As', s, _⟩ := t.sl.put (i := i) o t.fre t.ap
  exact ⟨g', As', s, fl.trans t.le⟩
end MP
end

section
set_option maxRecDepth 100000
/-! MpS1: statements but loops. -/
namespace MP
open PySem L2

variable {X : Cx} {K : PySem.W.Frag} {g g0 g1 g2 g' : Gho} {H H0 H1 H2 H' : Hp} {v : V} {vs : List V} {w w' : W} {ws : List W} {A A' B : List Addr} {S S' S1 S2 : Sto} {r r1 r2 : Rho} {σ σ' : L2.St} {d : D} {ds : List D} {As : Nat → List Addr} {F F' : Hp} {D : Ends}
  {e i : Expr} {ea eb ei : Ev} {eas : Evs} {pos p apos : Pos} {x y : Str}

/-! ### slots changed in place -/
theorem SL.chg {x : Nat} (s : SL K g0 H0 g As S H r σ) (h : r[x]? = some (some w)) (hv : σ[x]? = some (some v)) (go : Go K g0 H0 g' S' H') (le : Same g.fz g'.fz) (ph : g'.phi = g.phi)
    (nf : ∀ i a, i ≠ x → a ∈ As i → g'.fz a = none) (hh : ∀ i a, i ≠ x → a ∈ As i → H' a = H a) (o : VO K g' H' v w' A') (f : Fre g' H0 A') (ap : ∀ i a, i ≠ x → a ∈ A' → a ∉ As i) :
    SL K g0 H0 g' (setA As x A') S' H' (r.set x (some w')) σ := by
  have hx : x < r.length := (List.getElem?_eq_some_iff.mp h).1
  refine ⟨go, fun j u q => ?_, fun j => ?_, fun j l a hjl h1 h2 => ?_, fun j a q => ?_, fun j q => ?_, by rw [List.length_set, s.len]⟩
  · by_cases e : j = x
    · subst e
      rw [List.getElem?_set_self hx] at q
      cases q
      exact ⟨v, hv, by rw [setA_self]; exact o⟩
    · rw [List.getElem?_set_ne (Ne.symm e)] at q
      obtain ⟨v', h1, h2⟩ := s.sl j u q
      exact ⟨v', h1, by rw [setA_ne e]; exact h2.mono le ⟨[], by rw [ph, List.append_nil]⟩ fun a ha o' q' => by rw [hh j a e ha]; exact q'⟩
  · by_cases e : j = x
    · subst e
      rw [setA_self]
      exact f
    · rw [setA_ne e]
      refine ⟨(s.fre j).1, fun a ha => ?_⟩
      obtain ⟨q1, q2, q3⟩ := (s.fre j).2 a ha
      exact ⟨q1, nf j a e ha, by rw [ph]; exact q3⟩
  · by_cases e : j = x
    · subst e
      rw [setA_self] at h1
      rw [setA_ne (Ne.symm hjl)] at h2
      exact ap l a (Ne.symm hjl) h1 h2
    · rw [setA_ne e] at h1
      by_cases e2 : l = x
      · subst e2
        rw [setA_self] at h2
        exact ap j a hjl h2 h1
      · rw [setA_ne e2] at h2
        exact s.dj j l a hjl h1 h2
  · by_cases e : j = x
    · subst e
      rw [setA_self] at q
      exact o.lsts a q
    · rw [setA_ne e] at q
      rw [hh j a e q]
      exact s.ls j a q
  · rw [List.length_set] at q
    rw [setA_ne (by omega)]
    exact s.bd j q
/-- a slot's lists frozen -/
theorem SL.fz1 {j : Nat} (s : SL K g0 H0 g As S H r σ) (h : r[j]? = some (some w)) : ∃ g' v As', σ[j]? = some (some v) ∧ SL K g0 H0 g' As' S H (r.set j (some w.fz)) σ ∧ VW K g' v w ∧ Same g.fz g'.fz := by
  obtain ⟨v, h1, h2⟩ := s.sl j w h
  have sm : Same g.fz (ext g.fz H (As j)) := same_ext fun a ha => ((s.fre j).2 a ha).2.1
  have vw : VW K ⟨ext g.fz H (As j), g.phi⟩ v w := h2.frz sm ⟨[], by simp⟩ fun a ha => ext_in ha
  refine ⟨⟨ext g.fz H (As j), g.phi⟩, v, setA As j [], h1, s.chg h h1 (s.go.ext (s.ls j) (s.fre j).2) sm rfl (fun i a hi ha => ?_) (fun _ _ _ _ => rfl) vw.own Fre.nil (fun _ _ _ z => by cases z), vw, sm⟩
  show ext g.fz H (As j) a = none
  rw [ext_out (s.dj i j a hi ha)]
  exact ((s.fre i).2 a ha).2.1

/-! ### name = e -/
def asgE (i : Nat) (ea : Ev) : Rho → Sto → Option R := fun r S => match ea r S with
      | some (w, S1) => some (.nx ((useR w r).set i (some w)) S1)
      | none => none
theorem asg_imp {i : Nat} (h : tS K (asgE i ea) D σ H) : tAsg (tE K ea) (gName i) D σ H := by
  obtain ⟨g0, H0, F, S, r, R, ⟨g, As, s, fl⟩, ev, q⟩ := h
  unfold asgE at ev
  split at ev
  case h_2 => cases ev
  rename_i w S1 h1
  cases ev
  exact s.ev h1 fun v H' g' As' A o t => q _ _ (t.set o fl)
def asgV (i j : Nat) : Rho → Sto → Option R := fun r S => match r[j]? with
      | some (some w) => some (.nx ((r.set j (some w.fz)).set i (some w.fz)) S)
      | _ => none
theorem asgV_imp {i j : Nat} (h : tS K (asgV i j) D σ H) : tAsg (tVar j) (gName i) D σ H := by
  obtain ⟨g0, H0, F, S, r, R, ⟨g, As, s, fl⟩, ev, q⟩ := h
  unfold asgV at ev
  split at ev
  case h_2 => cases ev
  rename_i w h1
  cases ev
  obtain ⟨g', v, As', e1, s', vw, sm⟩ := s.fz1 h1
  refine ⟨v, e1, q _ _ ?_⟩
  obtain ⟨As2, s2, _⟩ := s'.put (i := i) vw.own Fre.nil fun _ _ z => by cases z
  exact ⟨g', As2, s2, fl.trans sm⟩

/-! ### return -/
def retE (ea : Ev) : Rho → Sto → Option R := fun r S => match ea r S with
      | some (w, S1) => some (.rt w S1)
      | none => none
theorem s_ret (he : PE X e (tE X.K ea)) : PS X (.Return (some e) pos) (tS X.K (retE ea)) := ps_imp (ps_ret he) fun D σ H h => by
  obtain ⟨g0, H0, F, S, r, R, ⟨g, As, s, fl⟩, ev, q⟩ := h
  unfold retE at ev
  split at ev
  case h_2 => cases ev
  rename_i w S1 h1
  cases ev
  exact s.ev h1 fun v H' g' As' A o t => q _ _ (t.rz o)
def retV (i : Nat) : Rho → Sto → Option R := fun r S => match r[i]? with
      | some (some w) => some (.rt w S)
      | _ => none
theorem s_retV {i : Nat} (hN : X.N[i]? = some x) (hv : Vis X.env.scope x) (hd : (x == ("__debug__" : Str)) = false) (hcd : (x == ("__classdict__" : Str)) = false) : PS X (.Return (some (.Name x p)) pos) (tS X.K (retV i)) :=
  ps_imp (ps_ret (pe_var hN hv hd hcd)) fun D σ H h => by
  obtain ⟨g0, H0, F, S, r, R, ⟨g, As, s, fl⟩, ev, q⟩ := h
  unfold retV at ev
  split at ev
  case h_2 => cases ev
  rename_i w h1
  cases ev
  obtain ⟨v, e1, o⟩ := s.sl i w h1
  exact ⟨v, e1, q _ _ ⟨g, As i, s.go, o, s.fre i⟩⟩
def retNE : Rho → Sto → Option R := fun _ S => some (.rt (.dat .none 0) S)
theorem s_retN : PS X (.Return none pos) (tS X.K retNE) := ps_imp ps_retN fun D σ H h => by
  obtain ⟨g0, H0, F, S, r, R, ⟨g, As, s, fl⟩, ev, q⟩ := h
  cases ev
  exact q _ _ ⟨g, [], s.go, ⟨rfl, rfl⟩, Fre.nil⟩

/-! ### small ones -/
def skipE : Rho → Sto → Option R := fun r S => some (.nx r S)
def brkE : Rho → Sto → Option R := fun r S => some (.bk r S)
def contE : Rho → Sto → Option R := fun r S => some (.ct r S)
def nonE : Rho → Sto → Option R := fun _ _ => none
theorem s_pass : PS X (.Pass pos) (tS X.K skipE) := ps_imp ps_pass fun D σ H h => by
  obtain ⟨g0, H0, F, S, r, R, s, ev, q⟩ := h
  cases ev
  exact q _ _ s
theorem s_brk : PS X (.Break pos) (tS X.K brkE) := ps_imp ps_break fun D σ H h => by
  obtain ⟨g0, H0, F, S, r, R, s, ev, q⟩ := h
  cases ev
  exact q _ _ s
theorem s_cont : PS X (.Continue pos) (tS X.K contE) := ps_imp ps_continue fun D σ H h => by
  obtain ⟨g0, H0, F, S, r, R, s, ev, q⟩ := h
  cases ev
  exact q _ _ s
theorem s_non {st : Stmt} : PS X st (tS X.K nonE) := ps_imp ps_never fun D σ H h => by
  obtain ⟨g0, H0, F, S, r, R, s, ev, q⟩ := h
  cases ev
def exE (ea : Ev) : Rho → Sto → Option R := fun r S => match ea r S with
    | some (w, S1) => some (.nx (useR w r) S1)
    | none => none
theorem s_ex (he : PE X e (tE X.K ea)) (hs : swapsWith e none pos.line X.env = pure false) : PS X (.Expr e pos) (tS X.K (exE ea)) := ps_imp (ps_expr he hs) fun D σ H h => by
  obtain ⟨g0, H0, F, S, r, R, ⟨g, As, s, fl⟩, ev, q⟩ := h
  unfold exE at ev
  split at ev
  case h_2 => cases ev
  rename_i w S1 h1
  cases ev
  exact s.ev h1 fun v H' g' As' A o t => q _ _ ⟨g', As', t.sl, fl.trans t.le⟩
def ifsE (et : Ev) (xa xb : Rho → Sto → Option R) : Rho → Sto → Option R := fun r S => match et r S with
    | some (.dat (.bool true) _, S1) => xa r S1
    | some (.dat (.bool false) _, S1) => xb r S1
    | _ => none
theorem s_if {c : Expr} {a b : List Stmt} {xa xb : Rho → Sto → Option R} (hc : PT X c (tT X.K ea)) (ha : PSs X a (tS X.K xa)) (hb : PSs X b (tS X.K xb)) : PS X (.If c a b pos) (tS X.K (ifsE ea xa xb)) := ps_imp (ps_if hc ha hb) fun D σ H h => by
  obtain ⟨g0, H0, F, S, r, R, ⟨g, As, s, fl⟩, ev, q⟩ := h
  unfold ifsE at ev
  split at ev
  · rename_i m S1 h1
    exact s.evT h1 fun H' g' s' le => by
      rw [if_pos rfl]
      exact ⟨g0, H0, F, S1, r, R, ⟨g', As, s', fl.trans le⟩, ev, q⟩
  · rename_i m S1 h1
    exact s.evT h1 fun H' g' s' le => by
      rw [if_neg (by decide)]
      exact ⟨g0, H0, F, S1, r, R, ⟨g', As, s', fl.trans le⟩, ev, q⟩
  · cases ev
def seqE (x xs : Rho → Sto → Option R) : Rho → Sto → Option R := fun r S => match x r S with
    | some (.nx r1 S1) => xs r1 S1
    | some (.rt w S1) => some (.rt w S1)
    | some (.bk r1 S1) => some (.bk r1 S1)
    | some (.ct r1 S1) => some (.ct r1 S1)
    | none => none
theorem s_nil : PSs X [] (tS X.K skipE) := pss_imp pss_nil fun D σ H h => by
  obtain ⟨g0, H0, F, S, r, R, s, ev, q⟩ := h
  cases ev
  exact q _ _ s
theorem s_cons {st : Stmt} {rest : List Stmt} {xa xb : Rho → Sto → Option R} (ha : PS X st (tS X.K xa)) (hb : PSs X rest (tS X.K xb)) : PSs X (st :: rest) (tS X.K (seqE xa xb)) := pss_imp (pss_cons ha hb) fun D σ H h => by
  obtain ⟨g0, H0, F, S, r, R, s, ev, q⟩ := h
  unfold seqE at ev
  split at ev
  · rename_i r1 S1 h1
    exact ⟨g0, H0, F, S, r, _, s, h1, fun σ' H' s' => ⟨g0, H0, F, S1, r1, R, s', ev, q⟩⟩
  · rename_i w S1 h1
    cases ev
    exact ⟨g0, H0, F, S, r, _, s, h1, q⟩
  · rename_i r1 S1 h1
    cases ev
    exact ⟨g0, H0, F, S, r, _, s, h1, q⟩
  · rename_i r1 S1 h1
    cases ev
    exact ⟨g0, H0, F, S, r, _, s, h1, q⟩
  · cases ev

/-! ### x.append(e) -/
def appE (x : Nat) (ea : Ev) : Rho → Sto → Option R := fun r S => match ea r S with
    | some (.dat d m, S1) => match (useR (.dat d m) r)[x]? with
      | some (some (.dat (.list xs) (n + 1))) =>
        if xs.length < LIM then some (.nx ((useR (.dat d m) r).set x (some (.dat (.list (xs ++ [d])) (if nol d then n + 1 else 1)))) S1) else none
      | _ => none
    | _ => none
theorem fzAll_own {x n : Nat} {d : MP.D} (h : (fzAll r)[x]? = some (some (.dat d (n + 1)))) : False := by
  obtain ⟨w', _, e⟩ := fzAll_get h
  cases w' <;> cases e
theorem keep_of_own {x n : Nat} {d : MP.D} (h : (useR w r)[x]? = some (some (.dat d (n + 1)))) : w.keep = true := by
  unfold useR at h
  split at h
  · assumption
  · exact (fzAll_own h).elim
theorem useR_keep (h : w.keep = true) : useR w r = r := by
  unfold useR
  rw [if_pos h]
theorem nol_isL : ∀ {d : MP.D}, nol d = true → isL d = false
  | .list _, h => by simp [nol] at h
  | .none, _ => rfl
  | .bool _, _ => rfl
  | .int _, _ => rfl
  | .str _, _ => rfl
  | .tuple _, _ => rfl
  | .dict _, _ => rfl
theorem nolAll_isL : ∀ {ds : List MP.D}, nolAll ds = true → ∀ d ∈ ds, isL d = false
  | [], _, _, h => by cases h
  | x :: xs, n, d, h => by
    have n' : nol x = true ∧ nolAll xs = true := by simpa [nolAll] using n
    rcases List.mem_cons.mp h with e | h
    · rw [e]
      exact nol_isL n'.1
    · exact nolAll_isL n'.2 d h
/-- more frozen: the whole list but its own place -/
theorem owns_fz {n : Nat} (h : Owns K g.fz H vs ds n B) (f : ∀ a ∈ B, g.fz a = none) : DRs K (ext g.fz H B) vs ds := Owns.freeze (same_ext f) ds n vs B h fun a ha => ext_in ha
/-- a list grows by items that are frozen, or by atoms -/
theorem SL.grow {x n : Nat} {xs : List MP.D} (t : Aft K g0 H0 g g' As S' H' r σ A) (h : r[x]? = some (some (.dat (.list xs) (n + 1)))) (z : (nolAll ds = true ∧ DRs K g'.fz vs ds) ∨ (DRs K (ext g'.fz H' A) vs ds ∧ ∀ a ∈ A, ∃ ys, H' a = some (.lst ys))) :
    ∃ a us, σ[x]? = some (some (.ref a)) ∧ H' a = some (.lst us) ∧ us.length = xs.length ∧ ∃ g2 As2, SL K g0 H0 g2 As2 S' (L2.upd H' a (.lst (us ++ vs))) (r.set x (some (.dat (.list (xs ++ ds)) (if nolAll ds then n + 1 else 1)))) σ ∧ Same g.fz g2.fz := by
  obtain ⟨v, e1, o⟩ := t.sl.sl x _ h
  obtain ⟨a, us, B, rfl, hH, eA, ow⟩ := o
  have fx := t.sl.fre x
  rw [eA] at fx
  have hl := ow.length
  obtain ⟨a0, a1, a2⟩ := fx.2 a (by simp)
  have ndB := List.nodup_cons.mp fx.1
  have up : Go K g0 H0 g' S' (L2.upd H' a (.lst (us ++ vs))) := t.sl.go.upd hH a0 a1 a2
  have hh : ∀ b, b ≠ a → L2.upd H' a (.lst (us ++ vs)) b = H' b := fun b hb => upd_ne hb
  have oth : ∀ i b, i ≠ x → b ∈ As i → b ≠ a := fun i b hi hb z => t.sl.dj i x b hi hb (by rw [z, eA]; simp)
  refine ⟨a, us, e1, hH, hl, ?_⟩
  by_cases hn : nolAll ds = true
  · rw [if_pos hn]
    have dv : DRs K g'.fz vs ds := by
      rcases z with z | z
      · exact z.2
      · refine DRs.strip (fun b o q nl => ?_) ds vs hn z.1
        by_cases hb : b ∈ A
        · obtain ⟨ys, q'⟩ := z.2 b hb
          rw [ext_in hb, q'] at q
          cases q
          exact absurd rfl (nl ys)
        · rwa [ext_out hb] at q
    refine ⟨g', _, t.sl.chg h e1 up (fun _ _ q => q) rfl (fun i b _ hb => ((t.sl.fre i).2 b hb).2.1) (fun i b hi hb => hh b (oth i b hi hb)) (A' := a :: B) ?_ fx (fun i b hi hb => fun z => t.sl.dj i x b hi z (by rw [eA]; exact hb)), t.le⟩
    refine ⟨a, us ++ vs, B, rfl, upd_same, rfl, ?_⟩
    have q := Owns.app (Owns.mono (fun _ _ q => q) xs n us B ow fun b hb o' q => by
      rw [hh b fun z => ndB.1 (z ▸ hb)]
      exact q) (owns_at (H := L2.upd H' a (.lst (us ++ vs))) (n := n) (nolAll_isL hn) dv)
    rw [List.append_nil] at q
    exact q
  · rw [if_neg hn]
    rcases z with z | z
    · exact absurd z.1 hn
    · have fB : ∀ b ∈ B ++ A, H0 b = none ∧ g'.fz b = none ∧ b ∉ g'.phi := fun b hb => (List.mem_append.mp hb).elim (fun q => fx.2 b (by simp [q])) fun q => t.fre.2 b q
      have lB : ∀ b ∈ B ++ A, ∃ ys, H' b = some (.lst ys) := fun b hb => (List.mem_append.mp hb).elim (fun q => t.sl.ls x b (by rw [eA]; simp [q])) fun q => z.2 b q
      have aB : a ∉ B ++ A := fun q => (List.mem_append.mp q).elim ndB.1 fun q => t.ap x a q (by rw [eA]; simp)
      have sm : Same g'.fz (ext g'.fz H' (B ++ A)) := same_ext fun b hb => (fB b hb).2.1
      have go1 := t.sl.go.ext lB fB
      have up2 : Go K g0 H0 ⟨ext g'.fz H' (B ++ A), g'.phi⟩ S' (L2.upd H' a (.lst (us ++ vs))) := go1.upd hH a0 (by
        show ext g'.fz H' (B ++ A) a = none
        rw [ext_out aB]
        exact a1) a2
      have s1 : Same (ext g'.fz H' B) (ext g'.fz H' (B ++ A)) := fun b o q => by
        by_cases hb : b ∈ B
        · rw [ext_in hb] at q
          rw [ext_in (by simp [hb])]
          exact q
        · rw [ext_out hb] at q
          exact sm b o q
      have s2 : Same (ext g'.fz H' A) (ext g'.fz H' (B ++ A)) := fun b o q => by
        by_cases hb : b ∈ A
        · rw [ext_in hb] at q
          rw [ext_in (by simp [hb])]
          exact q
        · rw [ext_out hb] at q
          exact sm b o q
      have d1 : DRs K (ext g'.fz H' (B ++ A)) us xs := DRs.mono s1 xs us (owns_fz ow fun b hb => (fB b (by simp [hb])).2.1)
      have d2 : DRs K (ext g'.fz H' (B ++ A)) vs ds := DRs.mono s2 ds vs z.1
      refine ⟨⟨ext g'.fz H' (B ++ A), g'.phi⟩, _, t.sl.chg h e1 up2 sm rfl (fun i b hi hb => ?_) (fun i b hi hb => hh b (oth i b hi hb)) (A' := [a]) ?_ ⟨by simp, fun b hb => ?_⟩ (fun i b hi hb => ?_), t.le.trans sm⟩
      · show ext g'.fz H' (B ++ A) b = none
        rw [ext_out fun q => (List.mem_append.mp q).elim (fun q => t.sl.dj i x b hi hb (by rw [eA]; simp [q])) fun q => t.ap i b q hb]
        exact ((t.sl.fre i).2 b hb).2.1
      · exact ⟨a, us ++ vs, [], rfl, upd_same, rfl, owns0 (DRs.app d1 d2)⟩
      · have e : b = a := by simpa using hb
        rw [e]
        refine ⟨a0, ?_, a2⟩
        show ext g'.fz H' (B ++ A) a = none
        rw [ext_out aB]
        exact a1
      · have e : b = a := by simpa using hb
        rw [e]
        exact fun z => oth i a hi z rfl
theorem app_imp {x : Nat} (h : tS K (appE x ea) D σ H) : tDrop (tBM K "list" rAppend (tVar x) (tA K (consE ea nilE))) D σ H := by
  obtain ⟨g0, H0, F, S, r, R, ⟨g, As, s, fl⟩, ev, q⟩ := h
  unfold appE at ev
  split at ev
  case h_2 => cases ev
  rename_i d m S1 h1
  split at ev
  case h_2 => cases ev
  rename_i xs n hx
  have hk := keep_of_own hx
  rw [useR_keep hk] at ev hx
  split at ev
  case isFalse => cases ev
  rename_i hlen
  cases ev
  obtain ⟨v0, e0, o0⟩ := s.sl x _ hx
  obtain ⟨a0, us0, B0, rfl, hH0, _⟩ := o0
  have h2 : consE ea nilE r S = some ([.dat d m], S1) := by
    unfold consE nilE
    rw [h1]
  refine ⟨.ref a0, e0, .inl ⟨rfl, us0, SqL.of hH0⟩, s.evs h2 (by rw [List.all_cons, hk]; rfl) fun vs H' g' A o t => ?_⟩
  obtain ⟨v, rr, B, C, rfl, rfl, o1, rfl, rfl⟩ := o
  rw [List.append_nil] at t
  have hz : (nolAll [d] = true ∧ DRs K g'.fz [v] [d]) ∨ (DRs K (ext g'.fz H' B) [v] [d] ∧ ∀ a ∈ B, ∃ ys, H' a = some (.lst ys)) := .inr ⟨DRs.one (Own.freeze (same_ext fun a ha => (t.fre.2 a ha).2.1) d m v B o1 fun a ha => ext_in ha), Own.lsts d m v B o1⟩
  obtain ⟨a, us, e1, e2, e3, g2, As2, s2, le2⟩ := SL.grow t hx hz
  cases e0.symm.trans e1
  refine ⟨a0, us, v, rfl, rfl, e2, ?_, q _ _ ⟨g2, As2, ?_, fl.trans le2⟩⟩
  · rw [e3]
    exact Nat.lt_of_lt_of_le hlen (by decide)
  · have en : nolAll [d] = nol d := by simp [nolAll]
    rw [en] at s2
    exact s2

/-! ### x.extend(e) -/
def extdE (x : Nat) (ea : Ev) : Rho → Sto → Option R := fun r S => match ea r S with
    | some (.dat (.list ys) m, S1) => match (useR (.dat (.list ys) m) r)[x]? with
      | some (some (.dat (.list xs) (n + 1))) =>
        if xs.length + ys.length ≤ LIM then some (.nx ((useR (.dat (.list ys) m) r).set x (some (.dat (.list (xs ++ ys)) (if nolAll ys then n + 1 else 1)))) S1) else none
      | _ => none
    | _ => none
theorem extd_imp {x : Nat} (h : tS K (extdE x ea) D σ H) : tDrop (tBM K "list" rExtend (tVar x) (tA K (consE ea nilE))) D σ H := by
  obtain ⟨g0, H0, F, S, r, R, ⟨g, As, s, fl⟩, ev, q⟩ := h
  unfold extdE at ev
  split at ev
  case h_2 => cases ev
  rename_i ys m S1 h1
  split at ev
  case h_2 => cases ev
  rename_i xs n hx
  have hk := keep_of_own hx
  rw [useR_keep hk] at ev hx
  split at ev
  case isFalse => cases ev
  rename_i hlen
  cases ev
  obtain ⟨v0, e0, o0⟩ := s.sl x _ hx
  obtain ⟨a0, us0, B0, rfl, hH0, _⟩ := o0
  have h2 : consE ea nilE r S = some ([.dat (.list ys) m], S1) := by
    unfold consE nilE
    rw [h1]
  refine ⟨.ref a0, e0, .inl ⟨rfl, us0, SqL.of hH0⟩, s.evs h2 (by rw [List.all_cons, hk]; rfl) fun vs H' g' A o t => ?_⟩
  obtain ⟨v, rr, B, C, rfl, rfl, o1, rfl, rfl⟩ := o
  rw [List.append_nil] at t
  obtain ⟨b, zs, rfl, q1, q2⟩ : DR K (ext g'.fz H' B) v (.list ys) := Own.freeze (same_ext fun a ha => (t.fre.2 a ha).2.1) (.list ys) m v B o1 fun a ha => ext_in ha
  have hb : H' b = some (.lst zs) := by
    by_cases hbB : b ∈ B
    · rwa [ext_in hbB] at q1
    · rw [ext_out hbB] at q1
      exact t.sl.go.ok.sub _ _ q1
  have hz : (nolAll ys = true ∧ DRs K g'.fz zs ys) ∨ (DRs K (ext g'.fz H' B) zs ys ∧ ∀ a ∈ B, ∃ ys, H' a = some (.lst ys)) := .inr ⟨q2, Own.lsts (.list ys) m _ B o1⟩
  obtain ⟨a, us, e1, e2, e3, g2, As2, s2, le2⟩ := SL.grow t hx hz
  cases e0.symm.trans e1
  refine ⟨a0, b, us, zs, rfl, rfl, e2, hb, ?_, q _ _ ⟨g2, As2, s2, fl.trans le2⟩⟩
  rw [e3, q2.length]
  exact Nat.le_trans hlen (by decide)
end MP
end

section
set_option maxRecDepth 100000
/-! MpS2: stores to places, unpackings, pop, clear. -/
namespace MP
open PySem L2

variable {X : Cx} {K : PySem.W.Frag} {g g0 g1 g2 g' : Gho} {H H0 H1 H2 H' : Hp} {v : V} {vs us : List V} {w w' : W} {ws : List W} {A A' B : List Addr} {S S' S1 S2 : Sto} {r r1 r2 r' : Rho} {σ σ' : L2.St} {d : D} {ds xs : List D} {As : Nat → List Addr} {F F' : Hp} {D : Ends}
  {e i : Expr} {ea eb ei : Ev} {eas : Evs} {pos p apos : Pos} {n : Nat}

/-! ### parts of owned lists -/
theorem Owns.set : ∀ {ds : List MP.D} {vs : List V} {B : List Addr} (j : Nat), Owns K F H vs ds n B → Own K F H v d n [] → ∃ B', Owns K F H (vs.set j v) (ds.set j d) n B' ∧ B'.Sublist B
  | [], _, _, _, h, _ => ⟨[], by rw [h.1]; exact ⟨rfl, rfl⟩, by rw [h.2]; exact List.Sublist.refl _⟩
  | _ :: _, _, _, 0, ⟨w, r, B1, C, e, eA, q, t⟩, h => ⟨C, by rw [e]; exact ⟨_, r, [], C, rfl, rfl, h, t⟩, by rw [eA]; exact List.sublist_append_right _ _⟩
  | _ :: _, _, _, j + 1, ⟨w, r, B1, C, e, eA, q, t⟩, h => by
    obtain ⟨B', t', s⟩ := Owns.set j t h
    exact ⟨B1 ++ B', by rw [e]; exact ⟨w, _, B1, B', rfl, rfl, q, t'⟩, by rw [eA]; exact (List.Sublist.refl _).append s⟩
theorem Owns.erase : ∀ {ds : List MP.D} {vs : List V} {B : List Addr} (j : Nat), Owns K F H vs ds n B → ∃ B', Owns K F H (vs.eraseIdx j) (ds.eraseIdx j) n B' ∧ B'.Sublist B
  | [], _, _, _, h => ⟨[], by rw [h.1]; exact ⟨rfl, rfl⟩, by rw [h.2]; exact List.Sublist.refl _⟩
  | _ :: _, _, _, 0, ⟨w, r, B1, C, e, eA, q, t⟩ => ⟨C, by rw [e]; exact t, by rw [eA]; exact List.sublist_append_right _ _⟩
  | _ :: _, _, _, j + 1, ⟨w, r, B1, C, e, eA, q, t⟩ => by
    obtain ⟨B', t', s⟩ := Owns.erase j t
    exact ⟨B1 ++ B', by rw [e]; exact ⟨w, _, B1, B', rfl, rfl, q, t'⟩, by rw [eA]; exact (List.Sublist.refl _).append s⟩
theorem Owns.at : ∀ {ds : List MP.D} {vs : List V} {B : List Addr} {j : Nat} {d : MP.D}, Owns K F H vs ds n B → ds[j]? = some d → ∃ v C, vs[j]? = some v ∧ Own K F H v d n C ∧ ∀ a ∈ C, a ∈ B
  | [], _, _, _, _, _, h => by simp at h
  | _ :: _, _, _, 0, d, ⟨w, r, B1, C, e, eA, q, t⟩, h => by
    cases h
    exact ⟨w, B1, by rw [e]; rfl, q, fun a ha => by rw [eA]; simp [ha]⟩
  | _ :: _, _, _, j + 1, d, ⟨w, r, B1, C, e, eA, q, t⟩, h => by
    obtain ⟨v, C', h1, h2, h3⟩ := Owns.at (j := j) t (by simpa using h)
    exact ⟨v, C', by rw [e]; simpa using h1, h2, fun a ha => by rw [eA]; simp [h3 a ha]⟩
/-- an owned list written anew -/
theorem SL.rew {x : Nat} {a : Addr} {B' : List Addr} {ys : List MP.D} (s : SL K g0 H0 g As S H r σ) (h : r[x]? = some (some (.dat (.list xs) (n + 1)))) (hv : σ[x]? = some (some (.ref a))) (hH : H a = some (.lst us)) (eA : As x = a :: B) (hB : B'.Sublist B)
    (o : Owns K g.fz (L2.upd H a (.lst vs)) vs ys n B') : SL K g0 H0 g (setA As x (a :: B')) S (L2.upd H a (.lst vs)) (r.set x (some (.dat (.list ys) (n + 1)))) σ := by
  have fx := s.fre x
  rw [eA] at fx
  obtain ⟨a0, a1, a2⟩ := fx.2 a (by simp)
  have sub : (a :: B').Sublist (a :: B) := hB.cons₂ a
  refine s.chg h hv (s.go.upd hH a0 a1 a2) (fun _ _ q => q) rfl (fun i b _ hb => ((s.fre i).2 b hb).2.1) (fun i b hi hb => ?_) (A' := a :: B') ⟨a, vs, B', rfl, upd_same, rfl, o⟩ ⟨sub.nodup fx.1, fun b hb => fx.2 b (sub.subset hb)⟩ fun i b hi hb z => ?_
  · exact upd_ne fun z => s.dj i x b hi hb (by rw [z, eA]; simp)
  · exact s.dj i x b hi z (by rw [eA]; exact sub.subset hb)
/-- a cell written -/
theorem Go.cell {l : Nat} {q : Addr} {ys : List MP.D} (a : Go K g0 H0 g S H) (hl : g.phi[l]? = some q) (hx : S[l]? = some xs) (hp : H q = some (.lst us)) (h1 : g.fz q = none) (hd : DRs K g.fz vs ys) (hn : nolAll ys = true) : Go K g0 H0 g (S.set l ys) (L2.upd H q (.lst vs)) := by
  have hlt : l < S.length := (List.getElem?_eq_some_iff.mp hx).1
  refine ⟨a.le, a.phi, ⟨fun x o e => ?_, by rw [List.length_set]; exact a.ok.len, a.ok.nd, fun l' x ds' e1 e2 => ?_⟩, fun x o q1 q2 => ?_, a.nw, fun x o q1 => ?_⟩
  · have ne : x ≠ q := fun z => by
      rw [z, h1] at e
      cases e
    rw [upd_ne ne]
    exact a.ok.sub x o e
  · by_cases e : l = l'
    · subst e
      rw [hl] at e1
      cases e1
      rw [List.getElem?_set_self hlt] at e2
      cases e2
      exact ⟨vs, upd_same, h1, hd, hn⟩
    · rw [List.getElem?_set_ne e] at e2
      obtain ⟨vs', q1, q2⟩ := a.ok.cell l' x ds' e1 e2
      have ne : x ≠ q := fun z => e (by
        subst z
        obtain ⟨b1, c1⟩ := List.getElem?_eq_some_iff.mp hl
        obtain ⟨b2, c2⟩ := List.getElem?_eq_some_iff.mp e1
        exact (List.getElem_inj a.ok.nd).mp (c1.trans c2.symm))
      exact ⟨vs', by rw [upd_ne ne]; exact q1, q2⟩
  · have ne : x ≠ q := fun z => by
      obtain ⟨m, e, f⟩ := a.phi
      have hm : q ∈ g.phi := List.mem_of_getElem? hl
      rw [e] at hm
      rcases List.mem_append.mp hm with hm | hm
      · exact q2 (z ▸ hm)
      · rw [z, f q hm] at q1
        cases q1
    rw [upd_ne ne]
    exact a.fr x o q1 q2
  · by_cases ne : x = q
    · exact ⟨_, by rw [ne]; exact upd_same⟩
    · obtain ⟨o', q'⟩ := a.dm x o q1
      exact ⟨o', by rw [upd_ne ne]; exact q'⟩
theorem SL.cell {l : Nat} {q : Addr} {ys : List MP.D} (s : SL K g0 H0 g As S H r σ) (hl : g.phi[l]? = some q) (hx : S[l]? = some xs) (hp : H q = some (.lst us)) (h1 : g.fz q = none) (hd : DRs K g.fz vs ys) (hn : nolAll ys = true) : SL K g0 H0 g As (S.set l ys) (L2.upd H q (.lst vs)) r σ := by
  have ne : ∀ i a, a ∈ As i → a ≠ q := fun i a ha z => ((s.fre i).2 a ha).2.2 (z ▸ List.mem_of_getElem? hl)
  refine ⟨s.go.cell hl hx hp h1 hd hn, fun i w h => ?_, s.fre, s.dj, fun i a ha => ?_, s.bd, s.len⟩
  · obtain ⟨v, e1, o⟩ := s.sl i w h
    exact ⟨v, e1, o.mono (fun _ _ q => q) ⟨[], by simp⟩ fun a ha o' q' => by rw [upd_ne (ne i a ha)]; exact q'⟩
  · rw [upd_ne (ne i a ha)]
    exact s.ls i a ha
theorem nolAll_set : ∀ {xs : List MP.D} (j : Nat), nolAll xs = true → nol d = true → nolAll (xs.set j d) = true
  | [], _, h, _ => h
  | x :: xs, 0, h, hd => by
    have h' : nol x = true ∧ nolAll xs = true := by simpa [nolAll] using h
    simp [nolAll, h'.2, hd]
  | x :: xs, j + 1, h, hd => by
    have h' : nol x = true ∧ nolAll xs = true := by simpa [nolAll] using h
    simp [nolAll, h'.1, nolAll_set j h'.2 hd]

/-! ### x[i] = e -/
theorem keep_nol {d : MP.D} {m : Nat} (h : nol d = true) : (W.dat d m).keep = true := by
  cases d <;> first | rfl | (simp [nol] at h; done) | skip
  simpa [W.keep, full, nol] using h
theorem nol_own {m : Nat} (h : nol d = true) (o : VO K g H v (.dat d m) A) : A = [] ∧ DR K g.fz v d := own_atom' (nol_isL h) o
/-- a place of a slot's list, or of a cell, is set -/
theorem SL.setAt {x j : Nat} {k : Int} {xs : List MP.D} (s : SL K g0 H0 g As S H r σ) (h : r[x]? = some (some (.dat (.list xs) (n + 1)))) (hj : ixD xs.length k = some j) (hd : DR K g.fz v d) (hn : nol d = true) :
    ∃ a us As2, σ[x]? = some (some (.ref a)) ∧ H a = some (.lst us) ∧ ixN us.length k = some j ∧ SL K g0 H0 g As2 S (L2.upd H a (.lst (us.set j v))) (r.set x (some (.dat (.list (xs.set j d)) (n + 1)))) σ := by
  obtain ⟨v0, e1, a, us, B, rfl, hH, eA, ow⟩ := s.sl x _ h
  have fx := s.fre x
  rw [eA] at fx
  have ndB := List.nodup_cons.mp fx.1
  have hl := ow.length
  obtain ⟨B', o', sub⟩ := Owns.set j ow (own_atom (H := H) (n := n) (nol_isL hn) hd)
  refine ⟨a, us, _, e1, hH, by rw [hl]; exact hj, s.rew h e1 hH eA sub (Owns.mono (fun _ _ q => q) _ n _ B' o' fun b hb o q => ?_)⟩
  rw [upd_ne fun z : b = a => ndB.1 (by rw [← z]; exact sub.subset hb)]
  exact q
theorem SL.setCell {x l j : Nat} {k : Int} {xs : List MP.D} (s : SL K g0 H0 g As S H r σ) (h : r[x]? = some (some (.loc l))) (hx : S[l]? = some xs) (hj : ixD xs.length k = some j) (hd : DR K g.fz v d) (hn : nol d = true) :
    ∃ a us, σ[x]? = some (some (.ref a)) ∧ H a = some (.lst us) ∧ ixN us.length k = some j ∧ SL K g0 H0 g As (S.set l (xs.set j d)) (L2.upd H a (.lst (us.set j v))) r σ := by
  obtain ⟨v0, e1, _, a, rfl, hl⟩ := s.sl x _ h
  obtain ⟨us, q1, q2, q3, q4⟩ := s.go.ok.cell l a xs hl hx
  exact ⟨a, us, e1, q1, by rw [q3.length]; exact hj, s.cell hl hx q1 q2 (DRs.set j q3 hd) (nolAll_set j q4 hn)⟩
def setIE (x : Nat) (ei ea : Ev) : Rho → Sto → Option R := fun r S => match ea r S with
    | some (.dat d m, S1) => if nol d then match ei r S1 with
      | some (.dat (.int k) _, S2) => match r[x]? with
        | some (some (.dat (.list xs) (n + 1))) => match ixD xs.length k with
          | some j => some (.nx (r.set x (some (.dat (.list (xs.set j d)) (n + 1)))) S2)
          | none => none
        | some (some (.loc l)) => match S2[l]? with
          | some xs => match ixD xs.length k with
            | some j => some (.nx r (S2.set l (xs.set j d)))
            | none => none
          | none => none
        | _ => none
      | _ => none
      else none
    | _ => none
theorem setI_imp {x : Nat} (h : tS K (setIE x ei ea) D σ H) : tAsg (tE K ea) (gSub (tVar x) (tE K ei) rSetL) D σ H := by
  obtain ⟨g0, H0, F, S, r, R, ⟨g, As, s, fl⟩, ev, q⟩ := h
  unfold setIE at ev
  split at ev
  case h_2 => cases ev
  rename_i d m S1 h1
  split at ev
  case isFalse => cases ev
  rename_i hn
  split at ev
  case h_2 => cases ev
  rename_i k mk S2 h2
  refine s.evK h1 (keep_nol hn) fun v H1 g1 A o b1 t => ?_
  obtain ⟨rfl, dv⟩ := nol_own hn o
  have fin : ∀ v0, σ[x]? = some (some v0) → (∀ g2 H2, SL K g0 H0 g2 As S2 H2 r σ → Same g1.fz g2.fz → rSetL v0 (.int k) v H2 fun H3 => D.nx σ H3) → gSub (tVar x) (tE K ei) rSetL v σ H1 D.nx := fun v0 e0 kk => ⟨v0, e0, t.sl.evK h2 rfl fun v2 H2 g2 A2 o2 b2 t2 => by
    have e2 : v2 = .int k := o2.2
    rw [e2]
    exact kk g2 H2 t2.sl t2.le⟩
  split at ev
  · rename_i xs n hx
    split at ev
    case h_2 => cases ev
    rename_i j hj
    cases ev
    obtain ⟨v0, e0, _⟩ := s.sl x _ hx
    refine fin v0 e0 fun g2 H2 s2 le2 => ?_
    obtain ⟨a, us, As2, e1, e2, e3, s3⟩ := s2.setAt hx hj (DR.mono le2 _ _ dv) hn
    cases e0.symm.trans e1
    exact ⟨a, us, k, j, rfl, rfl, e2, e3, q _ _ ⟨g2, As2, s3, (fl.trans t.le).trans le2⟩⟩
  · rename_i l hx
    split at ev
    case h_2 => cases ev
    rename_i xs hS
    split at ev
    case h_2 => cases ev
    rename_i j hj
    cases ev
    obtain ⟨v0, e0, _⟩ := s.sl x _ hx
    refine fin v0 e0 fun g2 H2 s2 le2 => ?_
    obtain ⟨a, us, e1, e2, e3, s3⟩ := s2.setCell hx hS hj (DR.mono le2 _ _ dv) hn
    cases e0.symm.trans e1
    exact ⟨a, us, k, j, rfl, rfl, e2, e3, q _ _ ⟨g2, As, s3, (fl.trans t.le).trans le2⟩⟩
  · cases ev

/-! ### unpackings -/
def gTs : List Tq → TGs
  | [] => gNil
  | .nm i :: ts => gCons (gName i) (gTs ts)
  | .sub x i :: ts => gCons (gSub (tVar x) (tC (.int i)) rSetL) (gTs ts)
theorem asgQ_len : ∀ {ts : List Tq} {ds : List MP.D} {r : Rho} {S : Sto} {o : Rho × Sto}, asgQ ts ds r S = some o → ts.length = ds.length
  | [], [], _, _, _, _ => rfl
  | [], _ :: _, _, _, _, h => by cases h
  | .nm _ :: _, [], _, _, _, h => by simp [asgQ] at h
  | .sub _ _ :: _, [], _, _, _, h => by simp [asgQ] at h
  | .nm i :: ts, d :: ds, r, S, o, h => by
    unfold asgQ at h
    show ts.length + 1 = ds.length + 1
    rw [asgQ_len h]
  | .sub x i :: ts, d :: ds, r, S, o, h => by
    unfold asgQ at h
    split at h
    case h_2 => cases h
    split at h
    case h_2 => cases h
    split at h
    case h_2 => cases h
    split at h
    case isFalse => cases h
    show ts.length + 1 = ds.length + 1
    rw [asgQ_len h]
theorem asgQ_ok {Q : L2.St → Hp → Prop} : ∀ {ts : List Tq} {ds : List MP.D} {vs : List V} {r r' : Rho} {S S' : Sto} {σ : L2.St} {H : Hp} {As : Nat → List Addr}, asgQ ts ds r S = some (r', S') → SL K g0 H0 g As S H r σ → DRs K g.fz vs ds →
    (∀ σ' H' As', SL K g0 H0 g As' S' H' r' σ' → Q σ' H') → gTs ts vs σ H Q
  | [], [], vs, r, r', S, S', σ, H, As, h, s, dv, k => by
    cases h
    exact ⟨dv, k _ _ _ s⟩
  | [], _ :: _, _, _, _, _, _, _, _, _, h, _, _, _ => by cases h
  | .nm _ :: _, [], _, _, _, _, _, _, _, _, h, _, _, _ => by simp [asgQ] at h
  | .sub _ _ :: _, [], _, _, _, _, _, _, _, _, h, _, _, _ => by simp [asgQ] at h
  | .nm i :: ts, d :: ds, _, r, r', S, S', σ, H, As, h, s, ⟨v, rs, e, q, t⟩, k => by
    unfold asgQ at h
    obtain ⟨As', s', _⟩ := s.put (i := i) (w := .dat d 0) (A := []) (own0.mpr ⟨rfl, q⟩) Fre.nil fun _ _ z => by cases z
    exact ⟨v, rs, e, asgQ_ok h s' t k⟩
  | .sub x i :: ts, d :: ds, _, r, r', S, S', σ, H, As, h, s, ⟨v, rs, e, q, t⟩, k => by
    unfold asgQ at h
    split at h
    case h_2 => cases h
    rename_i l hx
    split at h
    case h_2 => cases h
    rename_i xs hS
    split at h
    case h_2 => cases h
    rename_i j hj
    split at h
    case isFalse => cases h
    rename_i hn
    obtain ⟨a, us, e1, e2, e3, s3⟩ := s.setCell hx hS hj q hn
    exact ⟨v, rs, e, .ref a, e1, a, us, i, j, rfl, rfl, e2, e3, asgQ_ok h s3 t k⟩
def asgTE (ts : List Tq) (ea : Ev) : Rho → Sto → Option R := fun r S => match ea r S with
    | some (.dat (.tuple ds) m, S1) => match asgQ ts ds (useR (.dat (.tuple ds) m) r) S1 with
      | some (r2, S2) => some (.nx r2 S2)
      | none => none
    | _ => none
theorem asgT_imp {ts : List Tq} (h : tS K (asgTE ts ea) D σ H) : tAsg (tE K ea) (gTup K ts.length (gTs ts)) D σ H := by
  obtain ⟨g0, H0, F, S, r, R, ⟨g, As, s, fl⟩, ev, q⟩ := h
  unfold asgTE at ev
  split at ev
  case h_2 => cases ev
  rename_i ds m S1 h1
  split at ev
  case h_2 => cases ev
  rename_i r2 S2 h2
  cases ev
  refine s.ev h1 fun v H' g' As' A o t => ?_
  have o : Own K g'.fz H' v (.tuple ds) m A := o
  obtain ⟨rfl, a, xs, rfl, hT, dv⟩ := own_atom' rfl o
  exact ⟨a, xs, rfl, t.sl.go.ok.tup hT, by rw [dv.length]; exact (asgQ_len h2).symm, asgQ_ok h2 t.sl dv fun σ' H2 As2 s2 => q _ _ ⟨g', As2, s2, fl.trans t.le⟩⟩

/-! ### several names at once -/
def setVs : List Nat → List V → L2.St → L2.St
  | i :: is, v :: vs, σ => setVs is vs (σ.set i (some v))
  | _, _, σ => σ
theorem setWs_len : ∀ {is : List Nat} {ws : List W} {r r' : Rho}, setWs is ws r = some r' → is.length = ws.length
  | [], [], _, _, _ => rfl
  | [], _ :: _, _, _, h => by cases h
  | _ :: _, [], _, _, h => by cases h
  | i :: is, w :: ws, r, r', h => by
    have h : setWs is ws (r.set i (some w)) = some r' := h
    show is.length + 1 = ws.length + 1
    rw [setWs_len h]
theorem setWs_ok : ∀ {is : List Nat} {ws : List W} {vs : List V} {r r' : Rho} {σ : L2.St} {A : List Addr} {As : Nat → List Addr}, setWs is ws r = some r' → SL K g0 H0 g As S H r σ → VOs K g H vs ws A → Fre g H0 A → (∀ j a, a ∈ A → a ∉ As j) → ∃ As', SL K g0 H0 g As' S H r' (setVs is vs σ)
  | [], [], vs, r, r', σ, A, As, h, s, o, f, ap => by
    cases h
    rw [o.1]
    exact ⟨As, s⟩
  | [], _ :: _, _, _, _, _, _, _, h, _, _, _, _ => by cases h
  | _ :: _, [], _, _, _, _, _, _, h, _, _, _, _ => by cases h
  | i :: is, w :: ws, _, r, r', σ, _, As, h, s, ⟨v, rs, B, C, e, eA, o, t⟩, f, ap => by
    have h : setWs is ws (r.set i (some w)) = some r' := h
    subst e
    subst eA
    have nd := List.nodup_append.mp f.1
    obtain ⟨As1, s1, p1⟩ := s.put (i := i) o ⟨nd.1, fun a ha => f.2 a (by simp [ha])⟩ fun j a ha => ap j a (by simp [ha])
    exact setWs_ok (is := is) (ws := ws) h s1 t ⟨nd.2.1, fun a ha => f.2 a (by simp [ha])⟩ fun j a ha z => (p1 j a z).elim (ap j a (by simp [ha])) fun z => nd.2.2 a z a ha rfl
def asgPE (is : List Nat) (eas : Evs) : Rho → Sto → Option R := fun r S => match eas r S with
    | some (ws, S1) => if ws.all W.keep then match setWs is ws r with
        | some r2 => some (.nx r2 S1)
        | none => none
      else none
    | none => none
theorem asgP_run {is : List Nat} {Q : List V → Hp → Prop} (h : tS K (asgPE is eas) D σ H) (k : ∀ (vs : List V) (H' : Hp), vs.length = is.length → (∀ p, H' p = none → D.nx (setVs is vs σ) (L2.upd H' p (.tup vs))) → D.nx (setVs is vs σ) H' → Q vs H') : tA K eas σ H Q := by
  obtain ⟨g0, H0, F, S, r, R, ⟨g, As, s, fl⟩, ev, q⟩ := h
  unfold asgPE at ev
  split at ev
  case h_2 => cases ev
  rename_i ws S1 h1
  split at ev
  case isFalse => cases ev
  rename_i hk
  split at ev
  case h_2 => cases ev
  rename_i r2 h2
  cases ev
  refine s.evs h1 hk fun vs H' g' A o t => ?_
  refine k vs H' (by rw [o.length, setWs_len h2]) (fun p hp => ?_) ?_
  · have np : ∀ {a}, (∃ xs, H' a = some (.lst xs)) → a ≠ p := fun {a} ⟨xs, q⟩ z => by
      rw [z, hp] at q
      cases q
    have b : Go K g' H' g' S1 (L2.upd H' p (.tup vs)) := (Go.refl t.sl.go.ok).new hp
    obtain ⟨As2, s2⟩ := setWs_ok h2 (t.sl.step b) (o.mono b.le b.pre fun a ha o' q' => by rw [upd_ne (np (o.lsts a ha))]; exact q') t.fre t.ap
    exact q _ _ ⟨g', As2, s2, fl.trans t.le⟩
  · obtain ⟨As2, s2⟩ := setWs_ok h2 t.sl o t.fre t.ap
    exact q _ _ ⟨g', As2, s2, fl.trans t.le⟩
theorem par2_imp {i j : Nat} (h : tS K (asgPE [i, j] eas) D σ H) : tPar i j (tA K eas) D σ H := asgP_run h fun vs H' hl _ q => by
  match vs, hl with
  | [u, v], _ => exact ⟨u, v, rfl, q⟩
theorem par3_imp {i j l : Nat} (h : tS K (asgPE [i, j, l] eas) D σ H) : tPar3 i j l (tA K eas) D σ H := asgP_run h fun vs H' hl _ q => by
  match vs, hl with
  | [u, v, z], _ => exact ⟨u, v, z, rfl, q⟩
theorem gNames_vs {Q : L2.St → Hp → Prop} : ∀ {is : List Nat} {vs : List V} {σ : L2.St}, vs.length = is.length → Q (setVs is vs σ) H → gNames is vs σ H Q
  | [], [], _, _, q => ⟨rfl, q⟩
  | [], _ :: _, _, h, _ => by cases h
  | _ :: _, [], _, h, _ => by cases h
  | i :: is, v :: vs, σ, h, q => ⟨v, vs, rfl, gNames_vs (Nat.succ.inj h) q⟩
theorem parT_imp {is : List Nat} (hl : is.length ≤ LIM) (h : tS K (asgPE is eas) D σ H) : tAsg (tTup (tA K eas)) (gTup K is.length (gNames is)) D σ H := asgP_run h fun vs H' l q _ =>
  ⟨by rw [l]; exact lim_line hl, fun p hp => ⟨p, vs, rfl, .inl (.inl upd_same), l, gNames_vs l (q p hp)⟩⟩

/-! ### x.append(y.pop(e)), x[i].clear() -/
def appPopE (x y : Nat) (ea : Ev) : Rho → Sto → Option R := fun r S => match ea r S with
    | some (.dat (.int i) _, S1) => match r[x]?, r[y]? with
      | some (some (.dat (.list xs) (n + 1))), some (some (.dat (.list ys) (m + 1))) => match ixD ys.length i with
        | some k => match ys[k]? with
          | some d => if nol d && decide (x ≠ y) && decide (xs.length < LIM) && decide (-(2 ^ 63) ≤ i ∧ i < 2 ^ 63) then
              some (.nx ((r.set y (some (.dat (.list (ys.eraseIdx k)) (m + 1)))).set x (some (.dat (.list (xs ++ [d])) (n + 1)))) S1)
            else none
          | none => none
        | none => none
      | _, _ => none
    | _ => none
theorem appPop_imp {x y : Nat} (h : tS K (appPopE x y ea) D σ H) : tDrop (tBM K "list" rAppend (tVar x) (tCons (tBM K "list" rPopAt (tVar y) (tA K (consE ea nilE))) tNil)) D σ H := by
  obtain ⟨g0, H0, F, S, r, R, ⟨g, As, s, fl⟩, ev, q⟩ := h
  unfold appPopE at ev
  split at ev
  case h_2 => cases ev
  rename_i i mi S1 h1
  split at ev
  case h_2 => cases ev
  rename_i xs n ys m hx hy
  split at ev
  case h_2 => cases ev
  rename_i k hk
  split at ev
  case h_2 => cases ev
  rename_i d hd
  split at ev
  case isFalse => cases ev
  rename_i hc
  cases ev
  simp only [Bool.and_eq_true, decide_eq_true_eq] at hc
  obtain ⟨⟨⟨hn, hxy⟩, hlen⟩, hi⟩ := hc
  obtain ⟨v0, e0, a0, us0, B0, rfl, hH0, _⟩ := s.sl x _ hx
  obtain ⟨v1, e1, a1, us1, B1, rfl, hH1, _⟩ := s.sl y _ hy
  have h2 : consE ea nilE r S = some ([.dat (.int i) mi], S1) := by
    unfold consE nilE
    rw [h1]
  refine ⟨.ref a0, e0, .inl ⟨rfl, us0, SqL.of hH0⟩, .ref a1, e1, .inl ⟨rfl, us1, SqL.of hH1⟩, s.evs h2 rfl fun vs H' g' A o t => ?_⟩
  obtain ⟨v, rr, C, C', rfl, rfl, o1, rfl, rfl⟩ := o
  obtain ⟨rfl, hv⟩ : C = [] ∧ v = .int i := o1
  obtain ⟨w1, f1, b1, vs1, D1, rfl, hb1, eA1, ow1⟩ := t.sl.sl y _ hy
  cases e1.symm.trans f1
  have hl1 := ow1.length
  obtain ⟨u, E1, hu, ou, _⟩ := ow1.at hd
  have ou := own_atom' (nol_isL hn) ou
  have fy := t.sl.fre y
  rw [eA1] at fy
  have ndy := List.nodup_cons.mp fy.1
  obtain ⟨B', o', sub⟩ := Owns.erase k ow1
  have hs := ixN_seq (show ixN vs1.length i = some k by rw [hl1]; exact hk)
  refine ⟨a1, vs1, i, k, u, rfl, by rw [hv], hb1, hi.1, hi.2, hs.1, hu, ?_⟩
  have s2 := t.sl.rew hy f1 hb1 eA1 sub (Owns.mono (fun _ _ q => q) _ m _ B' o' fun b hb o q => by
    rw [upd_ne fun z : b = a1 => ndy.1 (by rw [← z]; exact sub.subset hb)]
    exact q)
  have hx2 : (r.set y (some (.dat (.list (ys.eraseIdx k)) (m + 1))))[x]? = some (some (.dat (.list xs) (n + 1))) := by
    rw [List.getElem?_set_ne (Ne.symm hxy)]
    exact hx
  have af : Aft K g0 H0 g' g' _ S1 _ _ σ [] := ⟨s2, Fre.nil, fun _ _ z => (by cases z), fun _ _ q => q⟩
  obtain ⟨a, us, e2, e3, e4, g2, As2, s3, le2⟩ := SL.grow (vs := [u]) (ds := [d]) af hx2 (.inl ⟨by simp [nolAll, hn], DRs.one ou.2⟩)
  cases e0.symm.trans e2
  refine ⟨a0, us, u, rfl, rfl, e3, ?_, q _ _ ⟨g2, As2, ?_, (fl.trans t.le).trans le2⟩⟩
  · rw [e4]
    exact Nat.lt_of_lt_of_le hlen (by decide)
  · have en : nolAll [d] = true := by simp [nolAll, hn]
    rw [if_pos en] at s3
    exact s3
def clrE (x : Nat) (i : Int) : Rho → Sto → Option R := fun r S => match r[x]? with
      | some (some (.dat (.list xs) (n + 2))) => match ixD xs.length i with
        | some k => match xs[k]? with
          | some (.list _) => some (.nx (r.set x (some (.dat (.list (xs.set k (.list []))) (n + 2)))) S)
          | _ => none
        | none => none
      | _ => none
/-- the list at place k of an owned list is emptied -/
theorem Owns.clear {b : Addr} : ∀ {ds : List MP.D} {vs : List V} {B : List Addr} {k : Nat} {zs : List MP.D}, Owns K F H vs ds (n + 1) B → B.Nodup → ds[k]? = some (.list zs) → vs[k]? = some (.ref b) → ∃ B', Owns K F (L2.upd H b (.lst [])) vs (ds.set k (.list [])) (n + 1) B' ∧ B'.Sublist B ∧ b ∈ B ∧ ∃ us, H b = some (.lst us)
  | [], _, _, _, _, _, _, h, _ => by simp at h
  | _ :: ds, _, _, 0, zs, ⟨w, r, B1, C, e, eA, q, t⟩, nd, h, hv => by
    cases h
    subst e
    cases hv
    obtain ⟨a, us, B2, ea, hH, eB, o⟩ := q
    cases ea
    subst eA
    subst eB
    have nc : b ∉ C := fun z => (List.nodup_append.mp nd).2.2 b (by simp) b z rfl
    refine ⟨[b] ++ C, ⟨_, r, [b], C, rfl, rfl, ⟨b, [], [], rfl, upd_same, rfl, rfl, rfl⟩, Owns.mono (fun _ _ q => q) ds (n + 1) r C t fun a ha o q => ?_⟩, ?_, by simp, us, hH⟩
    · rw [upd_ne fun z : a = b => nc (by rw [← z]; exact ha)]
      exact q
    · exact List.Sublist.append (List.Sublist.cons₂ b (List.nil_sublist _)) (List.Sublist.refl _)
  | d :: _, _, _, k + 1, zs, ⟨w, r, B1, C, e, eA, q, t⟩, nd, h, hv => by
    subst e
    subst eA
    have nd' := List.nodup_append.mp nd
    obtain ⟨B', o', sub, hb, us, hu⟩ := Owns.clear (k := k) (b := b) t nd'.2.1 (by simpa using h) (by simpa using hv)
    refine ⟨B1 ++ B', ⟨w, r, B1, B', rfl, rfl, Own.mono (fun _ _ q => q) d (n + 1) w B1 q fun a ha o q => ?_, o'⟩, (List.Sublist.refl _).append sub, by simp [hb], us, hu⟩
    rw [upd_ne fun z => nd'.2.2 a ha b hb z]
    exact q
theorem clr_imp {x : Nat} {i : Int} (h : tS K (clrE x i) D σ H) : tDrop (tBM0 K "list" rClear (tOp (rIxL K) (tVar x) (tC (.int i)))) D σ H := by
  obtain ⟨g0, H0, F, S, r, R, ⟨g, As, s, fl⟩, ev, q⟩ := h
  unfold clrE at ev
  split at ev
  case h_2 => cases ev
  rename_i xs n hx
  split at ev
  case h_2 => cases ev
  rename_i k hk
  split at ev
  case h_2 => cases ev
  rename_i zs hz
  cases ev
  obtain ⟨v0, e0, a, us, B, rfl, hH, eA, ow⟩ := s.sl x _ hx
  have hl := ow.length
  have fx := s.fre x
  rw [eA] at fx
  have ndx := List.nodup_cons.mp fx.1
  obtain ⟨v, C, hv, ov, _⟩ := ow.at hz
  obtain ⟨b, us2, B2, rfl, hb, _, _⟩ := ov
  obtain ⟨B', o', sub, hbB, us3, hb3⟩ := ow.clear ndx.2 hz hv
  have hix : atI us i = some (.ref b) := by
    unfold atI
    rw [show ixN us.length i = some k by rw [hl]; exact hk]
    exact hv
  have hab : a ≠ b := fun z => ndx.1 (z ▸ hbB)
  refine ⟨.ref a, e0, a, us, i, .ref b, rfl, rfl, SqL.of hH, hix, .inl ⟨rfl, us2, SqL.of hb⟩, b, us2, rfl, rfl, hb, q _ _ ⟨g, setA As x (a :: B'), ?_, fl⟩⟩
  have subc : (a :: B').Sublist (a :: B) := sub.cons₂ a
  obtain ⟨c0, c1, c2⟩ := fx.2 b (by simp [hbB])
  refine s.chg hx e0 (s.go.upd hb c0 c1 c2) (fun _ _ q => q) rfl (fun i b' _ hb' => ((s.fre i).2 b' hb').2.1) (fun i b' hi hb' => upd_ne fun z => s.dj i x b' hi hb' (by rw [z, eA]; simp [hbB])) (A' := a :: B') ⟨a, us, B', rfl, by rw [upd_ne hab]; exact hH, rfl, o'⟩ ⟨subc.nodup fx.1, fun b' hb' => fx.2 b' (subc.subset hb')⟩ fun i b' hi hb' z => s.dj i x b' hi z (by rw [eA]; exact subc.subset hb')
end MP
end

section
set_option maxRecDepth 100000
/-! MpS3: loops. -/
namespace MP
open PySem L2

variable {X : Cx} {K : PySem.W.Frag} {g g0 g1 g2 g' : Gho} {H H0 H1 H2 H' : Hp} {v : V} {vs us : List V} {w w' : W} {ws : List W} {A A' B : List Addr} {S S' S1 S2 : Sto} {r r1 r2 r' : Rho} {σ σ' : L2.St} {d : D} {ds xs : List D} {As : Nat → List Addr} {F F' : Hp} {D : Ends}
  {e i : Expr} {ea eb ei : Ev} {eas eits : Evs} {pos p apos : Pos} {n : Nat} {tgs : List Nat} {one : Bool} {k : Ik} {R : MP.R}

theorem setAll_sl {Q : L2.St → Hp → Prop} : ∀ {tg : List Nat} {ds : List MP.D} {vs : List V} {r r1 : Rho} {σ : L2.St} {As : Nat → List Addr}, setAll tg ds r = some r1 → DRs K g.fz vs ds → SL K g0 H0 g As S H r σ →
    (∀ σ' As', SL K g0 H0 g As' S H r1 σ' → Q σ' H) → gNames tg vs σ H Q
  | [], [], vs, r, r1, σ, As, h, q, s, k => by
    cases h
    exact ⟨q, k σ As s⟩
  | i :: is, d :: ds, _, r, r1, σ, As, h, ⟨v, rs, e, q, t⟩, s, k => by
    obtain ⟨As', s', _⟩ := s.put (i := i) (w := .dat d 0) (A := []) (own0.mpr ⟨rfl, q⟩) Fre.nil fun _ _ z => by cases z
    exact ⟨v, rs, e, setAll_sl (tg := is) h t s' k⟩
  | [], _ :: _, _, _, _, _, _, h, _, _, _ => by cases h
  | _ :: _, [], _, _, _, _, _, h, _, _, _ => by cases h
theorem bind_sl {Q : L2.St → Hp → Prop} (h : bindT tgs one d r = some r1) (s : SL K g0 H0 g As S H r σ) (y : Yd K g d H v H')
    (k : ∀ g' σ' As', SL K g0 H0 g' As' S H' r1 σ' → Same g.fz g'.fz → Q σ' H') : tgR K tgs one v σ H' Q := by
  unfold bindT at h
  unfold tgR
  cases one with
  | true =>
    rw [if_pos rfl] at h ⊢
    cases tgs with
    | nil => cases h
    | cons i is =>
      cases is with
      | cons _ _ => cases h
      | nil =>
        cases h
        show Q (σ.set i (some v)) H'
        rcases y with ⟨e, q⟩ | ⟨T, vs, ds, e1, hT, e, e2, q⟩
        · rw [e] at k ⊢
          obtain ⟨As', s', _⟩ := s.put (i := i) (w := .dat d 0) (A := []) (own0.mpr ⟨rfl, q⟩) Fre.nil fun _ _ z => by cases z
          exact k g _ As' s' fun _ _ q => q
        · have a := (Go.refl s.go.ok).newF (o := .tup vs) hT
          rw [e] at k ⊢
          have q2 : DR K (upd g.fz T (.tup vs)) v d := by
            rw [e1, e2]
            exact ⟨T, vs, rfl, .inl (.inl upd_same), DRs.mono a.le ds vs q⟩
          obtain ⟨As', s', _⟩ := (s.step a).put (i := i) (w := .dat d 0) (A := []) (own0.mpr ⟨rfl, q2⟩) Fre.nil fun _ _ z => by cases z
          exact k _ _ As' s' a.le
  | false =>
    rw [if_neg (by decide)] at h ⊢
    cases d <;> first | (cases h; done) | skip
    rename_i ds
    have h : setAll tgs ds r = some r1 := h
    rcases y with ⟨e, p, xs, e1, t, q⟩ | ⟨T, vs, ds', e1, hT, e, e2, q⟩
    · rw [e] at k ⊢
      exact ⟨p, xs, e1, s.go.ok.tup t, by rw [q.length]; exact (setAll_len h).symm, setAll_sl h q s fun σ' As' s' => k g σ' As' s' fun _ _ q => q⟩
    · cases e2
      have a := (Go.refl s.go.ok).new (o := .tup vs) hT
      rw [e] at k ⊢
      exact ⟨T, vs, e1, .inl (.inl upd_same), by rw [q.length]; exact (setAll_len h).symm, setAll_sl h q (s.step a) fun σ' As' s' => k g σ' As' s' fun _ _ q => q⟩

theorem St.floor (h : St K g0 H0 F' S H r σ) (s : Same F F') : St K g0 H0 F S H r σ := let ⟨g, As, a, b⟩ := h; ⟨g, As, a, s.trans b⟩
/-- the end of a statement -/
def Fin (K : PySem.W.Frag) (g0 : Gho) (H0 F : Hp) (D : Ends) : MP.R → Prop
  | .nx r' S' => ∀ σ' H', St K g0 H0 F S' H' r' σ' → D.nx σ' H'
  | .bk r' S' => ∀ σ' H', St K g0 H0 F S' H' r' σ' → D.bk σ' H'
  | .ct r' S' => ∀ σ' H', St K g0 H0 F S' H' r' σ' → D.ct σ' H'
  | .rt w S' => ∀ v H', Rz K g0 H0 w S' v H' → D.rt v H'
theorem tS_of {x : Rho → Sto → Option MP.R} (s : St K g0 H0 F S H r σ) (e : x r S = some R) (f : Fin K g0 H0 F D R) : tS K x D σ H := ⟨g0, H0, F, S, r, R, s, e, by cases R <;> exact f⟩
theorem of_tS {x : Rho → Sto → Option MP.R} (h : tS K x D σ H) : ∃ g0 H0 F S r R, St K g0 H0 F S H r σ ∧ x r S = some R ∧ Fin K g0 H0 F D R := by
  obtain ⟨g0, H0, F, S, r, R, a, b, c⟩ := h
  exact ⟨g0, H0, F, S, r, R, a, b, by cases R <;> exact c⟩
variable {xb : Rho → Sto → Option MP.R}
theorem for_run {J : It} (wk : Wk K g1 J xs) (st : St K g0 H0 g1.fz S H r σ) (hf : Same F g1.fz) (hgo : forGo tgs one xb xs r S = some R) (fin : Fin K g0 H0 F D R) :
    ∃ W : Nat → Nat → L2.St → Hp → Prop, (∃ m, W 0 m σ H) ∧ ∀ i m σ H, W i m σ H →
      (J.stop i H ∧ D.nx σ H) ∨ (J.go i H ∧ ∃ N : L2.St → Hp → Prop, (∀ σ' H', N σ' H' → ∃ m', m' < m ∧ W (i + 1) m' σ' H') ∧ ∀ x H', J.yld i H x H' → tgR K tgs one x σ H' fun σ2 H2 => tS K xb { D with nx := N, ct := N, bk := D.nx } σ2 H2) := by
  obtain ⟨n, G, Y, hn, w, hG, hY⟩ := wk.ex
  refine for_it w (fun i σ H => ∃ r S, St K g0 H0 g1.fz S H r σ ∧ forGo tgs one xb (xs.drop i) r S = some R) ⟨r, S, st, hgo⟩ (fun i σ H _ ⟨r, S, ⟨g, As, s, fl⟩, _⟩ => hG H (fl.trans s.go.ok.sub)) (fun i x σ H H' hi ⟨r, S, ⟨g, As, s, fl⟩, hgo⟩ y => ?_) fun σ H ⟨r, S, st, hgo⟩ => ?_
  · have hi' : i < xs.length := by omega
    have y2 := hY i H x H' xs[i] (List.getElem?_eq_getElem hi') (fl.trans s.go.ok.sub) y
    have y3 : Yd K g xs[i] H x H' := by
      rcases y2 with ⟨a1, a2⟩ | ⟨T, vs, dd, a1, a2, a3, a4, a5⟩
      · exact .inl ⟨a1, DR.mono fl _ _ a2⟩
      · exact .inr ⟨T, vs, dd, a1, a2, a3, a4, DRs.mono fl _ _ a5⟩
    rw [List.drop_eq_getElem_cons hi'] at hgo
    unfold forGo at hgo
    split at hgo
    case h_1 => cases hgo
    rename_i r1 hb
    refine bind_sl hb s y3 fun g' σ' As' s' le => ?_
    have st' : St K g0 H0 g1.fz S H' r1 σ' := ⟨g', As', s', fl.trans le⟩
    split at hgo
    · rename_i r2 S2 hx
      exact tS_of st' hx fun σ2 H2 s2 => ⟨r2, S2, s2, hgo⟩
    · rename_i r2 S2 hx
      exact tS_of st' hx fun σ2 H2 s2 => ⟨r2, S2, s2, hgo⟩
    · rename_i r2 S2 hx
      cases hgo
      exact tS_of st' hx fun σ2 H2 s2 => fin _ _ (s2.floor hf)
    · rename_i w2 S2 hx
      cases hgo
      exact tS_of st' hx fun v2 H2 z => fin _ _ z
    · cases hgo
  · rw [hn, List.drop_length] at hgo
    cases hgo
    exact fin _ _ (st.floor hf)
theorem nl_strip (p : g2.phi = g1.phi) (kt : KeepT g1.fz g2.fz) : ∀ {w : W} {v : V}, w.nl = true → VW K g1 v w → VW K g2 v w
  | .dat d m, v, n, h => DR.strip kt d v n h
  | .loc l, v, _, ⟨a, e, q⟩ => ⟨a, e, by rw [p]; exact q⟩
  | .rng _ _, v, _, ⟨a, e, q⟩ => ⟨a, e, kt _ _ q fun _ z => nomatch z⟩
  | .scr _, v, _, ⟨a, e, q⟩ => ⟨a, e, by
    rcases q with ⟨o, q⟩ | q
    · exact .inl ⟨o, kt _ _ q fun _ z => nomatch z⟩
    · exact .inr q⟩
theorem nls_strip (p : g2.phi = g1.phi) (kt : KeepT g1.fz g2.fz) : ∀ {ws : List W} {vs : List V}, ws.all W.nl = true → VWs K g1 vs ws → VWs K g2 vs ws
  | [], _, _, h => h
  | w :: ws, _, n, ⟨v, r, e, q, t⟩ =>
    have n' : w.nl = true ∧ ws.all W.nl = true := by simpa using n
    ⟨v, r, e, nl_strip p kt n'.1 q, nls_strip p kt n'.2 t⟩

def loopE (tg : List Nat) (one : Bool) (k : Ik) (eits : Evs) (xb : Rho → Sto → Option MP.R) : Rho → Sto → Option MP.R := fun r S => match eits r S with
      | some (ws, S1) => match items k ws with
        | some xs => if xs.length ≤ LIM then forGo tg one xb xs (useAll ws r) S1 else none
        | none => none
      | none => none
theorem loop_imp (h : tS K (loopE tgs one k eits xb) D σ H) : tFor (tI K k eits) (tgR K tgs one) (tS K xb) D σ H := by
  obtain ⟨g0, H0, F, S, r, R, ⟨g, As, s, fl⟩, ev, fin⟩ := of_tS h
  unfold loopE at ev
  split at ev
  case h_2 => cases ev
  rename_i ws S1 h1
  split at ev
  case h_2 => cases ev
  rename_i xs h2
  split at ev
  case isFalse => cases ev
  refine ⟨_, r, S, ws, S1, xs, s.borG.ok, s.env, h1, h2, fun J H1 g1 vs a o wk => ?_⟩
  unfold useAll at ev
  split at ev
  · rename_i hk
    obtain ⟨g3, a3, kt, p, t⟩ := s.hold a Fre.nil
    exact for_run (g1 := g3) (wk g3 (nls_strip p kt hk o)) ⟨g3, As, t.sl, fun _ _ q => q⟩ (fl.trans t.le) ev fin
  · have z := s.zero a
    exact for_run (g1 := g1) (wk g1 o) ⟨g1, _, z, fun _ _ q => q⟩ (fl.trans (s.leB.trans a.le)) ev fin
def varE (i : Nat) : Ev := fun r S => match r[i]? with
    | some (some w) => some (w.fz, S)
    | _ => none
def loopVE (tg : List Nat) (one : Bool) (k : Ik) (j : Nat) (xb : Rho → Sto → Option MP.R) : Rho → Sto → Option MP.R := fun r S => match r[j]? with
      | some (some w) => match items k [w.fz] with
        | some xs => if xs.length ≤ LIM then forGo tg one xb xs (r.set j (some w.fz)) S else none
        | none => none
      | _ => none
theorem fz_idem (w : W) : w.fz.fz = w.fz := by cases w <;> rfl
theorem loopV_imp {j : Nat} (h : tS K (loopVE tgs one k j xb) D σ H) : tFor (tI K k (consE (varE j) nilE)) (tgR K tgs one) (tS K xb) D σ H := by
  obtain ⟨g0, H0, F, S, r, R, ⟨g, As, s, fl⟩, ev, fin⟩ := of_tS h
  unfold loopVE at ev
  split at ev
  case h_2 => cases ev
  rename_i w h1
  split at ev
  case h_2 => cases ev
  rename_i xs h2
  split at ev
  case isFalse => cases ev
  obtain ⟨g', v, As', e1, s', vw, sm⟩ := s.fz1 h1
  have hj : j < r.length := (List.getElem?_eq_some_iff.mp h1).1
  let r0 : Rho := (List.replicate r.length none).set j (some w.fz)
  have g0j : r0[j]? = some (some w.fz) := List.getElem?_set_self (by simpa using hj)
  have env : EnvF K g' r0 σ := fun i u hu => by
    by_cases e : i = j
    · subst e
      rw [g0j] at hu
      cases hu
      exact ⟨v, e1, vw.fz⟩
    · have hu : ((List.replicate r.length none).set j (some w.fz))[i]? = some (some u) := hu
      rw [List.getElem?_set_ne (Ne.symm e), List.getElem?_replicate] at hu
      split at hu <;> cases hu
  have hev : consE (varE j) nilE r0 S = some ([w.fz], S) := by
    unfold consE nilE varE
    rw [g0j]
    show some ([w.fz.fz], S) = _
    rw [fz_idem]
  refine ⟨g', r0, S, [w.fz], S, xs, s'.go.ok, env, hev, h2, fun J H1 g1 vs a o wk => ?_⟩
  exact for_run (g1 := g1) (wk g1 o) ⟨g1, As', s'.step a, fun _ _ q => q⟩ (fl.trans (sm.trans a.le)) ev fin
end MP
end

section
set_option maxRecDepth 100000
/-! MpC1: the evaluator's clauses by name; contexts. -/
namespace MP
open PySem L2

section
variable {F : Fns} {G : Str → Option D} {a b c i : E} {es its ifs kes : List E}
theorem ev_bin {o : Bop} : evE F G (.bin o a b) = binE o (evE F G a) (evE F G b) := by
  funext r S
  simp only [evE] <;> rfl
theorem ev_neg : evE F G (.neg a) = negE (evE F G a) := by
  funext r S
  simp only [evE] <;> rfl
theorem ev_cmp {o : Cop} : evE F G (.cmp o a b) = cmpE o (evE F G a) (evE F G b) := by
  funext r S
  simp only [evE] <;> rfl
theorem ev_chain {o o' : Cop} : evE F G (.chain o o' a b c) = chainE o o' (evE F G a) (evE F G b) (evE F G c) := by
  funext r S
  simp only [evE] <;> rfl
theorem ev_isN : evE F G (.isN a) = isNE (evE F G a) := by
  funext r S
  simp only [evE] <;> rfl
theorem ev_notN : evE F G (.notN a) = notNE (evE F G a) := by
  funext r S
  simp only [evE] <;> rfl
theorem ev_notB {x : Bool} : evE F G (.notB a x) = notBE (evE F G a) x := by
  funext r S
  simp only [evE] <;> rfl
theorem ev_and : evE F G (.and a b) = andE (evE F G a) (evE F G b) := by
  funext r S
  simp only [evE] <;> rfl
theorem ev_or : evE F G (.or a b) = orE (evE F G a) (evE F G b) := by
  funext r S
  simp only [evE] <;> rfl
theorem ev_not : evE F G (.not a) = notE (evE F G a) := by
  funext r S
  simp only [evE] <;> rfl
theorem ev_ite : evE F G (.ite c a b) = iteE (evE F G c) (evE F G a) (evE F G b) := by
  funext r S
  simp only [evE] <;> rfl
theorem ev_tup : evE F G (.tup es) = tupE (evEs F G es) := by
  funext r S
  simp only [evE] <;> rfl
theorem ev_lst : evE F G (.lst es) = lstE (evEs F G es) := by
  funext r S
  simp only [evE] <;> rfl
theorem ev_idx : evE F G (.idx a i) = idxE (evE F G a) (evE F G i) := by
  funext r S
  simp only [evE] <;> rfl
theorem ev_slL : evE F G (.slL a i) = slLE (evE F G a) (evE F G i) := by
  funext r S
  simp only [evE] <;> rfl
theorem ev_slH : evE F G (.slH a i) = slHE (evE F G a) (evE F G i) := by
  funext r S
  simp only [evE] <;> rfl
theorem ev_call {f : Str} : evE F G (.call f es) = callE F f (evEs F G es) := by
  funext r S
  simp only [evE] <;> rfl
theorem ev_callK {f : Str} {ks : List Str} : evE F G (.callK f es ks kes) = callKE F f (evEs F G es) ks (evEs F G kes) := by
  funext r S
  simp only [evE] <;> rfl
theorem ev_bi {o : Bi} : evE F G (.bi o es) = biE o (evEs F G es) := by
  funext r S
  simp only [evE] <;> rfl
theorem ev_isi {t : Ty} : evE F G (.isi a t) = isiE (evE F G a) t := by
  funext r S
  simp only [evE] <;> rfl
theorem ev_isi2 {t u : Ty} : evE F G (.isi2 a t u) = isi2E (evE F G a) t u := by
  funext r S
  simp only [evE] <;> rfl
theorem ev_comp {tg : List Nat} {one : Bool} {k : Ik} : evE F G (.comp a tg one k its ifs) = compE (evE F G a) (evTs F G ifs) tg one k (evEs F G its) := by
  funext r S
  simp only [evE] <;> rfl
theorem ev_comp2 {x y : Nat} : evE F G (.comp2 a x b y c ifs) = comp2E (evE F G a) (evTs F G ifs) x y (evE F G b) (evE F G c) := by
  funext r S
  simp only [evE] <;> rfl
theorem ev_v {x : Nat} : evE F G (.v x) = varE x := by
  funext r S
  simp only [evE] <;> rfl
theorem evs_nil : evEs F G [] = nilE := by
  funext r S
  simp only [evEs] <;> rfl
theorem evs_cons : evEs F G (a :: es) = consE (evE F G a) (evEs F G es) := by
  funext r S
  simp only [evEs] <;> rfl
theorem evt_nil : evTs F G [] = ts0 := by
  funext r S
  simp only [evTs] <;> rfl
theorem evt_one : evTs F G [a] = ts1 (evE F G a) := by
  funext r S
  simp only [evTs, ts1, List.isEmpty_nil, if_true] <;> rfl
end

/-- a frame: the slots' names, the scope, the names stored as cells -/
structure Fm where
  N : List Str
  sc : Scope
  own : Str → Bool

def ixOf (x : Str) : List Str → Option Nat
  | [] => none
  | y :: ys => if y == x then some 0 else (ixOf x ys).map (· + 1)
theorem ixOf_get {x : Str} : ∀ {N : List Str} {i : Nat}, ixOf x N = some i → N[i]? = some x
  | [], _, h => by cases h
  | y :: ys, i, h => by
    unfold ixOf at h
    split at h
    · rename_i e
      cases h
      have e : y = x := by simpa using e
      rw [e]
      rfl
    · obtain ⟨j, h1, h2⟩ := Option.map_eq_some_iff.mp h
      subst h2
      simpa using ixOf_get h1

def biNames : List Str := ["len", "abs", "max", "min", "all", "any", "int", "repr", "list", "tuple", "sorted", "divmod", "range", "enumerate", "zip", "set", "isinstance", "bool", "str"]

structure XO (X : Cx) (tab : Str → Option Fn) (G : Str → Option D) (k : Nat) (fm : Fm) : Prop where
  hN : X.N = fm.N
  nd : fm.N.Nodup
  sc : X.env.scope = fm.sc
  kd : fm.sc.kind = .function
  calm : X.calm = true
  rm : Rm k X.A
  kn : Known X tab G k
  bi : ∀ x ∈ biNames, X.mg x = none
  gv : ∀ x d, G x = some d → ∃ v u, X.mg x = some u ∧ RelV v u ∧ DR X.K (fun _ => none) v d
  no : X.xe = fun _ _ => False
  fn : ∀ x, fm.own x = true → X.fn x = true

def vis (fm : Fm) (x : Str) : Bool := match fm.sc.names.lookup x with
  | some .local => true
  | some .cell => true
  | some .free => true
  | _ => false
def glb (fm : Fm) (x : Str) : Bool := fm.sc.names.lookup x == some .globalImplicit
def dbg (x : Str) : Bool := x == ("__debug__" : Str) || x == ("__classdict__" : Str) || x == ("__name__" : Str)
/-- a name that may be stored -/
def sto (fm : Fm) (x : Str) : Bool := match fm.sc.names.lookup x with
  | some .local => true
  | some .cell => fm.own x
  | _ => false

variable {X : Cx} {tab : Str → Option Fn} {G : Str → Option D} {k : Nat} {fm : Fm} {x : Str}
theorem vis_ok (h : XO X tab G k fm) (hv : vis fm x = true) : Vis X.env.scope x := by
  rw [h.sc]
  unfold vis at hv
  split at hv
  · exact .inl (by assumption)
  · exact .inr (.inl (by assumption))
  · exact .inr (.inr (by assumption))
  · cases hv
theorem glb_ok (h : XO X tab G k fm) (hv : glb fm x = true) : Gl X x := by
  have e : fm.sc.names.lookup x = some .globalImplicit := by
    unfold glb at hv
    simpa using hv
  rw [← h.sc] at e
  exact e
theorem sto_ok (h : XO X tab G k fm) (hv : sto fm x = true) : Loc X.env.scope x ∧ (X.fn x = true ∨ X.env.scope.names.lookup x = some .local) := by
  rw [h.sc]
  unfold sto at hv
  split at hv
  · rename_i e
    exact ⟨.inl e, .inr e⟩
  · rename_i e
    exact ⟨.inr e, .inl (h.fn x hv)⟩
  · cases hv

/-- a comprehension's frame -/
def Fm.blk (fm : Fm) (scope : Scope) : Fm := ⟨fm.N, relS scope fm.sc, fun x => scope.names.lookup x == some .cell⟩
theorem XO.blk (h : XO X tab G k fm) {scope : Scope} (hk : scope.kind = .function) (s : Shared) (H : Hp) (C : Addr) (cl : List (Str × Addr)) (fp : List Addr) : XO (X.blk s H scope (compEnvC scope cl C X.env) fp) tab G k (fm.blk scope) where
  hN := h.hN
  nd := h.nd
  sc := by
    show relS scope X.env.scope = relS scope fm.sc
    rw [h.sc]
  kd := hk
  calm := h.calm
  rm := h.rm
  kn := ⟨h.kn.fn⟩
  bi := h.bi
  gv := h.gv
  no := rfl
  fn := fun x hx => hx
def blkOk (fm : Fm) (scope : Scope) (own : List (Str × Nat)) : Bool :=
  scope.kind == .function && scope.names.all (fun y => scope.names.lookup y.1 == some y.2) && own.all (fun p => fm.N[p.2]? == some p.1) &&
  scope.names.all (fun y => !(y.2 == .free) || (fm.sc.names.lookup y.1 == some .cell || fm.sc.names.lookup y.1 == some .free)) &&
  scope.names.all (fun y => !(y.2 == .local || y.2 == .cell) || (own.any (fun p => p.1 == y.1) || !fm.N.contains y.1))
theorem blkOk_ok (h : XO X tab G k fm) {scope : Scope} {own : List (Str × Nat)} (hb : blkOk fm scope own = true) : BlkOk X.N X.env.scope scope own := by
  unfold blkOk at hb
  simp only [Bool.and_eq_true, List.all_eq_true] at hb
  obtain ⟨⟨⟨⟨h1, h2⟩, h3⟩, h4⟩, h5⟩ := hb
  refine ⟨by simpa using h1, fun y hy => by simpa using h2 y hy, fun p hp => by
    rw [h.hN]
    simpa using h3 p hp, fun y hy e => ?_, fun y hy e => ?_⟩
  · rw [h.sc]
    have := h4 y hy
    rw [e] at this
    simpa using this
  · have := h5 y hy
    rw [h.hN]
    rcases e with e | e <;> rw [e] at this
    · simp only [List.mem_map]
      simpa using this
    · simp only [List.mem_map]
      simpa using this
end MP
end

section
set_option maxRecDepth 100000
/-! MpC2: the text's expressions told in the small language; calls, lists of arguments. -/
namespace MP
open PySem L2

variable {X : Cx} {tab : Str → Option Fn} {G : Str → Option D} {k : Nat} {fm : Fm} {f x : Str} {e a b c : Expr} {es : List Expr} {ea eb : Ev} {eas ebs : Evs} {pos p : Pos}

theorem p_callK0 {kws : List Keyword} {ks : List Str} (C : Known X tab G k) (rm : Rm k X.A) (hg : Gl X f) (hkw : PKw X kws ks ebs) :
    PE X (.Call (.Name f p) [] kws pos) (tE X.K (callKE (FT tab G k) f nilE ks ebs)) := by
  refine ⟨fun pins s σ H Q I h => ?_⟩
  obtain ⟨g, r, S, w, S', ok, en, ev, q⟩ := h
  unfold callKE nilE at ev
  dsimp only at ev
  split at ev
  case h_2 => cases ev
  rename_i kw S2 h2
  cases k with
  | zero => cases ev
  | succ j =>
    unfold FT at ev
    split at ev
    case h_2 => cases ev
    rename_i fn hfn
    split at ev
    case isFalse => cases ev
    rename_i hsh
    split at ev
    case h_2 => cases ev
    rename_i us hus
    obtain ⟨addr, fd, hm, hk, bd, hdb, hF⟩ := C.fn f fn hfn
    have hF := hF j rfl
    obtain ⟨dv, du, d1, d2, d3⟩ := bd.dflt
    refine wpAny_Call_Name_kw (ld_glob I hg hm ?_ hdb)
    have key : tA X.K ebs σ H fun zs H2 => ∃ g2, Go X.K g H g2 S2 H2 ∧ VWs X.K g2 zs kw := ⟨g, r, S, kw, S2, ok, en, h2, fun zs H2 z2 => by
      obtain ⟨g2, b, o2⟩ := z2.fz
      exact ⟨g2, b, o2⟩⟩
    refine PySem.W.callWith_KW0 (h₀ := X.base) I.ok.mod.kin hk (hkw.all pos) ?_ (by rw [hkw.no pos]; rfl)
    refine thn (hkw.pk.run pos pins s σ H _ I key) fun ku s2 ⟨zs, H2, I2, rz, q2⟩ => ⟨I2.kIn, ?_⟩
    rw [hkw.nm pos]
    obtain ⟨g2, a, o2⟩ := q2
    obtain ⟨vf, full, b1, b2, b3⟩ := arr_kw (H := H2) (fn := fn) (ws := []) (vs := []) (uv := []) (g := g2) rfl o2 d1 d2 .nil rz hus
    have lkw := hkw.len _ _ _ _ h2
    have hks : ((ks.zip (kw.map W.fz)).map (·.1)) = ks := List.map_fst_zip (by rw [List.length_map]; omega)
    rw [hks, List.map_nil] at hsh
    have lk : ku.length = ks.length := by rw [← rz.length, o2.length, lkw]
    exact run_g hF rm (d3 _ (sh_of hsh) s2 [] ku full I2.kIn rfl lk b1) I2 b2 ⟨g, H, g2, S2, us, [], w, S', a, b3, Fre.nil, ev, q⟩

/-! ### no star, no slice, no set -/
def nst : Expr → Bool
  | .Starred _ _ => false
  | _ => true
def nset : Expr → Bool
  | .Set _ _ _ => false
  | _ => true
def nsli : Expr → Bool
  | .Slice _ _ _ _ => false
  | _ => true
theorem star_cons (h : nst e = true) {env : Env} : starEach (e :: es) env = (false, eval e env) :: starEach es env := by
  cases e <;> first | rfl | cases h
theorem star_plain {env : Env} : ∀ {es : List Expr}, es.all nst = true → (backTo pos (starEach es env)).any (·.1) = false
  | [], _ => rfl
  | e :: es, h => by
    have h' : nst e = true ∧ es.all nst = true := by simpa using h
    rw [star_cons h'.1]
    show (false || (backTo pos (starEach es env)).any (·.1)) = false
    rw [star_plain h'.2]
    rfl
theorem noset_marks {op : CmpOp} (h : nset b = true) : behindInMarks op b = false := by
  cases b <;> first | rfl | cases h
theorem noset_last {o o' : CmpOp} (h : nset c = true) : lastMarks [o, o'] [b, c] = false := by
  cases c <;> first | rfl | cases h
theorem nsli_plain (h : nsli b = true) : PlainIx b := by
  cases b <;> first | exact fun _ _ => rfl | cases h
theorem nset_fold (h : nset b = true) {env : Env} (x : Value) : foldedSetIterable b env x = pure x := by
  cases b <;> first | rfl | cases h
theorem p_stuck : PE X e (tE X.K (evE (FT tab G k) G .stuck)) := ⟨fun pins s σ H Q I ⟨g, r, S, w, S', ok, en, ev, q⟩ => by
  simp [evE] at ev⟩
theorem p_stuckT : PT X e (tT X.K (evE (FT tab G k) G .stuck)) := ⟨fun pins s σ H Q I ⟨g, r, S, b, m, S', ok, en, ev, q⟩ => by
  simp [evE] at ev⟩
end MP
end

section
set_option maxRecDepth 100000
/-! MpC3: from the text's expressions to the small language, with proof. -/
namespace MP
open PySem L2

/-! ### tables -/
def bopOf : Operator → Option Bop
  | .Add => some .add
  | .Sub => some .sub
  | .Mult => some .mul
  | .FloorDiv => some .fdiv
  | .Mod => some .mod
  | .Pow => some .pow
  | _ => none
theorem bopOf_ok {o : Operator} {o' : Bop} (h : bopOf o = some o') : o = opOf o' := by
  cases o <;> cases h <;> rfl
def copR : CmpOp → Option Cop
  | .Eq => some .eq
  | .NotEq => some .ne
  | .Lt => some .lt
  | .LtE => some .le
  | .Gt => some .gt
  | .GtE => some .ge
  | .In => some .isin
  | .NotIn => some .notin
  | _ => none
theorem copR_ok {o : CmpOp} {o' : Cop} (h : copR o = some o') : o = copOf o' := by
  cases o <;> cases h <;> rfl
def tyTab : List (Str × Ty) := [("int", .int), ("bool", .bool), ("str", .str), ("tuple", .tuple), ("list", .list)]
theorem lookup_mem {α : Type} {x : Str} {y : α} : ∀ {l : List (Str × α)}, l.lookup x = some y → (x, y) ∈ l
  | [], h => by cases h
  | (k, v) :: r, h => by
    rw [List.lookup_cons] at h
    cases hb : x == k with
    | true =>
      rw [hb] at h
      cases h
      have e : x = k := by simpa using hb
      rw [e]
      simp
    | false =>
      rw [hb] at h
      exact List.mem_cons_of_mem _ (lookup_mem h)
def tyChk (y : Str × Ty) : Bool := y.1 == Str.ofString (tyS y.2) && biNames.contains y.1 && decide (bootBuiltins y.1 = some (.type (tyS y.2)))
theorem tyTab_all : tyTab.all tyChk = true := by decide +kernel
theorem tyTab_ok {x : Str} {t : Ty} (h : tyTab.lookup x = some t) : x = Str.ofString (tyS t) ∧ x ∈ biNames ∧ bootBuiltins x = some (.type (tyS t)) := by
  have h2 := List.all_eq_true.mp tyTab_all _ (lookup_mem h)
  unfold tyChk at h2
  obtain ⟨h2, h3⟩ := (Bool.and_eq_true _ _).mp h2
  obtain ⟨h2, h4⟩ := (Bool.and_eq_true _ _).mp h2
  exact ⟨eq_of_beq h2, List.contains_iff_mem.mp h4, of_decide_eq_true h3⟩
def biTab : List ((Str × Nat) × Bi) := [(("len", 1), .len), (("abs", 1), .abs), (("max", 2), .max2), (("min", 2), .min2), (("max", 1), .maxL), (("min", 1), .minL), (("all", 1), .all), (("any", 1), .any), (("int", 1), .int), (("repr", 1), .repr),
  (("list", 1), .list), (("tuple", 1), .tuple), (("sorted", 1), .sorted), (("divmod", 2), .divmod), (("range", 1), .rangeV)]
def biOf (x : Str) (n : Nat) : Option Bi := (biTab.find? fun y => y.1.1 == x && y.1.2 == n).map (·.2)
structure BiOk (x : Str) (b : Bi) : Prop where
  ex : ∃ id fl, biId b = some (x, id, fl) ∧ bootBuiltins x = some (biVal id fl)
  mem : x ∈ biNames
  nn : x ≠ "__name__"
  nd : (x == ("__debug__" : Str)) = false
def biChk (y : (Str × Nat) × Bi) : Bool := y.1.2 != 0 && biNames.contains y.1.1 && !(y.1.1 == ("__name__" : Str)) && !(y.1.1 == ("__debug__" : Str)) && (match biId y.2 with
  | some (z, id, fl) => z == y.1.1 && decide (bootBuiltins z = some (biVal id fl))
  | none => false)
theorem biTab_ok : biTab.all biChk = true := by decide +kernel
theorem biOf_ok {x : Str} {n : Nat} {b : Bi} (h : biOf x n = some b) : BiOk x b ∧ n ≠ 0 := by
  unfold biOf at h
  obtain ⟨y, hy, rfl⟩ := Option.map_eq_some_iff.mp h
  have h1 := List.find?_some hy
  have h2 := List.all_eq_true.mp biTab_ok y (List.mem_of_find?_eq_some hy)
  obtain ⟨e1, e2⟩ := (Bool.and_eq_true _ _).mp h1
  have e1 : y.1.1 = x := eq_of_beq e1
  have e2 : y.1.2 = n := eq_of_beq e2
  unfold biChk at h2
  rw [e1, e2] at h2
  obtain ⟨h2, h3⟩ := (Bool.and_eq_true _ _).mp h2
  obtain ⟨h2, h4⟩ := (Bool.and_eq_true _ _).mp h2
  obtain ⟨h2, h5⟩ := (Bool.and_eq_true _ _).mp h2
  obtain ⟨h6, h7⟩ := (Bool.and_eq_true _ _).mp h2
  split at h3
  case h_2 => cases h3
  rename_i z id fl hb
  obtain ⟨h8, h9⟩ := (Bool.and_eq_true _ _).mp h3
  have h8 : z = x := eq_of_beq h8
  rw [h8] at hb h9
  refine ⟨⟨⟨id, fl, hb, of_decide_eq_true h9⟩, List.contains_iff_mem.mp h7, fun e => ?_, ?_⟩, fun e => ?_⟩
  · rw [e] at h5
    exact absurd h5 (by decide)
  · cases q : (x == ("__debug__" : Str)) with
    | false => rfl
    | true =>
      rw [q] at h4
      cases h4
  · rw [e] at h6
    cases h6
end MP
end

section
set_option maxRecDepth 100000
/-! MpC4: the telling of expressions. -/
namespace MP
open PySem L2

section
variable (c : Fm → Expr → E) (t : Expr → Bool)
def cT (fm : Fm) (e : Expr) : E := if t e then c fm e else .stuck
def cAnd : List E → E
  | [] => .stuck
  | [a] => a
  | a :: b :: r => .and a (cAnd (b :: r))
def cOr : List E → E
  | [] => .stuck
  | [a] => a
  | a :: b :: r => .or a (cOr (b :: r))
def cName (fm : Fm) (x : Str) : E :=
  if dbg x then .stuck else if vis fm x then (match ixOf x fm.N with
    | some i => .v i
    | none => .stuck) else if glb fm x then .g x else .stuck
def cIs (fm : Fm) (a : Expr) (o : CmpOp) : Expr → Option E
  | .Constant .none _ _ => match o with
    | .Is => some (.isN (c fm a))
    | .IsNot => some (.notN (c fm a))
    | _ => none
  | .Constant (.bool b) _ _ => match o with
    | .IsNot => some (.notB (c fm a) b)
    | _ => none
  | _ => none
def cCmp1 (fm : Fm) (a : Expr) (o : CmpOp) (b : Expr) : E := match cIs c fm a o b with
  | some e => e
  | none => match copR o with
    | some o' => if nset b then .cmp o' (c fm a) (c fm b) else .stuck
    | none => .stuck
def cCmp (fm : Fm) (a : Expr) (os : List CmpOp) (bs : List Expr) : E := match os, bs with
  | [o], [b] => cCmp1 c fm a o b
  | [o, o'], [b, d] => match copR o, copR o' with
    | some p, some p' => if nset d then .chain p p' (c fm a) (c fm b) (c fm d) else .stuck
    | _, _ => .stuck
  | _, _ => .stuck
def cSub (fm : Fm) (a : Expr) : Expr → E
  | .Slice (some b) none none _ => .slL (c fm a) (c fm b)
  | .Slice none (some b) none _ => .slH (c fm a) (c fm b)
  | b => if nsli b then .idx (c fm a) (c fm b) else .stuck
/-- the argument, a call f(a) -/
def argOf (f : Str) : List Expr → Option Expr
  | [.Call (.Name s _) [a] [] _] => if s == f && nst a then some a else none
  | _ => none
def cIsi (fm : Fm) : List Expr → E
  | [a, .Name x _] => if nst a && glb fm x then (match tyTab.lookup x with
    | some ty => .isi (c fm a) ty
    | none => .stuck) else .stuck
  | [a, .Tuple [.Name x _, .Name y _] _ _] => if nst a && glb fm x && glb fm y then (match tyTab.lookup x, tyTab.lookup y with
    | some ty, some ty2 => .isi2 (c fm a) ty ty2
    | _, _ => .stuck) else .stuck
  | _ => .stuck
def cCall0 (fm : Fm) (f : Str) (args : List Expr) : E :=
  if args.all nst then (match biOf f args.length with
    | some b => .bi b (args.map (c fm))
    | none => if args.isEmpty then .stuck else .call f (args.map (c fm))) else .stuck
def cCall1 (fm : Fm) (f : Str) (args : List Expr) : E :=
  if f == ("isinstance" : Str) then cIsi c fm args
  else if f == ("len" : Str) then (match argOf "set" args with
    | some a => if glb fm "set" then .bi .setlen [c fm a] else .stuck
    | none => cCall0 c fm f args)
  else if f == ("list" : Str) then (match argOf "range" args with
    | some a => if glb fm "range" then .bi .listrng [c fm a] else .stuck
    | none => cCall0 c fm f args)
  else cCall0 c fm f args
def kwOf : List Keyword → Option (List Str × List Expr)
  | [] => some ([], [])
  | ⟨some x, e, _⟩ :: r => match kwOf r with
    | some (xs, es) => some (x :: xs, e :: es)
    | none => none
  | _ => none
def cCall (fm : Fm) (f : Str) (args : List Expr) (kws : List Keyword) : E :=
  if glb fm f then (if kws.isEmpty then cCall1 c fm f args else match kwOf kws with
    | some (xs, es) => if args.all nst then .callK f (args.map (c fm)) xs (es.map (c fm)) else .stuck
    | none => .stuck) else .stuck
def namesOf (fm : Fm) : List Expr → Option (List Str × List Nat)
  | [] => some ([], [])
  | .Name x _ :: r => if sto fm x then (match ixOf x fm.N, namesOf fm r with
    | some i, some (xs, is) => some (x :: xs, i :: is)
    | _, _ => none) else none
  | _ => none
def tgOf (fm : Fm) : Expr → Option (List Str × List Nat × Bool)
  | .Tuple es _ _ => match namesOf fm es with
    | some (xs, is) => some (xs, is, false)
    | none => none
  | e => match namesOf fm [e] with
    | some (xs, is) => some (xs, is, true)
    | none => none
def isTup : Expr → Bool
  | .Tuple _ _ _ => true
  | _ => false
def cI1 (fm : Fm) (tup : Bool) (f : Str) : List Expr → Option (Ik × List E)
  | [a] => if f == ("enumerate" : Str) && tup && nst a then some (.enum, [c fm a]) else if f == ("range" : Str) && nst a then some (.range1, [c fm a]) else none
  | [a, b] => if f == ("zip" : Str) && tup && nst a && nst b then some (.zip, [c fm a, c fm b]) else if f == ("range" : Str) && nst a && nst b then some (.range2, [c fm a, c fm b]) else none
  | _ => none
def cI (fm : Fm) (tup : Bool) (it : Expr) : Ik × List E := match it with
  | .Call (.Name f _) args [] _ => (match if glb fm f then cI1 c fm tup f args else none with
    | some z => z
    | none => (.seq, [c fm it]))
  | _ => (.seq, [c fm it])
def cLc1 (fm : Fm) (elt tg it : Expr) (ifs : List Expr) (scope : Scope) : E :=
  match tgOf (fm.blk scope) tg with
  | some (xs, is, one) => if nset it && blkOk fm scope (xs.zip is) && decide (ifs.length ≤ 1) && ifs.all t then
      .comp (c (fm.blk scope) elt) is one (cI c fm (isTup tg) it).1 (cI c fm (isTup tg) it).2 (ifs.map (c (fm.blk scope))) else .stuck
  | none => .stuck
def cLc2 (fm : Fm) (elt tg it : Expr) (tg2 it2 : Expr) (ifs : List Expr) (scope : Scope) : E :=
  match tgOf (fm.blk scope) tg, tgOf (fm.blk scope) tg2 with
  | some ([x], [i], true), some ([y], [j], true) => if nset it && nset it2 && blkOk fm scope [(x, i), (y, j)] && decide (i ≠ j) && decide (ifs.length ≤ 1) && ifs.all t then
      .comp2 (c (fm.blk scope) elt) i (c fm it) j (c (fm.blk scope) it2) (ifs.map (c (fm.blk scope))) else .stuck
  | _, _ => .stuck
def cLc (fm : Fm) (elt : Expr) (gs : List Comprehension) (scope : Scope) : E := match gs with
  | [⟨tg, it, ifs, a⟩] => if a == 0 then cLc1 c t fm elt tg it ifs scope else .stuck
  | [⟨tg, it, [], a⟩, ⟨tg2, it2, ifs, b⟩] => if a == 0 && b == 0 then cLc2 c t fm elt tg it tg2 it2 ifs scope else .stuck
  | _ => .stuck
def cStep (fm : Fm) (e : Expr) : E := match e with
  | .Constant k _ _ => (match k with
    | .int i => .c (.int i)
    | .bool b => .c (.bool b)
    | .none => .c .none
    | .str x => .c (.str x)
    | _ => .stuck)
  | .Name x _ => cName fm x
  | .BinOp a o b _ => (match bopOf o with
    | some o' => .bin o' (c fm a) (c fm b)
    | none => .stuck)
  | .UnaryOp o a _ => (match o with
    | .USub => .neg (c fm a)
    | .Not => .not (c fm a)
    | _ => .stuck)
  | .BoolOp o es _ => (match o with
    | .And => cAnd (es.map (c fm))
    | .Or => cOr (es.map (c fm)))
  | .IfExp a b d _ => .ite (cT c t fm a) (c fm b) (c fm d)
  | .Compare a os bs _ => cCmp c fm a os bs
  | .Tuple es _ _ => if es.all nst then .tup (es.map (c fm)) else .stuck
  | .List es _ => if es.all nst then .lst (es.map (c fm)) else .stuck
  | .Subscript a i _ => cSub c fm a i
  | .Call (.Name f _) args kws _ => cCall c fm f args kws
  | .ListComp elt gs scope _ => cLc c t fm elt gs scope
  | _ => .stuck
end
def tst : Nat → Expr → Bool
  | 0, _ => false
  | n + 1, e => match e with
    | .IfExp _ _ _ _ => false
    | .BoolOp _ es _ => es.all (tst n)
    | .UnaryOp o a _ => (match o with
      | .Not => tst n a
      | _ => true)
    | _ => true
def cE : Nat → Fm → Expr → E
  | 0, _, _ => .stuck
  | n + 1, fm, e => cStep (cE n) (tst n) fm e

variable {X : Cx} {tab : Str → Option Fn} {G : Str → Option D} {k : Nat} {fm : Fm} {c : Fm → Expr → E} {t : Expr → Bool}
/-- what is known of the telling one step down -/
structure Cok (tab : Str → Option Fn) (G : Str → Option D) (k : Nat) (c : Fm → Expr → E) (t : Expr → Bool) : Prop where
  pe : ∀ X fm, XO X tab G k fm → ∀ e, PE X e (tE X.K (evE (FT tab G k) G (c fm e)))
  pt : ∀ X fm, XO X tab G k fm → ∀ e, t e = true → PT X e (tT X.K (evE (FT tab G k) G (c fm e)))

variable (h : Cok tab G k c t) (o : XO X tab G k fm)
include h o
theorem Cok.es : ∀ {es : List Expr}, es.all nst = true → PA X es (tA X.K (evEs (FT tab G k) G (es.map (c fm))))
  | [], _ => by
    rw [List.map_nil, evs_nil]
    exact p_nil
  | e :: es, hs => by
    have h' : nst e = true ∧ es.all nst = true := by simpa using hs
    rw [List.map_cons, evs_cons]
    exact p_cons (h.pe X fm o e) (Cok.es h'.2) (star_cons h'.1)
theorem Cok.and_ : ∀ {es : List Expr} {pos : Pos}, PE X (.BoolOp .And es pos) (tE X.K (evE (FT tab G k) G (cAnd (es.map (c fm)))))
  | [], _ => p_stuck
  | [a], _ => pe_one (h.pe X fm o a)
  | a :: b :: r, _ => by
    rw [List.map_cons, List.map_cons]
    unfold cAnd
    rw [ev_and]
    exact p_and (h.pe X fm o a) (Cok.and_ (es := b :: r))
theorem Cok.or_ : ∀ {es : List Expr} {pos : Pos}, PE X (.BoolOp .Or es pos) (tE X.K (evE (FT tab G k) G (cOr (es.map (c fm)))))
  | [], _ => p_stuck
  | [a], _ => pe_one (h.pe X fm o a)
  | a :: b :: r, _ => by
    rw [List.map_cons, List.map_cons]
    unfold cOr
    rw [ev_or]
    exact p_or (h.pe X fm o a) (Cok.or_ (es := b :: r))
omit h o in
theorem pw_stuck {e : Expr} : PW X e (tT X.K (evE (FT tab G k) G .stuck)) := ⟨fun whole pins s σ H Q I ⟨g, r, S, b, m, S', ok, en, ev, q⟩ => by
  simp [evE] at ev⟩
theorem Cok.andT : ∀ {es : List Expr} {pos : Pos}, es.all t = true → PW X (.BoolOp .And es pos) (tT X.K (evE (FT tab G k) G (cAnd (es.map (c fm)))))
  | [], _, _ => pw_stuck
  | [a], _, ht => pw_and1 (h.pt X fm o a (by simpa using ht))
  | a :: b :: r, _, ht => by
    have h' : t a = true ∧ (b :: r).all t = true := by simpa using ht
    rw [List.map_cons, List.map_cons]
    unfold cAnd
    rw [ev_and]
    exact p_andT (h.pt X fm o a h'.1) (Cok.andT (es := b :: r) h'.2)
theorem Cok.orT : ∀ {es : List Expr} {pos : Pos}, es.all t = true → PW X (.BoolOp .Or es pos) (tT X.K (evE (FT tab G k) G (cOr (es.map (c fm)))))
  | [], _, _ => pw_stuck
  | [a], _, ht => pw_or1 (h.pt X fm o a (by simpa using ht))
  | a :: b :: r, _, ht => by
    have h' : t a = true ∧ (b :: r).all t = true := by simpa using ht
    rw [List.map_cons, List.map_cons]
    unfold cOr
    rw [ev_or]
    exact p_orT (h.pt X fm o a h'.1) (Cok.orT (es := b :: r) h'.2)
theorem Cok.t_ (e : Expr) : PT X e (tT X.K (evE (FT tab G k) G (cT c t fm e))) := by
  unfold cT
  split
  · exact h.pt X fm o e (by assumption)
  · exact p_stuckT
omit h in
theorem dbg_ok {x : Str} (hd : ¬ dbg x = true) : (x == ("__debug__" : Str)) = false ∧ (x == ("__classdict__" : Str)) = false ∧ x ≠ "__name__" := by
  unfold dbg at hd
  rw [Bool.or_eq_true, Bool.or_eq_true] at hd
  refine ⟨?_, ?_, fun e => hd (.inr (by rw [e]; decide))⟩
  · cases q : (x == ("__debug__" : Str)) with
    | false => rfl
    | true => exact absurd (.inl (.inl q)) hd
  · cases q : (x == ("__classdict__" : Str)) with
    | false => rfl
    | true => exact absurd (.inl (.inr q)) hd
omit h in
theorem name_ok {x : Str} {p : Pos} : PE X (.Name x p) (tE X.K (evE (FT tab G k) G (cName fm x))) := by
  unfold cName
  split
  · exact p_stuck
  rename_i hd
  obtain ⟨d1, d2, d3⟩ := dbg_ok o hd
  split
  · rename_i hv
    split
    · rename_i i hi
      rw [ev_v]
      exact p_var (by rw [o.hN]; exact ixOf_get hi) (vis_ok o hv) d1 d2
    · exact p_stuck
  split
  · rename_i hg
    cases hx : G x with
    | none =>
      refine ⟨fun pins s σ H Q I ⟨g, r, S, w, S', ok, en, ev, q⟩ => ?_⟩
      simp [evE, hx] at ev
    | some d =>
      obtain ⟨v, u, e1, e2, e3⟩ := o.gv x d hx
      have e4 : evE (FT tab G k) G (.g x) = fun _ S => some (.dat d 0, S) := by
        funext r S
        simp [evE, hx]
      rw [e4]
      exact p_glob (glb_ok o hg) e1 e2 e3 d1
  · exact p_stuck
theorem cmp1_ok {a b : Expr} {op : CmpOp} {pos : Pos} : PE X (.Compare a [op] [b] pos) (tE X.K (evE (FT tab G k) G (cCmp1 c fm a op b))) ∧ PT X (.Compare a [op] [b] pos) (tT X.K (evE (FT tab G k) G (cCmp1 c fm a op b))) := by
  have pa := h.pe X fm o a
  unfold cCmp1
  split
  · rename_i e he
    unfold cIs at he
    split at he
    · split at he
      · cases he
        rw [ev_isN]
        exact ⟨p_isN pa, p_isNT pa⟩
      · cases he
        rw [ev_notN]
        exact ⟨p_notN pa, p_notNT pa⟩
      · cases he
    · split at he
      · cases he
        rw [ev_notB]
        exact ⟨p_notB pa, p_notBT pa⟩
      · cases he
    · cases he
  · split
    · rename_i o' ho
      split
      · rename_i hs
        rw [copR_ok ho, ev_cmp]
        exact ⟨p_cmp o' (by have := o.rm.u; omega) pa (h.pe X fm o b) (noset_marks hs), p_cmpT o' (by have := o.rm.u; omega) pa (h.pe X fm o b) (noset_marks hs)⟩
      · exact ⟨p_stuck, p_stuckT⟩
    · exact ⟨p_stuck, p_stuckT⟩
theorem cmp_ok {a : Expr} {os : List CmpOp} {bs : List Expr} {pos : Pos} : PE X (.Compare a os bs pos) (tE X.K (evE (FT tab G k) G (cCmp c fm a os bs))) ∧ PT X (.Compare a os bs pos) (tT X.K (evE (FT tab G k) G (cCmp c fm a os bs))) := by
  unfold cCmp
  split
  · exact cmp1_ok h o
  · split
    · rename_i p p' h1 h2
      split
      · rename_i hs
        rw [copR_ok h1, copR_ok h2, ev_chain]
        exact ⟨p_chain p p' (by have := o.rm.u; omega) (h.pe X fm o _) (h.pe X fm o _) (h.pe X fm o _) (noset_last hs), p_chainT p p' (by have := o.rm.u; omega) (h.pe X fm o _) (h.pe X fm o _) (h.pe X fm o _) (noset_last hs)⟩
      · exact ⟨p_stuck, p_stuckT⟩
    · exact ⟨p_stuck, p_stuckT⟩
  · exact ⟨p_stuck, p_stuckT⟩
theorem sub_ok {a i : Expr} {pos : Pos} : PE X (.Subscript a i pos) (tE X.K (evE (FT tab G k) G (cSub c fm a i))) := by
  unfold cSub
  split
  · rw [ev_slL]
    exact p_slL (h.pe X fm o _) (h.pe X fm o _)
  · rw [ev_slH]
    exact p_slH (h.pe X fm o _) (h.pe X fm o _)
  · split
    · rename_i hs
      rw [ev_idx]
      exact p_idx (h.pe X fm o _) (h.pe X fm o _) (nsli_plain hs)
    · exact p_stuck
end MP
end

section
set_option maxRecDepth 100000
/-! MpC5: the telling of calls and comprehensions is right. -/
namespace MP
open PySem L2

variable {X : Cx} {tab : Str → Option Fn} {G : Str → Option D} {k : Nat} {fm : Fm} {c : Fm → Expr → E} {t : Expr → Bool} {f : Str} {args : List Expr} {kws : List Keyword} {pos p : Pos}

theorem argOf_ok {a : Expr} (h : argOf f args = some a) : ∃ p pos, args = [.Call (.Name f p) [a] [] pos] ∧ nst a = true := by
  unfold argOf at h
  split at h
  · rename_i s p b pos
    split at h
    · rename_i e
      obtain ⟨e1, e2⟩ := (Bool.and_eq_true _ _).mp e
      have e1 : s = f := eq_of_beq e1
      subst e1
      cases h
      exact ⟨p, pos, rfl, e2⟩
    · cases h
  · cases h
theorem kwOf_ok (h : Cok tab G k c t) (o : XO X tab G k fm) : ∀ {kws : List Keyword} {xs : List Str} {es : List Expr}, kwOf kws = some (xs, es) → PKw X kws xs (evEs (FT tab G k) G (es.map (c fm)))
  | [], _, _, e => by
    cases e
    rw [List.map_nil, evs_nil]
    exact pk_nil'
  | ⟨some x, e, p⟩ :: r, xs, es, he => by
    unfold kwOf at he
    split at he
    · rename_i xs' es' h1
      cases he
      rw [List.map_cons, evs_cons]
      exact pk_cons' (h.pe X fm o e) (kwOf_ok h o h1)
    · cases he
  | ⟨none, _, _⟩ :: _, _, _, he => by
    unfold kwOf at he
    cases he

section
variable (h : Cok tab G k c t) (o : XO X tab G k fm)
include h o
theorem isi_ok (hg : glb fm "isinstance" = true) : PE X (.Call (.Name "isinstance" p) args [] pos) (tE X.K (evE (FT tab G k) G (cIsi c fm args))) := by
  unfold cIsi
  have m0 : X.mg "isinstance" = none := o.bi _ (by decide)
  split
  · split
    · rename_i a x p' hc
      obtain ⟨h1, h2⟩ := (Bool.and_eq_true _ _).mp hc
      split
      · rename_i ty hty
        obtain ⟨t1, t2, t3⟩ := tyTab_ok hty
        rw [ev_isi]
        exact p_isi (h.pe X fm o a) (glb_ok o hg) m0 t1 (glb_ok o h2) (o.bi _ t2) t3 (star_cons h1)
      · exact p_stuck
    · exact p_stuck
  · split
    · rename_i a x p' y p'' kk p3 hc
      obtain ⟨h1, h3⟩ := (Bool.and_eq_true _ _).mp hc
      obtain ⟨h1, h2⟩ := (Bool.and_eq_true _ _).mp h1
      split
      · rename_i ty ty2 hty hty2
        obtain ⟨t1, t2, t3⟩ := tyTab_ok hty
        obtain ⟨u1, u2, u3⟩ := tyTab_ok hty2
        rw [ev_isi2]
        exact p_isi2 (h.pe X fm o a) (glb_ok o hg) m0 t1 (glb_ok o h2) (o.bi _ t2) t3 u1 (glb_ok o h3) (o.bi _ u2) u3 (star_cons h1)
      · exact p_stuck
    · exact p_stuck
  · exact p_stuck
theorem call0_ok (hg : glb fm f = true) : PE X (.Call (.Name f p) args [] pos) (tE X.K (evE (FT tab G k) G (cCall0 c fm f args))) := by
  unfold cCall0
  split
  · rename_i hs
    have pa := h.es o hs
    split
    · rename_i b hb
      obtain ⟨⟨⟨id, fl, i1, i2⟩, m, nn, nd⟩, n0⟩ := biOf_ok hb
      cases args with
      | nil => exact absurd rfl n0
      | cons e es =>
        have h' : nst e = true ∧ es.all nst = true := by simpa using hs
        rw [ev_bi]
        cases fl with
        | true => exact p_biB i1 o.calm o.rm.gd o.rm.u (glb_ok o hg) (o.bi _ m) i2 pa nn nd (star_cons h'.1) (star_plain h'.2)
        | false => exact p_biT i1 o.calm o.rm.gd o.rm.u (glb_ok o hg) (o.bi _ m) i2 pa nn nd (star_cons h'.1) (star_plain h'.2)
    · cases args with
      | nil => exact p_stuck
      | cons e es =>
        have h' : nst e = true ∧ es.all nst = true := by simpa using hs
        rw [if_neg (by simp), ev_call]
        exact p_call o.kn o.rm (glb_ok o hg) pa (star_cons h'.1) (star_plain h'.2)
  · exact p_stuck
theorem call1_ok (hg : glb fm f = true) : PE X (.Call (.Name f p) args [] pos) (tE X.K (evE (FT tab G k) G (cCall1 c fm f args))) := by
  unfold cCall1
  split
  · rename_i e
    have e : f = "isinstance" := eq_of_beq e
    subst e
    exact isi_ok h o hg
  split
  · rename_i e
    have e : f = "len" := eq_of_beq e
    subst e
    split
    · rename_i a ha
      obtain ⟨p', pos', rfl, hn⟩ := argOf_ok ha
      split
      · rename_i hg2
        rw [ev_bi, evs_cons, evs_nil]
        exact p_setlen o.calm o.rm.u (glb_ok o hg) (o.bi _ (by decide)) (glb_ok o hg2) (o.bi _ (by decide)) (h.pe X fm o a) (star_cons hn)
      · exact p_stuck
    · exact call0_ok h o hg
  split
  · rename_i e
    have e : f = "list" := eq_of_beq e
    subst e
    split
    · rename_i a ha
      obtain ⟨p', pos', rfl, hn⟩ := argOf_ok ha
      split
      · rename_i hg2
        rw [ev_bi, evs_cons, evs_nil]
        exact p_listrng (p3 := p) o.calm (glb_ok o hg) (o.bi _ (by decide)) (glb_ok o hg2) (o.bi _ (by decide)) (h.pe X fm o a) (star_cons hn)
      · exact p_stuck
    · exact call0_ok h o hg
  · exact call0_ok h o hg
theorem call_ok : PE X (.Call (.Name f p) args kws pos) (tE X.K (evE (FT tab G k) G (cCall c fm f args kws))) := by
  unfold cCall
  split
  · rename_i hg
    split
    · rename_i hk
      have e : kws = [] := by simpa using hk
      subst e
      exact call1_ok h o hg
    · split
      · rename_i xs es hkw
        split
        · rename_i hs
          rw [ev_callK]
          have pk := kwOf_ok h o hkw
          cases args with
          | nil =>
            rw [List.map_nil, evs_nil]
            exact p_callK0 o.kn o.rm (glb_ok o hg) pk
          | cons e es' =>
            have h' : nst e = true ∧ es'.all nst = true := by simpa using hs
            exact p_callK o.kn o.rm (glb_ok o hg) (h.es o hs) pk (star_cons h'.1) (star_plain (es := e :: es') hs)
        · exact p_stuck
      · exact p_stuck
  · exact p_stuck

/-! ### targets -/
omit h in
theorem names_ok : ∀ {es : List Expr} {xs : List Str} {is : List Nat}, namesOf fm es = some (xs, is) → PGs X es (gNames is) ∧ (assignEach es X.env).length = is.length ∧ (assignEach es X.env).findIdx? (·.1) = none ∧ xs.length = is.length
  | [], _, _, e => by
    cases e
    exact ⟨pgs_nil, rfl, rfl, rfl⟩
  | .Name x q :: r, xs, is, e => by
    unfold namesOf at e
    split at e
    · rename_i hs
      split at e
      · rename_i i xs' is' hi hr
        cases e
        obtain ⟨h1, h2, h3, h4⟩ := names_ok hr
        obtain ⟨s1, s2⟩ := sto_ok o hs
        have nd : X.N.Nodup := by
          rw [o.hN]
          exact o.nd
        refine ⟨pgs_cons (pg_name nd (by rw [o.hN]; exact ixOf_get hi) s1 s2) h1 rfl, ?_, ?_, by rw [List.length_cons, List.length_cons, h4]⟩
        · show (assignEach r X.env).length + 1 = is'.length + 1
          rw [h2]
        · show ((false, assign (.Name x q) X.env) :: assignEach r X.env).findIdx? (·.1) = none
          rw [List.findIdx?_cons, if_neg Bool.false_ne_true, h3]
          rfl
      · cases e
    · cases e
  | .BoolOp _ _ _ :: _, _, _, e => by cases e
  | .NamedExpr _ _ _ :: _, _, _, e => by cases e
  | .BinOp _ _ _ _ :: _, _, _, e => by cases e
  | .UnaryOp _ _ _ :: _, _, _, e => by cases e
  | .Lambda _ _ _ _ :: _, _, _, e => by cases e
  | .IfExp _ _ _ _ :: _, _, _, e => by cases e
  | .Dict _ _ _ :: _, _, _, e => by cases e
  | .Set _ _ _ :: _, _, _, e => by cases e
  | .ListComp _ _ _ _ :: _, _, _, e => by cases e
  | .SetComp _ _ _ _ :: _, _, _, e => by cases e
  | .DictComp _ _ _ _ _ :: _, _, _, e => by cases e
  | .GeneratorExp _ _ _ _ :: _, _, _, e => by cases e
  | .Await _ _ :: _, _, _, e => by cases e
  | .Yield _ _ :: _, _, _, e => by cases e
  | .YieldFrom _ _ :: _, _, _, e => by cases e
  | .Compare _ _ _ _ :: _, _, _, e => by cases e
  | .Call _ _ _ _ :: _, _, _, e => by cases e
  | .FormattedValue _ _ _ _ :: _, _, _, e => by cases e
  | .JoinedStr _ _ :: _, _, _, e => by cases e
  | .Constant _ _ _ :: _, _, _, e => by cases e
  | .Attribute _ _ _ :: _, _, _, e => by cases e
  | .Subscript _ _ _ :: _, _, _, e => by cases e
  | .Starred _ _ :: _, _, _, e => by cases e
  | .List _ _ :: _, _, _, e => by cases e
  | .Tuple _ _ _ :: _, _, _, e => by cases e
  | .Slice _ _ _ _ :: _, _, _, e => by cases e
omit h in
theorem tg_ok {tg : Expr} {xs : List Str} {is : List Nat} {one : Bool} (e : tgOf fm tg = some (xs, is, one)) : PG X tg (tgR X.K is one) ∧ xs.length = is.length := by
  have nd : X.N.Nodup := by
    rw [o.hN]
    exact o.nd
  unfold tgOf at e
  split at e
  · split at e
    · rename_i hn
      cases e
      obtain ⟨h1, h2, h3, h4⟩ := names_ok o hn
      exact ⟨pg_tup o.calm h1 h2 h3, h4⟩
    · cases e
  · split at e
    · rename_i xs' is' hn
      cases e
      unfold namesOf at hn
      split at hn
      · rename_i heq
        cases heq
      · rename_i heq
        cases heq
        split at hn
        · rename_i hs
          split at hn
          · rename_i i xs2 is2 hi hr
            cases hr
            cases hn
            obtain ⟨s1, s2⟩ := sto_ok o hs
            exact ⟨pg_name nd (by rw [o.hN]; exact ixOf_get hi) s1 s2, rfl⟩
          · cases hn
        · cases hn
      · cases hn
    · cases e
theorem i_ok {tg it : Expr} : PI X tg it (tI X.K (cI c fm (isTup tg) it).1 (evEs (FT tab G k) G (cI c fm (isTup tg) it).2)) := by
  have base : PI X tg it (tI X.K .seq (evEs (FT tab G k) G [c fm it])) := by
    rw [evs_cons, evs_nil]
    exact i_seq (h.pe X fm o it)
  unfold cI
  split
  · rename_i f p args pos
    split
    · rename_i z hz
      split at hz
      case isFalse => cases hz
      rename_i hg
      unfold cI1 at hz
      split at hz
      · rename_i a
        split at hz
        · rename_i hc
          obtain ⟨h1, h3⟩ := (Bool.and_eq_true _ _).mp hc
          obtain ⟨h1, h2⟩ := (Bool.and_eq_true _ _).mp h1
          have h1 : f = "enumerate" := eq_of_beq h1
          subst h1
          cases hz
          unfold isTup at h2
          split at h2
          case h_2 => cases h2
          rw [evs_cons, evs_nil]
          exact i_enum (glb_ok o hg) (o.bi _ (by decide)) (h.pe X fm o a) (star_cons h3)
        split at hz
        · rename_i hc
          obtain ⟨h1, h3⟩ := (Bool.and_eq_true _ _).mp hc
          have h1 : f = "range" := eq_of_beq h1
          subst h1
          cases hz
          rw [evs_cons, evs_nil]
          exact i_range1 (glb_ok o hg) (o.bi _ (by decide)) (h.pe X fm o a) (star_cons h3)
        · cases hz
      · rename_i a b
        split at hz
        · rename_i hc
          obtain ⟨h1, h4⟩ := (Bool.and_eq_true _ _).mp hc
          obtain ⟨h1, h3⟩ := (Bool.and_eq_true _ _).mp h1
          obtain ⟨h1, h2⟩ := (Bool.and_eq_true _ _).mp h1
          have h1 : f = "zip" := eq_of_beq h1
          subst h1
          cases hz
          unfold isTup at h2
          split at h2
          case h_2 => cases h2
          rw [evs_cons, evs_cons, evs_nil]
          exact i_zip (glb_ok o hg) (o.bi _ (by decide)) (h.pe X fm o a) (h.pe X fm o b) (star_cons h3) (star_cons h4) (star_plain (by simpa using h4))
        split at hz
        · rename_i hc
          obtain ⟨h1, h4⟩ := (Bool.and_eq_true _ _).mp hc
          obtain ⟨h1, h3⟩ := (Bool.and_eq_true _ _).mp h1
          have h1 : f = "range" := eq_of_beq h1
          subst h1
          cases hz
          rw [evs_cons, evs_cons, evs_nil]
          exact i_range2 (glb_ok o hg) (o.bi _ (by decide)) (h.pe X fm o a) (h.pe X fm o b) (star_cons h3) (star_cons h4)
        · cases hz
      · cases hz
    · exact base
  · exact base

/-! ### comprehensions -/
theorem ifs_ok : ∀ {ifs : List Expr}, ifs.length ≤ 1 → ifs.all t = true → PTs X ifs (tTs X.K (evTs (FT tab G k) G (ifs.map (c fm))))
  | [], _, _ => by
    rw [List.map_nil, evt_nil]
    exact p_ts0
  | [a], _, ht => by
    rw [List.map_cons, List.map_nil, evt_one]
    exact p_ts1 (h.pt X fm o a (by simpa using ht))
  | _ :: _ :: _, hl, _ => by simp at hl
omit h o in
theorem zip_snd {α β : Type} : ∀ {xs : List α} {ys : List β}, xs.length = ys.length → (xs.zip ys).map (·.2) = ys
  | [], [], _ => rfl
  | [], _ :: _, h => by cases h
  | _ :: _, [], h => by cases h
  | x :: xs, y :: ys, h => by
    rw [List.zip_cons_cons, List.map_cons, zip_snd (Nat.succ.inj h)]
omit h in
theorem kd_of {scope : Scope} {own : List (Str × Nat)} (hb : blkOk fm scope own = true) : scope.kind = .function := (blkOk_ok o hb).kind
theorem lc1_ok {elt tg it : Expr} {ifs : List Expr} {scope : Scope} : PE X (.ListComp elt [⟨tg, it, ifs, 0⟩] scope pos) (tE X.K (evE (FT tab G k) G (cLc1 c t fm elt tg it ifs scope))) := by
  unfold cLc1
  split
  · rename_i xs is one htg
    split
    · rename_i hc
      obtain ⟨h1, h4⟩ := (Bool.and_eq_true _ _).mp hc
      obtain ⟨h1, h3⟩ := (Bool.and_eq_true _ _).mp h1
      obtain ⟨h1, h2⟩ := (Bool.and_eq_true _ _).mp h1
      have nd : X.N.Nodup := by
        rw [o.hN]
        exact o.nd
      have kd := kd_of o h2
      have ob : ∀ s H C cl fp, XO (X.blk s H scope (compEnvC scope cl C X.env) fp) tab G k (fm.blk scope) := fun s H C cl fp => o.blk kd s H C cl fp
      rw [ev_comp]
      refine p_comp o.calm nd (i_ok h o) (blkOk_ok o h2) (fun j => ?_) (fun s H C cl fp => (tg_ok (ob s H C cl fp) htg).1) (fun s H C cl fp => ifs_ok h (ob s H C cl fp) (of_decide_eq_true h3) h4) (fun s H C cl fp => h.pe _ _ (ob s H C cl fp) elt) fun x => nset_fold h1 x
      have hl := fun s H C cl fp => (tg_ok (ob s H C cl fp) htg).2
      rw [zip_snd (hl X.s_0 X.H_0 0 [] [])]
    · exact p_stuck
  · exact p_stuck
end
end MP
end

section
set_option maxRecDepth 100000
/-! MpC6: the telling of expressions is right. -/
namespace MP
open PySem L2

variable {X : Cx} {tab : Str → Option Fn} {G : Str → Option D} {k : Nat} {fm : Fm} {c : Fm → Expr → E} {t : Expr → Bool} {f : Str} {args : List Expr} {kws : List Keyword} {pos p : Pos}
section
variable (h : Cok tab G k c t) (o : XO X tab G k fm)
include h o
theorem mem_iff {x y : Str} {i j : Nat} : ∀ l : Nat, l ∈ [(x, i), (y, j)].map (·.2) ↔ l = i ∨ l = j := fun l => by simp
theorem lc2_ok {elt tg it tg2 it2 : Expr} {ifs : List Expr} {scope : Scope} : PE X (.ListComp elt [⟨tg, it, [], 0⟩, ⟨tg2, it2, ifs, 0⟩] scope pos) (tE X.K (evE (FT tab G k) G (cLc2 c t fm elt tg it tg2 it2 ifs scope))) := by
  unfold cLc2
  split
  · rename_i x i y j htg htg2
    split
    · rename_i hc
      obtain ⟨h1, h6⟩ := (Bool.and_eq_true _ _).mp hc
      obtain ⟨h1, h5⟩ := (Bool.and_eq_true _ _).mp h1
      obtain ⟨h1, h4⟩ := (Bool.and_eq_true _ _).mp h1
      obtain ⟨h1, h3⟩ := (Bool.and_eq_true _ _).mp h1
      obtain ⟨h1, h2⟩ := (Bool.and_eq_true _ _).mp h1
      have nd : X.N.Nodup := by
        rw [o.hN]
        exact o.nd
      have kd := kd_of o h3
      have ob : ∀ s H C cl fp, XO (X.blk s H scope (compEnvC scope cl C X.env) fp) tab G k (fm.blk scope) := fun s H C cl fp => o.blk kd s H C cl fp
      rw [ev_comp2]
      refine p_comp2 o.calm nd (i_seq (h.pe X fm o it)) (blkOk_ok o h3) (fun l => by simp) (of_decide_eq_true h4) (fun s H C cl fp => (tg_ok (ob s H C cl fp) htg).1) (fun s H C cl fp => i_seq (h.pe _ _ (ob s H C cl fp) it2)) (fun s H C cl fp => (tg_ok (ob s H C cl fp) htg2).1)
        (fun s H C cl fp => ifs_ok h (ob s H C cl fp) (of_decide_eq_true h5) h6) (fun s H C cl fp => h.pe _ _ (ob s H C cl fp) elt) (fun x => nset_fold h1 x) fun env x => nset_fold h2 x
    · exact p_stuck
  · exact p_stuck
theorem lc_ok {elt : Expr} {gs : List Comprehension} {scope : Scope} : PE X (.ListComp elt gs scope pos) (tE X.K (evE (FT tab G k) G (cLc c t fm elt gs scope))) := by
  unfold cLc
  split
  · split
    · rename_i a ha
      have e : a = 0 := eq_of_beq ha
      subst e
      exact lc1_ok h o
    · exact p_stuck
  · split
    · rename_i a tg2 it2 ifs b hab
      obtain ⟨e1, e2⟩ := (Bool.and_eq_true _ _).mp hab
      have e1 : a = 0 := eq_of_beq e1
      have e2 : b = 0 := eq_of_beq e2
      subst e1
      subst e2
      exact lc2_ok h o
    · exact p_stuck
  · exact p_stuck
theorem step_pe (e : Expr) : PE X e (tE X.K (evE (FT tab G k) G (cStep c t fm e))) := by
  unfold cStep
  split
  · split
    · exact p_int
    · exact p_bool
    · exact p_none
    · exact p_str
    · exact p_stuck
  · exact name_ok o
  · split
    · rename_i o' ho
      rw [bopOf_ok ho, ev_bin]
      exact p_bin o' (h.pe X fm o _) (h.pe X fm o _)
    · exact p_stuck
  · split
    · rw [ev_neg]
      exact p_neg (h.pe X fm o _)
    · rw [ev_not]
      exact p_not (h.pe X fm o _)
    · exact p_stuck
  · split
    · exact h.and_ o
    · exact h.or_ o
  · rw [ev_ite]
    exact p_ite (h.t_ o _) (h.pe X fm o _) (h.pe X fm o _)
  · exact (cmp_ok h o).1
  · split
    · rename_i hs
      rw [ev_tup]
      exact p_tup (h.es o hs)
    · exact p_stuck
  · split
    · rename_i hs
      rw [ev_lst]
      exact p_lst (h.es o hs)
    · exact p_stuck
  · exact sub_ok h o
  · exact call_ok h o
  · exact lc_ok h o
  · exact p_stuck
end
theorem cE_ok : ∀ n : Nat, Cok tab G k (cE n) (tst n)
  | 0 => ⟨fun X fm o e => p_stuck, fun X fm o e ht => by cases ht⟩
  | n + 1 => by
    have h := cE_ok n
    refine ⟨fun X fm o e => step_pe h o e, fun X fm o e ht => ?_⟩
    have pe := step_pe h o e
    cases e with
    | IfExp a b d q => cases ht
    | BoolOp op es q =>
      cases op with
      | And => exact (h.andT o ht).pt
      | Or => exact (h.orT o ht).pt
    | UnaryOp op a q =>
      cases op with
      | Not =>
        show PT X _ (tT X.K (evE (FT tab G k) G (.not (cE n fm a))))
        rw [ev_not]
        exact p_notT (h.pt X fm o a ht)
      | USub => exact p_test pe fun _ => rfl
      | UAdd => exact p_test pe fun _ => rfl
      | Invert => exact p_test pe fun _ => rfl
    | Compare a os bs q => exact (cmp_ok h o).2
    | NamedExpr a b q => exact p_test pe fun _ => rfl
    | BinOp a op b q => exact p_test pe fun _ => rfl
    | Lambda a b s q => exact p_test pe fun _ => rfl
    | Dict a b q => exact p_test pe fun _ => rfl
    | Set a b q => exact p_test pe fun _ => rfl
    | ListComp a b s q => exact p_test pe fun _ => rfl
    | SetComp a b s q => exact p_test pe fun _ => rfl
    | DictComp a b d s q => exact p_test pe fun _ => rfl
    | GeneratorExp a b s q => exact p_test pe fun _ => rfl
    | Await a q => exact p_test pe fun _ => rfl
    | Yield a q => exact p_test pe fun _ => rfl
    | YieldFrom a q => exact p_test pe fun _ => rfl
    | Call a b d q => exact p_test pe fun _ => rfl
    | FormattedValue a b d q => exact p_test pe fun _ => rfl
    | JoinedStr a q => exact p_test pe fun _ => rfl
    | Constant a b q => exact p_test pe fun _ => rfl
    | Attribute a b q => exact p_test pe fun _ => rfl
    | Subscript a b q => exact p_test pe fun _ => rfl
    | Starred a q => exact p_test pe fun _ => rfl
    | Name a q => exact p_test pe fun _ => rfl
    | List a q => exact p_test pe fun _ => rfl
    | Tuple a b q => exact p_test pe fun _ => rfl
    | Slice a b d q => exact p_test pe fun _ => rfl
end MP
end

section
set_option maxRecDepth 100000
/-! MpC7: the telling of statements: side conditions. -/
namespace MP
open PySem L2

variable {X : Cx} {tab : Str → Option Fn} {G : Str → Option D} {k : Nat} {fm : Fm} {c : Fm → Expr → E} {t : Expr → Bool} {x : Str} {e a b v : Expr} {pos p py : Pos} {env : Env}

def nlc : Expr → Bool
  | .ListComp _ _ _ _ => false
  | .SetComp _ _ _ _ => false
  | .DictComp _ _ _ _ _ => false
  | _ => true
theorem sw_nlc (h : nlc v = true) {tg : Option Expr} {l : Nat} : swapsWith v tg l env = pure false := by
  cases v <;> first | rfl | cases h
theorem sw_other {o i : Expr} {l : Nat} {q : Pos} : swapsWith v (some (.Subscript o i q)) l env = pure false := by
  cases v <;> rfl
theorem sw_tup {es : List Expr} {kk : Nat} {l : Nat} {q : Pos} : swapsWith v (some (.Tuple es kk q)) l env = pure false := by
  cases v <;> rfl
theorem ss_sub {o i : Expr} {q : Pos} : swappedStores [.Subscript o i q] v env = pure none := by
  cases v <;> rfl
def ntup : Expr → Bool
  | .Tuple _ _ _ => false
  | _ => true
theorem ss_ntup {es : List Expr} {kk : Nat} {q : Pos} (h : ntup v = true) : swappedStores [.Tuple es kk q] v env = pure none := by
  cases v <;> first | rfl | cases h
def bk (sc : Scope) : ScopeKind := if sc.kind.isAnnotationScope then .function else sc.kind
def swNames (sc : Scope) (ts : List Expr) : List Str := ts.filterMap fun
    | .Name id pos => if sc.names.lookup id == some .local && pos.line == (ts.head?.map (·.pos.line)).getD 0 then some id else none
    | _ => none
def swC (sc : Scope) (ts vs : List Expr) : Option (Option (List Str)) :=
  if (!(ts.length == 2 || ts.length == 3) || vs.length != ts.length || bk sc != .function) = true then some none
  else if (vs.any fun | .Starred .. => true | _ => false) = true then some none
  else if ((swNames sc ts).length != ts.length || (swNames sc ts).eraseDups.length != (swNames sc ts).length) = true then some none
  else if vs.all (foldedForSure 8) = true then some none
  else if vs.all (constantsAlone 8) = true then none
  else some (some (swNames sc ts))
theorem swC_ok {ts vs : List Expr} {o : Option (List Str)} {kk k2 : Nat} {p p2 : Pos} (h : swC env.scope ts vs = some o) : swappedStores [.Tuple ts kk p] (.Tuple vs k2 p2) env = pure o := by
  unfold swappedStores
  unfold swC at h
  dsimp only
  split at h
  · rename_i hc
    cases h
    exact if_pos hc
  rename_i hc
  refine (if_neg hc).trans ?_
  split at h
  · rename_i hc
    cases h
    exact if_pos hc
  rename_i hc
  refine (if_neg hc).trans ?_
  split at h
  · rename_i hc
    cases h
    exact if_pos hc
  rename_i hc
  refine (if_neg hc).trans ?_
  split at h
  · rename_i hc
    cases h
    exact if_pos hc
  rename_i hc
  refine (if_neg hc).trans ?_
  split at h
  · cases h
  rename_i hc
  cases h
  exact if_neg hc
def ncall : Expr → Bool
  | .Call _ _ _ _ => false
  | _ => true
theorem ab_nc (h : ncall a = true) {m : Str} {w : Sem Value} : attributeBase a m env w = w := by
  cases a <;> first | rfl | cases h
theorem few1 (h : nst e = true) {cpos : Pos} : ((backTo cpos (starEach (e :: []) env)).all (fun x => !x.1) && (backToKw cpos (keywordEach [] env)).all (fun x => x.1.isSome)
      && decide ((e :: ([] : List Expr)).length + ([] : List Keyword).length + (if ([] : List Keyword).isEmpty then 0 else 1) < 30)) = true := by
  rw [star_cons h]
  rfl
/-- a name's slot -/
def slot (fm : Fm) (x : Str) : Option Nat := if dbg x then none else if vis fm x then ixOf x fm.N else none
theorem slot_ok (o : XO X tab G k fm) {i : Nat} (h : slot fm x = some i) : PE X (.Name x p) (tVar i) := by
  unfold slot at h
  split at h
  · cases h
  rename_i hd
  split at h
  · rename_i hv
    obtain ⟨d1, d2, _⟩ := dbg_ok o hd
    exact pe_var (by rw [o.hN]; exact ixOf_get h) (vis_ok o hv) d1 d2
  · cases h
def slotE (fm : Fm) : Expr → Option Nat
  | .Name x _ => slot fm x
  | _ => none
theorem slotE_ok (o : XO X tab G k fm) {i : Nat} (h : slotE fm e = some i) : PE X e (tVar i) ∧ ncall e = true := by
  unfold slotE at h
  split at h
  · exact ⟨slot_ok o h, rfl⟩
  · cases h
end MP
end

section
set_option maxRecDepth 100000
/-! MpC8: the telling of statements. -/
namespace MP
open PySem L2

section
variable {F : Fns} {G : Str → Option D} {e i a : E} {its es : List E} {s : Sm} {ss bs : List Sm}
theorem xs_skip : exS F G .skip = skipE := by
  funext r S
  simp only [exS] <;> rfl
theorem xs_ex : exS F G (.ex e) = exE (evE F G e) := by
  funext r S
  simp only [exS] <;> rfl
theorem xs_asg {x : Nat} : exS F G (.asg x e) = asgE x (evE F G e) := by
  funext r S
  simp only [exS] <;> rfl
theorem xs_asgV {x j : Nat} : exS F G (.asgV x j) = asgV x j := by
  funext r S
  simp only [exS] <;> rfl
theorem xs_asgT {ts : List Tq} : exS F G (.asgT ts e) = asgTE ts (evE F G e) := by
  funext r S
  simp only [exS] <;> rfl
theorem xs_asgP {is : List Nat} : exS F G (.asgP is es) = asgPE is (evEs F G es) := by
  funext r S
  simp only [exS] <;> rfl
theorem xs_setI {x : Nat} : exS F G (.setI x i e) = setIE x (evE F G i) (evE F G e) := by
  funext r S
  simp only [exS] <;> rfl
theorem xs_app {x : Nat} : exS F G (.app x e) = appE x (evE F G e) := by
  funext r S
  simp only [exS] <;> rfl
theorem xs_extd {x : Nat} : exS F G (.extd x e) = extdE x (evE F G e) := by
  funext r S
  simp only [exS] <;> rfl
theorem xs_appPop {x y : Nat} : exS F G (.appPop x y e) = appPopE x y (evE F G e) := by
  funext r S
  simp only [exS] <;> rfl
theorem xs_clr {x : Nat} {n : Int} : exS F G (.clr x (.c (.int n))) = clrE x n := by
  funext r S
  simp only [exS, evE] <;> rfl
theorem xs_ret : exS F G (.ret e) = retE (evE F G e) := by
  funext r S
  simp only [exS] <;> rfl
theorem xs_retV {x : Nat} : exS F G (.retV x) = retV x := by
  funext r S
  simp only [exS] <;> rfl
theorem xs_retN : exS F G .retN = retNE := by
  funext r S
  simp only [exS] <;> rfl
theorem xs_ifs : exS F G (.ifs e ss bs) = ifsE (evE F G e) (exSs F G ss) (exSs F G bs) := by
  funext r S
  simp only [exS] <;> rfl
theorem xs_loop {tg : List Nat} {one : Bool} {k : Ik} : exS F G (.loop tg one k its bs) = loopE tg one k (evEs F G its) (exSs F G bs) := by
  funext r S
  simp only [exS] <;> rfl
theorem xs_loopV {tg : List Nat} {one : Bool} {k : Ik} {j : Nat} : exS F G (.loopV tg one k j bs) = loopVE tg one k j (exSs F G bs) := by
  funext r S
  simp only [exS] <;> rfl
theorem xs_brk : exS F G .brk = brkE := by
  funext r S
  simp only [exS] <;> rfl
theorem xs_cont : exS F G .cont = contE := by
  funext r S
  simp only [exS] <;> rfl
theorem xs_stuck : exS F G .stuck = nonE := by
  funext r S
  simp only [exS] <;> rfl
theorem xss_nil : exSs F G [] = skipE := by
  funext r S
  simp only [exSs] <;> rfl
theorem xss_cons : exSs F G (s :: ss) = seqE (exS F G s) (exSs F G ss) := by
  funext r S
  simp only [exSs] <;> rfl
end

section
variable (c : Fm → Expr → E) (t : Expr → Bool)
def popOf (fm : Fm) : Expr → Option (Nat × Expr)
  | .Call (.Attribute o m apos) [b] [] cpos => if m == ("pop" : Str) && nst b && apos.endLine == cpos.line then (slotE fm o).map fun y => (y, b) else none
  | _ => none
def clrOf (fm : Fm) : Expr → Option (Nat × Int)
  | .Subscript o (.Constant (.int i) _ _) _ => (slotE fm o).map fun y => (y, i)
  | _ => none
def cMeth (fm : Fm) (o : Expr) (m : Str) (args : List Expr) : Sm := match slotE fm o, args with
  | some x, [a] => if nst a then (if m == ("append" : Str) then (match popOf fm a with
      | some (y, b) => .appPop x y (c fm b)
      | none => .app x (c fm a)) else if m == ("extend" : Str) then .extd x (c fm a) else .stuck) else .stuck
  | none, [] => if m == ("clear" : Str) then (match clrOf fm o with
      | some (x, i) => .clr x (.c (.int i))
      | none => .stuck) else .stuck
  | _, _ => .stuck
def cExpr (fm : Fm) (e : Expr) : Sm := match e with
  | .Constant k _ _ => (match k with
    | .str _ => .skip
    | _ => .stuck)
  | .Call f args kws cpos => (match f, kws with
    | .Attribute o m apos, [] => if apos.endLine == cpos.line then cMeth c fm o m args else .stuck
    | .Name g p, kws => .ex (c fm (.Call (.Name g p) args kws cpos))
    | _, _ => .stuck)
  | _ => .stuck
def tqOf (fm : Fm) : Expr → Option Tq
  | .Name x _ => if sto fm x then (ixOf x fm.N).map .nm else none
  | .Subscript o (.Constant (.int i) _ _) _ => (slotE fm o).map fun x => .sub x i
  | _ => none
def tqsOf (fm : Fm) : List Expr → Option (List Tq)
  | [] => some []
  | e :: es => match tqOf fm e, tqsOf fm es with
    | some q, some qs => some (q :: qs)
    | _, _ => none
def cPar (fm : Fm) (ts es : List Expr) : Sm := match namesOf fm ts with
  | some (xs, is) => if es.all nst && decide (is.length ≤ LIM) then (match swC fm.sc ts es with
      | some none => .asgP is (es.map (c fm))
      | some (some ns) => if ns == xs && xs.all (fun x => fm.sc.names.lookup x == some .local) && decide (is.Nodup) && ((xs.length == 2 && es.length == 2) || (xs.length == 3 && es.length == 3)) then .asgP is (es.map (c fm)) else .stuck
      | none => .stuck) else .stuck
  | none => .stuck
def swLc (sc : Scope) (x : Str) (py lpos : Pos) (scope : Scope) : Bool := bk sc == .function && sc.names.lookup x == some .local && py.line == lpos.line && !(scope.names.any fun (n, k) => n == x && (k == .local || k == .cell))
def cAsg (fm : Fm) (tg v : Expr) : Sm := match tg with
  | .Name x py => if sto fm x then (match ixOf x fm.N with
    | some i => (match v with
      | .ListComp elt gs scope lpos => .asg i (cLc c t fm elt gs scope)
      | v => if nlc v then (match c fm v with
        | .v j => .asgV i j
        | e => .asg i e) else .stuck)
    | none => .stuck) else .stuck
  | .Subscript o i _ => (match slotE fm o with
    | some x => if nsli i then .setI x (c fm i) (c fm v) else .stuck
    | none => .stuck)
  | .Tuple ts _ _ => (match v with
    | .Tuple es _ _ => cPar c fm ts es
    | v => if ntup v then (match tqsOf fm ts with
      | some qs => .asgT qs (c fm v)
      | none => .stuck) else .stuck)
  | _ => .stuck
def cFor (fm : Fm) (tg it : Expr) (body : List Sm) : Sm := match tgOf fm tg with
  | some (_, is, one) => if nset it then (match cI c fm (isTup tg) it with
    | (k, [.v j]) => .loopV is one k j body
    | (k, its) => .loop is one k its body) else .stuck
  | none => .stuck
def cS : Nat → Fm → Stmt → Sm
  | 0, _, _ => .stuck
  | n + 1, fm, st => match st with
    | .Expr e _ => cExpr c fm e
    | .Assign ts v _ => (match ts with
      | [tg] => cAsg c t fm tg v
      | _ => .stuck)
    | .Return o _ => (match o with
      | some e => (match slotE fm e with
        | some i => .retV i
        | none => .ret (c fm e))
      | none => .retN)
    | .If a b d _ => .ifs (cT c t fm a) (b.map (cS n fm)) (d.map (cS n fm))
    | .For tg it body els _ => if els.isEmpty then cFor c fm tg it (body.map (cS n fm)) else .stuck
    | .Break _ => .brk
    | .Continue _ => .cont
    | .Pass _ => .skip
    | _ => .stuck
end

variable {X : Cx} {tab : Str → Option Fn} {G : Str → Option D} {k : Nat} {fm : Fm} {c : Fm → Expr → E} {t : Expr → Bool} {x : Str} {e a b v : Expr} {pos p py : Pos} {env : Env} {st : Stmt}
theorem s_stuck : PS X st (tS X.K (exS (FT tab G k) G .stuck)) := by
  rw [xs_stuck]
  exact s_non
theorem asgV_imp2 {K : PySem.W.Frag} {D : Ends} {σ : L2.St} {H : Hp} {i j : Nat} (h : tS K (asgV i j) D σ H) : tAsg (tE K (varE j)) (gName i) D σ H := by
  obtain ⟨g0, H0, F, S, r, R, ⟨g, As, s, fl⟩, ev, q⟩ := h
  unfold asgV at ev
  split at ev
  case h_2 => cases ev
  rename_i w h1
  cases ev
  obtain ⟨g', v, As', e1, s', vw, sm⟩ := s.fz1 h1
  have hj : j < r.length := (List.getElem?_eq_some_iff.mp h1).1
  let r0 : Rho := (List.replicate r.length none).set j (some w.fz)
  have g0j : r0[j]? = some (some w.fz) := List.getElem?_set_self (by simpa using hj)
  have env : EnvF K g' r0 σ := fun i u hu => by
    by_cases e : i = j
    · subst e
      rw [g0j] at hu
      cases hu
      exact ⟨v, e1, vw.fz⟩
    · have hu : ((List.replicate r.length none).set j (some w.fz))[i]? = some (some u) := hu
      rw [List.getElem?_set_ne (Ne.symm e), List.getElem?_replicate] at hu
      split at hu <;> cases hu
  have hev : varE j r0 S = some (w.fz, S) := by
    unfold varE
    rw [g0j]
    show some (w.fz.fz, S) = _
    rw [fz_idem]
  refine ⟨g', r0, S, w.fz, S, s'.go.ok, env, hev, fun v' H' ⟨g2, A, b, o, f⟩ => q _ _ ?_⟩
  have s2 := s'.step b
  obtain ⟨As2, s3, _⟩ := s2.put (i := i) o (f.base s'.go.dm) (fre_apart s2 fun a ha => by
    have hn := (f.2 a ha).1
    cases q : H' a with
    | none => rfl
    | some o' => 
      exfalso
      have := (o.lsts a ha)
      cases w <;> first | (obtain ⟨rfl, _⟩ := own0.mp o; cases ha) | (rw [o.1] at ha; cases ha))
  exact ⟨g2, As2, s3, (fl.trans sm).trans b.le⟩
theorem sw_lc {elt : Expr} {gs : List Comprehension} {scope : Scope} {lpos : Pos} {l : Nat} : swapsWith (.ListComp elt gs scope lpos) (some (.Name x py)) l env = pure (swLc env.scope x py lpos scope) := rfl
theorem namesOf_cons {es : List Expr} {xs : List Str} {is : List Nat} (h : namesOf fm es = some (x :: xs, is)) : ∃ p r i is', es = .Name x p :: r ∧ is = i :: is' ∧ ixOf x fm.N = some i ∧ namesOf fm r = some (xs, is') := by
  unfold namesOf at h
  split at h
  · cases h
  · split at h
    · split at h
      · rename_i i xs' is' hi hr
        cases h
        exact ⟨_, _, _, _, rfl, rfl, hi, hr⟩
      · cases h
    · cases h
  · cases h
theorem namesOf_nil {es : List Expr} {is : List Nat} (h : namesOf fm es = some ([], is)) : es = [] ∧ is = [] := by
  unfold namesOf at h
  split at h
  · cases h
    exact ⟨rfl, rfl⟩
  · split at h
    · split at h
      · cases h
      · cases h
    · cases h
  · cases h
theorem tqs_ok (o : XO X tab G k fm) : ∀ {es : List Expr} {qs : List Tq}, tqsOf fm es = some qs → PGs X es (gTs qs) ∧ (assignEach es X.env).length = qs.length ∧ (assignEach es X.env).findIdx? (·.1) = none
  | [], _, h => by
    cases h
    exact ⟨pgs_nil, rfl, rfl⟩
  | e :: es, qs, h => by
    unfold tqsOf at h
    split at h
    case h_2 => cases h
    rename_i q qs' hq hqs
    cases h
    obtain ⟨h1, h2, h3⟩ := tqs_ok o hqs
    have nd : X.N.Nodup := by
      rw [o.hN]
      exact o.nd
    unfold tqOf at hq
    split at hq
    · rename_i y p
      split at hq
      case isFalse => cases hq
      rename_i hs
      obtain ⟨i, hi, rfl⟩ := Option.map_eq_some_iff.mp hq
      obtain ⟨s1, s2⟩ := sto_ok o hs
      refine ⟨pgs_cons (pg_name nd (by rw [o.hN]; exact ixOf_get hi) s1 s2) h1 rfl, ?_, ?_⟩
      · show (assignEach es X.env).length + 1 = qs'.length + 1
        rw [h2]
      · show ((false, assign (.Name y p) X.env) :: assignEach es X.env).findIdx? (·.1) = none
        rw [List.findIdx?_cons, if_neg Bool.false_ne_true, h3]
        rfl
    · rename_i ob i j p p'
      obtain ⟨y, hy, rfl⟩ := Option.map_eq_some_iff.mp hq
      refine ⟨pgs_cons (pg_sub (slotE_ok o hy).1 pe_int set_list fun _ => rfl) h1 rfl, ?_, ?_⟩
      · show (assignEach es X.env).length + 1 = qs'.length + 1
        rw [h2]
      · show ((false, assign (.Subscript ob _ _) X.env) :: assignEach es X.env).findIdx? (·.1) = none
        rw [List.findIdx?_cons, if_neg Bool.false_ne_true, h3]
        rfl
    · cases hq
end MP
end

section
set_option maxRecDepth 100000
/-! MpC9: the telling of statements is right. -/
namespace MP
open PySem L2

variable {X : Cx} {tab : Str → Option Fn} {G : Str → Option D} {k : Nat} {fm : Fm} {c : Fm → Expr → E} {t : Expr → Bool} {x : Str} {e a b v : Expr} {pos p py : Pos} {env : Env} {st : Stmt}
theorem len2 {α : Type} : ∀ {l : List α}, l.length = 2 → ∃ a b, l = [a, b]
  | [a, b], _ => ⟨a, b, rfl⟩
  | [], h => by cases h
  | [_], h => by cases h
  | _ :: _ :: _ :: _, h => by simp at h
theorem len3 {α : Type} : ∀ {l : List α}, l.length = 3 → ∃ a b c, l = [a, b, c]
  | [a, b, c], _ => ⟨a, b, c, rfl⟩
  | [], h => by cases h
  | [_], h => by cases h
  | [_, _], h => by cases h
  | _ :: _ :: _ :: _ :: _, h => by simp at h
section
variable (h : Cok tab G k c t) (o : XO X tab G k fm)
include h o
theorem nd_of : X.N.Nodup := by
  rw [o.hN]
  exact o.nd
theorem popOf_ok {y : Nat} {b : Expr} (hp : popOf fm a = some (y, b)) : PE X a (tBM X.K "list" rPopAt (tVar y) (tA X.K (consE (evE (FT tab G k) G (c fm b)) nilE))) ∧ nst a = true := by
  unfold popOf at hp
  split at hp
  · rename_i ob m apos b' cpos
    split at hp
    case isFalse => cases hp
    rename_i hc
    obtain ⟨h1, h3⟩ := (Bool.and_eq_true _ _).mp hc
    obtain ⟨h1, h2⟩ := (Bool.and_eq_true _ _).mp h1
    have h1 : m = "pop" := eq_of_beq h1
    subst h1
    obtain ⟨y', hy, e⟩ := Option.map_eq_some_iff.mp hp
    cases e
    obtain ⟨s1, s2⟩ := slotE_ok o hy
    exact ⟨pe_bm PySem.F.plainAttrs_list PySem.F.slot_list_pop PySem.F.type_list_pop mt_popAt s1 (p_cons (h.pe X fm o b) p_nil (star_cons h2)) (ab_nc s2) (few1 h2) h3 (star_cons h2) rfl, rfl⟩
  · cases hp
theorem meth_ok {ob : Expr} {m : Str} {args : List Expr} {apos cpos : Pos} (hl : (apos.endLine == cpos.line) = true) : PS X (.Expr (.Call (.Attribute ob m apos) args [] cpos) pos) (tS X.K (exS (FT tab G k) G (cMeth c fm ob m args))) := by
  unfold cMeth
  split
  · rename_i x a hx
    obtain ⟨s1, s2⟩ := slotE_ok o hx
    split
    case isFalse => exact s_stuck
    rename_i hn
    split
    · rename_i hm
      have hm : m = "append" := eq_of_beq hm
      subst hm
      split
      · rename_i y b hp
        rw [xs_appPop]
        obtain ⟨p1, p2⟩ := popOf_ok h o hp
        exact ps_imp (ps_expr (pe_bm PySem.F.plainAttrs_list PySem.F.slot_list_append PySem.F.type_list_append mt_append s1 (pa_cons p1 pa_nil (star_cons p2)) (ab_nc s2) (few1 hn) hl (star_cons hn) rfl) rfl) fun D σ H z => appPop_imp z
      · rw [xs_app]
        exact ps_imp (ps_expr (pe_bm PySem.F.plainAttrs_list PySem.F.slot_list_append PySem.F.type_list_append mt_append s1 (p_cons (h.pe X fm o a) p_nil (star_cons hn)) (ab_nc s2) (few1 hn) hl (star_cons hn) rfl) rfl) fun D σ H z => app_imp z
    split
    · rename_i hm
      have hm : m = "extend" := eq_of_beq hm
      subst hm
      rw [xs_extd]
      exact ps_imp (ps_expr (pe_bm PySem.F.plainAttrs_list PySem.F.slot_list_extend PySem.F.type_list_extend mt_extend s1 (p_cons (h.pe X fm o a) p_nil (star_cons hn)) (ab_nc s2) (few1 hn) hl (star_cons hn) rfl) rfl) fun D σ H z => extd_imp z
    · exact s_stuck
  · split
    case isFalse => exact s_stuck
    rename_i hm
    have hm : m = "clear" := eq_of_beq hm
    subst hm
    split
    · rename_i x i hcl
      unfold clrOf at hcl
      split at hcl
      case h_2 => cases hcl
      rename_i o2 i2 j2 p2 p3
      obtain ⟨y', hy, e⟩ := Option.map_eq_some_iff.mp hcl
      cases e
      obtain ⟨s1, s2⟩ := slotE_ok o hy
      rw [xs_clr]
      exact ps_imp (ps_expr (pe_bm0 PySem.F.plainAttrs_list PySem.F.slot_list_clear PySem.F.type_list_clear mt_clear (pe_ix ix_list s1 pe_int fun _ _ => rfl) rfl hl) rfl) fun D σ H z => clr_imp z
    · exact s_stuck
  · exact s_stuck
theorem expr_ok {e : Expr} : PS X (.Expr e pos) (tS X.K (exS (FT tab G k) G (cExpr c fm e))) := by
  unfold cExpr
  split
  · split
    · rw [xs_skip]
      exact ps_imp ps_doc fun D σ H z => by
        obtain ⟨g0, H0, F, S, r, R, s, ev, q⟩ := z
        cases ev
        exact q _ _ s
    · exact s_stuck
  · split
    · split
      · rename_i hl
        exact meth_ok h o hl
      · exact s_stuck
    · rw [xs_ex]
      exact s_ex (h.pe X fm o _) rfl
    · exact s_stuck
  · exact s_stuck
theorem setlc_ok {i : Nat} {elt : Expr} {gs : List Comprehension} {scope : Scope} {lpos : Pos} (hs : sto fm x = true) (hi : ixOf x fm.N = some i) : PS X (.Assign [.Name x py] (.ListComp elt gs scope lpos) pos) (tS X.K (exS (FT tab G k) G (.asg i (cLc c t fm elt gs scope)))) := by
  obtain ⟨s1, s2⟩ := sto_ok o hs
  have nd := nd_of h o
  have hx : X.N[i]? = some x := by
    rw [o.hN]
    exact ixOf_get hi
  rw [xs_asg]
  cases hsw : swLc X.env.scope x py lpos scope with
  | false => exact ps_imp (ps_set nd hx s1 (lc_ok h o) (by rw [sw_lc, hsw]) s2) fun D σ H z => asg_imp z
  | true =>
    have hloc : X.env.scope.names.lookup x = some .local := by
      unfold swLc at hsw
      simp only [Bool.and_eq_true] at hsw
      exact eq_of_beq hsw.1.1.2
    have hsw2 : ∀ l, swapsWith (.ListComp elt gs scope lpos) (some (.Name x py)) l X.env = pure true := fun l => by rw [sw_lc, hsw]
    have none_ : evE (FT tab G k) G .stuck = fun _ _ => none := by
      funext r S
      simp [evE]
    have st : ∀ {st : Stmt}, PS X st (tS X.K (asgE i (evE (FT tab G k) G .stuck))) := fun {st} => ps_imp ps_never fun D σ H z => by
      obtain ⟨g0, H0, F, S, r, R, s, ev, q⟩ := z
      rw [none_] at ev
      cases ev
    unfold cLc
    split
    · split
      case isFalse => exact st
      rename_i tg it ifs a ha
      have ea : a = 0 := eq_of_beq ha
      subst ea
      unfold cLc1
      split
      case h_2 => exact st
      rename_i xs is one htg
      split
      case isFalse => exact st
      rename_i hc
      obtain ⟨h1, h4⟩ := (Bool.and_eq_true _ _).mp hc
      obtain ⟨h1, h3⟩ := (Bool.and_eq_true _ _).mp h1
      obtain ⟨h1, h2⟩ := (Bool.and_eq_true _ _).mp h1
      have kd := kd_of o h2
      have ob : ∀ s H C cl fp, XO (X.blk s H scope (compEnvC scope cl C X.env) fp) tab G k (fm.blk scope) := fun s H C cl fp => o.blk kd s H C cl fp
      have hl := fun s H C cl fp => (tg_ok (ob s H C cl fp) htg).2
      rw [ev_comp]
      have bo := blkOk_ok o h2
      have ps := ps_setLc (te := tE X.K (evE (FT tab G k) G (c (fm.blk scope) elt))) (tt := tTs X.K (evTs (FT tab G k) G (ifs.map (c (fm.blk scope))))) (g := tgR X.K is one) (pos := lpos) (py := py) (spos := pos) o.calm nd hx hloc (hsw2 _) (i_ok h o) bo (fun s H C cl fp => (tg_ok (ob s H C cl fp) htg).1) (fun s H C cl fp => ifs_ok h (ob s H C cl fp) (of_decide_eq_true h3) h4) (fun s H C cl fp => h.pe _ _ (ob s H C cl fp) elt) fun x => nset_fold h1 x
      refine ⟨fun pins s σ H D I q => ps.run pins s σ H D I ?_⟩
      exact comp_imp (X := X) bo (fun j => by rw [zip_snd (hl X.s_0 X.H_0 0 [] [])]) σ H _ I.len (asg_imp q)
    · split
      case isFalse => exact st
      rename_i tg it a tg2 it2 ifs b hab
      obtain ⟨e1, e2⟩ := (Bool.and_eq_true _ _).mp hab
      have e1 : a = 0 := eq_of_beq e1
      have e2 : b = 0 := eq_of_beq e2
      subst e1
      subst e2
      unfold cLc2
      split
      case h_2 => exact st
      rename_i y i1 z i2 htg htg2
      split
      case isFalse => exact st
      rename_i hc
      obtain ⟨h1, h6⟩ := (Bool.and_eq_true _ _).mp hc
      obtain ⟨h1, h5⟩ := (Bool.and_eq_true _ _).mp h1
      obtain ⟨h1, h4⟩ := (Bool.and_eq_true _ _).mp h1
      obtain ⟨h1, h3⟩ := (Bool.and_eq_true _ _).mp h1
      obtain ⟨h1, h2⟩ := (Bool.and_eq_true _ _).mp h1
      have kd := kd_of o h3
      have ob : ∀ s H C cl fp, XO (X.blk s H scope (compEnvC scope cl C X.env) fp) tab G k (fm.blk scope) := fun s H C cl fp => o.blk kd s H C cl fp
      rw [ev_comp2]
      have bo := blkOk_ok o h3
      have ps := ps_setLc2 (te := tE X.K (evE (FT tab G k) G (c (fm.blk scope) elt))) (tt1 := tTs X.K (evTs (FT tab G k) G (ifs.map (c (fm.blk scope))))) (tt := tTs X.K ts0) (g := tgR X.K [i1] true) (g1 := tgR X.K [i2] true) (wi1 := tI X.K .seq (consE (evE (FT tab G k) G (c (fm.blk scope) it2)) nilE)) (pos := lpos) (py := py) (spos := pos) (vs1 := [i2]) o.calm nd hx hloc (hsw2 _) (i_seq (h.pe X fm o it)) bo (fun l hl => by
        have e : l = i2 := by simpa using hl
        rw [e]
        simp) (fun s H C cl fp => (tg_ok (ob s H C cl fp) htg).1) (show ∀ (s : Shared) (H : Hp) (C : Addr) (cl : List (Str × Addr)) (fp : List Addr), PTs (X.blk s H scope (compEnvC scope cl C X.env) fp) [] (tTs X.K ts0) from fun s H C cl fp => p_ts0 (X := X.blk s H scope (compEnvC scope cl C X.env) fp))
        (fun s H C cl fp => i_seq (h.pe _ _ (ob s H C cl fp) it2)) (fun s H C cl fp => (tg_ok (ob s H C cl fp) htg2).1)
        (fun s H C cl fp => ifs_ok h (ob s H C cl fp) (of_decide_eq_true h5) h6) (fun s H C cl fp => h.pe _ _ (ob s H C cl fp) elt) (fun x => nset_fold h1 x) fun env x => nset_fold h2 x
      refine ⟨fun pins s σ H D I q => ps.run pins s σ H D I ?_⟩
      exact comp2_imp (X := X) bo (fun l => by simp) (of_decide_eq_true h4) σ H _ I.len (asg_imp q)
    · exact st
theorem par_ok {ts es : List Expr} {kk k2 : Nat} {p1 p2 : Pos} : PS X (.Assign [.Tuple ts kk p1] (.Tuple es k2 p2) pos) (tS X.K (exS (FT tab G k) G (cPar c fm ts es))) := by
  have nd := nd_of h o
  unfold cPar
  split
  case h_2 => exact s_stuck
  rename_i xs is hn
  split
  case isFalse => exact s_stuck
  rename_i hc
  obtain ⟨h1, h2⟩ := (Bool.and_eq_true _ _).mp hc
  have pa := h.es o h1
  split
  · rename_i hsw
    rw [xs_asgP]
    obtain ⟨n1, n2, n3, n4⟩ := names_ok o hn
    exact ps_imp (ps_asg (pe_tup pa) (pg_tup o.calm n1 n2 n3) rfl (swC_ok (by rw [o.sc]; exact hsw)) rfl) fun D σ H z => parT_imp (of_decide_eq_true h2) z
  · rename_i ns hsw
    split
    case isFalse => exact s_stuck
    rename_i hc2
    obtain ⟨m1, m4⟩ := (Bool.and_eq_true _ _).mp hc2
    obtain ⟨m1, m3⟩ := (Bool.and_eq_true _ _).mp m1
    obtain ⟨m1, m2⟩ := (Bool.and_eq_true _ _).mp m1
    have m1 : ns = xs := eq_of_beq m1
    subst m1
    have m3 := of_decide_eq_true m3
    have hw : ∀ kk k2 p1 p2, swappedStores [.Tuple ts kk p1] (.Tuple es k2 p2) X.env = pure (some ns) := fun kk k2 p1 p2 => swC_ok (by rw [o.sc]; exact hsw)
    have loc : ∀ y ∈ ns, X.env.scope.names.lookup y = some .local := fun y hy => by
      rw [o.sc]
      simpa using List.all_eq_true.mp m2 y hy
    rw [xs_asgP]
    have ix : ∀ {y i}, ixOf y fm.N = some i → X.N[i]? = some y := fun {y i} e => by
      rw [o.hN]
      exact ixOf_get e
    rcases (Bool.or_eq_true _ _).mp m4 with m4 | m4
    · obtain ⟨l1, l2⟩ := (Bool.and_eq_true _ _).mp m4
      obtain ⟨y, z, rfl⟩ := len2 (eq_of_beq l1)
      obtain ⟨a, b, rfl⟩ := len2 (eq_of_beq l2)
      obtain ⟨p, r, i, is', rfl, rfl, i1, hr⟩ := namesOf_cons hn
      obtain ⟨p', r', j, is2, rfl, rfl, i2, hr2⟩ := namesOf_cons hr
      obtain ⟨rfl, rfl⟩ := namesOf_nil hr2
      exact ps_imp (ps_par o.calm nd (ix i1) (ix i2) (by simpa using m3) (loc y (by simp)) (loc z (by simp)) pa (hw _ _ _ _) rfl) fun D σ H z => par2_imp z
    · obtain ⟨l1, l2⟩ := (Bool.and_eq_true _ _).mp m4
      obtain ⟨y, z, u, rfl⟩ := len3 (eq_of_beq l1)
      obtain ⟨a, b, d, rfl⟩ := len3 (eq_of_beq l2)
      obtain ⟨p, r, i, is', rfl, rfl, i1, hr⟩ := namesOf_cons hn
      obtain ⟨p', r', j, is2, rfl, rfl, i2, hr2⟩ := namesOf_cons hr
      obtain ⟨p3, r3, l, is3, rfl, rfl, i3, hr3⟩ := namesOf_cons hr2
      obtain ⟨rfl, rfl⟩ := namesOf_nil hr3
      have m3' : (i ≠ j ∧ i ≠ l) ∧ j ≠ l := by simpa using m3
      exact ps_imp (ps_par3 o.calm nd (ix i1) (ix i2) (ix i3) m3'.1.1 m3'.1.2 m3'.2 (loc y (by simp)) (loc z (by simp)) (loc u (by simp)) pa (hw _ _ _ _) rfl) fun D σ H z => par3_imp z
  · exact s_stuck
end
end MP
end

section
set_option maxRecDepth 100000
/-! MpC10: the telling of statements is right: the whole. -/
namespace MP
open PySem L2

variable {X : Cx} {tab : Str → Option Fn} {G : Str → Option D} {k : Nat} {fm : Fm} {c : Fm → Expr → E} {t : Expr → Bool} {x : Str} {e a b v : Expr} {pos p py : Pos} {env : Env} {st : Stmt}
section
variable (h : Cok tab G k c t) (o : XO X tab G k fm)
include h o
omit h o in
theorem sws_sub {ob i : Expr} {q : Pos} {l : Nat} : swapsWithSole [.Subscript ob i q] v l X.env = pure false := by
  cases v <;> rfl
omit h o in
theorem sws_tup {es : List Expr} {kk l : Nat} {q : Pos} : swapsWithSole [.Tuple es kk q] v l X.env = pure false := by
  cases v <;> rfl
omit h o in
theorem asg_sub {ob i : Expr} {q : Pos} (hn : nsli i = true) (w : Value) : assign (.Subscript ob i q) X.env w = (do
      let ov ← holding [w] (eval ob X.env)
      let iv ← holding [w, ov] (eval i X.env)
      standAt q
      holding [w, ov, iv] (setItem ov iv w)
      release [w, ov, iv] []) := by
  cases i <;> first | rfl | cases hn
theorem asg_ok {tg v : Expr} : PS X (.Assign [tg] v pos) (tS X.K (exS (FT tab G k) G (cAsg c t fm tg v))) := by
  have nd := nd_of h o
  unfold cAsg
  split
  · split
    case isFalse => exact s_stuck
    rename_i x py hs
    split
    case h_2 => exact s_stuck
    rename_i i hi
    split
    · exact setlc_ok h o hs hi
    · split
      case isFalse => exact s_stuck
      rename_i hn
      obtain ⟨s1, s2⟩ := sto_ok o hs
      have hx : X.N[i]? = some x := by
        rw [o.hN]
        exact ixOf_get hi
      have pv := h.pe X fm o v
      split
      · rename_i j hj
        rw [hj, ev_v] at pv
        rw [xs_asgV]
        exact ps_imp (ps_set nd hx s1 pv (sw_nlc hn) s2) fun D σ H z => asgV_imp2 z
      · rw [xs_asg]
        exact ps_imp (ps_set nd hx s1 pv (sw_nlc hn) s2) fun D σ H z => asg_imp z
  · split
    case h_2 => exact s_stuck
    rename_i hx
    split
    case isFalse => exact s_stuck
    rename_i hn
    rw [xs_setI]
    refine ps_imp (ps_asg (h.pe X fm o v) (pg_sub (slotE_ok o hx).1 (h.pe X fm o _) set_list fun w => ?_) sws_sub ss_sub rfl) fun D σ H z => setI_imp z
    exact asg_sub hn w
  · split
    · exact par_ok h o
    · split
      case isFalse => exact s_stuck
      rename_i hn
      split
      case h_2 => exact s_stuck
      rename_i qs hq
      obtain ⟨q1, q2, q3⟩ := tqs_ok o hq
      rw [xs_asgT]
      exact ps_imp (ps_asg (h.pe X fm o v) (pg_tup o.calm q1 q2 q3) sws_tup (ss_ntup hn) rfl) fun D σ H z => asgT_imp z
  · exact s_stuck
theorem for_ok {tg it : Expr} {body : List Stmt} {ss : List Sm} (hb : PSs X body (tS X.K (exSs (FT tab G k) G ss))) : PS X (.For tg it body [] pos) (tS X.K (exS (FT tab G k) G (cFor c fm tg it ss))) := by
  unfold cFor
  split
  case h_2 => exact s_stuck
  rename_i xs is one htg
  split
  case isFalse => exact s_stuck
  rename_i hn
  have pi := i_ok (tg := tg) (it := it) h o
  have hp : PassesOwn (model X.prog X.w) X.A X.env X.xe := by
    rw [o.no]
    exact PassesOwn.never
  split
  · rename_i k' j hk
    rw [hk] at pi
    dsimp only at pi
    rw [evs_cons, evs_nil, ev_v] at pi
    rw [xs_loopV]
    exact ps_imp (ps_for hp o.calm pi (tg_ok o htg).1 hb fun x => nset_fold hn x) fun D σ H z => loopV_imp z
  · rename_i k' its hk
    rw [hk] at pi
    rw [xs_loop]
    exact ps_imp (ps_for hp o.calm pi (tg_ok o htg).1 hb fun x => nset_fold hn x) fun D σ H z => loop_imp z
omit h o in
theorem map_ok {f : Stmt → Sm} (hf : ∀ st, PS X st (tS X.K (exS (FT tab G k) G (f st)))) : ∀ {sts : List Stmt}, PSs X sts (tS X.K (exSs (FT tab G k) G (sts.map f)))
  | [] => by
    rw [List.map_nil, xss_nil]
    exact s_nil
  | st :: sts => by
    rw [List.map_cons, xss_cons]
    exact s_cons (hf st) (map_ok hf)
theorem cS_ok : ∀ (n : Nat) (st : Stmt), PS X st (tS X.K (exS (FT tab G k) G (cS c t n fm st)))
  | 0, _ => s_stuck
  | n + 1, st => by
    unfold cS
    split
    · exact expr_ok h o
    · split
      · exact asg_ok h o
      · exact s_stuck
    · split
      · split
        · rename_i e i hi
          unfold slotE at hi
          split at hi
          · rename_i y q
            unfold slot at hi
            split at hi
            · cases hi
            rename_i hd
            split at hi
            · rename_i hv
              obtain ⟨d1, d2, _⟩ := dbg_ok o hd
              rw [xs_retV]
              exact s_retV (by rw [o.hN]; exact ixOf_get hi) (vis_ok o hv) d1 d2
            · cases hi
          · cases hi
        · rw [xs_ret]
          exact s_ret (h.pe X fm o _)
      · rw [xs_retN]
        exact s_retN
    · rw [xs_ifs]
      exact s_if (h.t_ o _) (map_ok fun st => cS_ok n st) (map_ok fun st => cS_ok n st)
    · split
      · rename_i hels
        rename_i els _
        have e : els = [] := by simpa using hels
        subst e
        exact for_ok h o (map_ok fun st => cS_ok n st)
      · exact s_stuck
    · rw [xs_brk]
      exact s_brk
    · rw [xs_cont]
      exact s_cont
    · rw [xs_skip]
      exact s_pass
    · exact s_stuck
end
/-- a body -/
def cB (n : Nat) (fm : Fm) (b : List Stmt) : List Sm := b.map (cS (cE n) (tst n) n fm)
theorem cB_ok (o : XO X tab G k fm) (n : Nat) (b : List Stmt) : PSs X b (tS X.K (exSs (FT tab G k) G (cB n fm b))) := map_ok fun st => cS_ok (cE_ok n) o n st
end MP
end

section
set_option maxRecDepth 100000
/-! MpRun: all defs of a text; the law's own call. -/
namespace MP
open PySem L2

variable {K : PySem.W.Frag} {g g0 g1 : Gho} {H H0 : Hp} {S S1 : Sto} {A B : List Addr} {tab : Str → Option Fn} {G : Str → Option D} {mg : Str → Option Value} {base : Heap} {P : Program} {w : World}

/-! ### arguments come in -/
theorem inW_ok {x : Str} {v : V} {w w' : W} (h : inW x w S = some (w', S1)) (a : Go K g0 H0 g S H) (o : VO K g H v w A) (f : Fre g H0 A) :
    ∃ g1, Go K g0 H0 g1 S1 H ∧ VO K g1 H v w' [] ∧ Same g.fz g1.fz ∧ (∃ more, g1.phi = g.phi ++ more) ∧ (∀ b, b ∉ A → g.fz b = none → g1.fz b = none) ∧ ∀ b, b ∉ A → b ∉ g.phi → b ∉ g1.phi := by
  unfold inW at h
  split at h
  · split at h
    · rename_i ds m
      split at h
      case isFalse => cases h
      rename_i hn
      cases h
      obtain ⟨p, vs, B, rfl, hH, rfl, ow⟩ := o
      obtain ⟨f0, f1, f2⟩ := f.2 p (by simp)
      have dv : DRs K g.fz vs ds := by
        have hB : ∀ {ds : List D} {vs : List V} {B : List Addr}, nolAll ds = true → Owns K g.fz H vs ds m B → DRs K g.fz vs ds := fun {ds} => by
          induction ds with
          | nil => exact fun _ q => q.1
          | cons d ds ih =>
            intro vs B n ⟨v, r, B1, C, e, eA, q, t⟩
            have n' : nol d = true ∧ nolAll ds = true := by simpa [nolAll] using n
            exact ⟨v, r, e, (own_atom' (nol_isL n'.1) q).2, ih n'.2 t⟩
        exact hB hn ow
      refine ⟨⟨g.fz, g.phi ++ [p]⟩, ⟨a.le, ?_, ⟨a.ok.sub, by rw [List.length_append, List.length_append, a.ok.len]; rfl, ?_, fun l q zs e1 e2 => ?_⟩, a.fr, a.nw, a.dm⟩, ⟨rfl, p, rfl, ?_⟩, fun _ _ q => q, ⟨[p], rfl⟩, fun _ _ q => q, fun b hb hp => ?_⟩
      · obtain ⟨m, e, n⟩ := a.phi
        refine ⟨m ++ [p], by rw [e, List.append_assoc], fun b hb => ?_⟩
        rcases List.mem_append.mp hb with hb | hb
        · exact n b hb
        · have e : b = p := by simpa using hb
          rw [e]
          exact f0
      · refine List.nodup_append.mpr ⟨a.ok.nd, by simp, fun b hb c hc => ?_⟩
        have e : c = p := by simpa using hc
        rw [e]
        exact fun z => f2 (z ▸ hb)
      · by_cases hl : l < g.phi.length
        · rw [List.getElem?_append_left hl] at e1
          rw [List.getElem?_append_left (by rw [← a.ok.len]; exact hl)] at e2
          exact a.ok.cell l q zs e1 e2
        · rw [List.getElem?_append_right (by omega)] at e1
          rw [List.getElem?_append_right (by rw [← a.ok.len]; omega)] at e2
          rw [a.ok.len] at e1
          cases hz : l - S.length with
          | zero =>
            rw [hz] at e1 e2
            cases e1
            cases e2
            exact ⟨vs, hH, f1, dv, hn⟩
          | succ z =>
            rw [hz] at e1
            cases e1
      · rw [List.getElem?_append_right (by rw [a.ok.len]; omega), a.ok.len, Nat.sub_self]
        rfl
      · rw [List.mem_append]
        intro z
        rcases z with z | z
        · exact hp z
        · exact hb (by
            have e : b = p := by simpa using z
            rw [e]
            simp)
    · cases h
      exact ⟨g, a, o.1 ▸ o, fun _ _ q => q, ⟨[], by simp⟩, fun _ _ q => q, fun _ _ q => q⟩
    · cases h
  · cases h
    have sm : Same g.fz (ext g.fz H A) := same_ext fun b hb => (f.2 b hb).2.1
    exact ⟨⟨ext g.fz H A, g.phi⟩, a.ext o.lsts f.2, (o.frz sm ⟨[], by simp⟩ fun b hb => ext_in hb).own, sm, ⟨[], by simp⟩, fun b hb q => (ext_out hb).trans q, fun _ _ q => q⟩
theorem inWs_ok : ∀ {ps : List Str} {vs : List V} {ws us : List W} {S S1 : Sto} {g : Gho} {A : List Addr}, inWs ps ws S = some (us, S1) → Go K g0 H0 g S H → VOs K g H vs ws A → Fre g H0 A → ∃ g1, Go K g0 H0 g1 S1 H ∧ VOs K g1 H vs us [] ∧ Same g.fz g1.fz ∧ ∃ more, g1.phi = g.phi ++ more
  | [], vs, [], us, S, S1, g, A, h, a, o, f => by
    cases h
    exact ⟨g, a, ⟨o.1, rfl⟩, fun _ _ q => q, [], by simp⟩
  | [], _, _ :: _, _, _, _, _, _, h, _, _, _ => by cases h
  | _ :: _, _, [], _, _, _, _, _, h, _, _, _ => by cases h
  | x :: ps, _, w :: ws, us, S, S2, g, _, h, a, ⟨v, r, B, C, e, eA, o, t⟩, f => by
    subst e
    subst eA
    unfold inWs at h
    split at h
    case h_2 => cases h
    rename_i w' S1 h1
    split at h
    case h_2 => cases h
    rename_i us' S3 h2
    cases h
    have nd := List.nodup_append.mp f.1
    obtain ⟨g1, a1, o1, s1, p1, k1, k2⟩ := inW_ok h1 a o ⟨nd.1, fun b hb => f.2 b (by simp [hb])⟩
    have nB : ∀ b ∈ C, b ∉ B := fun b hb z => nd.2.2 b z b hb rfl
    obtain ⟨g2, a2, o2, s2, p2⟩ := inWs_ok h2 a1 (t.mono s1 p1 fun _ _ _ q => q) ⟨nd.2.1, fun b hb => by
      obtain ⟨q1, q2, q3⟩ := f.2 b (by simp [hb])
      exact ⟨q1, k1 b (nB b hb) q2, k2 b (nB b hb) q3⟩⟩
    exact ⟨g2, a2, ⟨v, r, [], [], rfl, rfl, o1.mono s2 p2 fun _ z => (by cases z), o2⟩, s1.trans s2, by
      obtain ⟨m1, e1⟩ := p1
      obtain ⟨m2, e2⟩ := p2
      exact ⟨m1 ++ m2, by rw [e2, e1, List.append_assoc]⟩⟩
end MP
end

section
set_option maxRecDepth 100000
/-! MpRun2: every def of the text keeps its promise; the law's own call. -/
namespace MP
open PySem L2

variable {K : PySem.W.Frag} {g g0 g1 : Gho} {H H0 : Hp} {S S1 : Sto} {A B : List Addr} {tab : Str → Option Fn} {G : Str → Option D} {mg : Str → Option Value} {base : Heap} {P : Program} {w : World}

theorem vos_at : ∀ {ws : List W} {vs : List V} {i : Nat} {u : W}, VOs K g H vs ws [] → ws[i]? = some u → ∃ v, vs[i]? = some v ∧ VO K g H v u []
  | [], _, _, _, _, h => by simp at h
  | w :: ws, _, 0, u, ⟨v, r, B, C, e, eA, o, t⟩, h => by
    cases h
    have nB : B = [] := (List.append_eq_nil_iff.mp eA.symm).1
    rw [nB] at o
    exact ⟨v, by rw [e]; rfl, o⟩
  | w :: ws, _, i + 1, u, ⟨v, r, B, C, e, eA, o, t⟩, h => by
    have nC : C = [] := (List.append_eq_nil_iff.mp eA.symm).2
    rw [nC] at t
    obtain ⟨v', h1, h2⟩ := vos_at (i := i) t (by simpa using h)
    exact ⟨v', by rw [e]; simpa using h1, h2⟩
theorem inWs_len : ∀ {ps : List Str} {ws us : List W} {S S1 : Sto}, inWs ps ws S = some (us, S1) → us.length = ws.length ∧ ws.length = ps.length
  | [], [], us, _, _, h => by
    cases h
    exact ⟨rfl, rfl⟩
  | [], _ :: _, _, _, _, h => by cases h
  | _ :: _, [], _, _, _, h => by cases h
  | x :: ps, w :: ws, us, S, S1, h => by
    unfold inWs at h
    split at h
    case h_2 => cases h
    split at h
    case h_2 => cases h
    rename_i h2
    cases h
    obtain ⟨e1, e2⟩ := inWs_len h2
    exact ⟨by rw [List.length_cons, List.length_cons, e1], by rw [List.length_cons, List.length_cons, e2]⟩
/-- the slots at a def's entry -/
theorem start_sl {N : List Str} {us : List W} {vs : List V} (a : Go K g0 H0 g S H) (o : VOs K g H vs us []) (hl : us.length ≤ N.length) :
    SL K g0 H0 g (fun _ => []) S H (us.map some ++ List.replicate (N.length - us.length) none) (L2.start N vs) := by
  have el := o.length
  refine ⟨a, fun i w h => ?_, fun _ => Fre.nil, fun _ _ _ _ z => (by cases z), fun _ _ z => (by cases z), fun _ _ => rfl, ?_⟩
  · by_cases hi : i < us.length
    · rw [List.getElem?_append_left (by simpa using hi), List.getElem?_map] at h
      obtain ⟨u, h1, h2⟩ := Option.map_eq_some_iff.mp h
      cases h2
      obtain ⟨v, h3, h4⟩ := vos_at o h1
      refine ⟨v, ?_, h4⟩
      unfold L2.start
      rw [List.getElem?_append_left (by simpa [el] using hi), List.getElem?_map, h3]
      rfl
    · rw [List.getElem?_append_right (by simpa using Nat.not_lt.mp hi), List.getElem?_replicate] at h
      split at h <;> cases h
  · unfold L2.start
    simp [el]

/-- a def of the text with its row of the table -/
structure DefOk (K : PySem.W.Frag) (mg : Str → Option Value) (x : Str) (fn : Fn) : Prop where
  ex : ∃ (addr : Addr) (fd : FuncData) (st : Stmt) (dvs : List V) (n : Nat), mg x = some (.ref addr) ∧ PySem.W.keepIn K (.ref addr) = true ∧ FunD K x x (defArgs st) (defBody st) (defScope st) dvs [] addr fd ∧ Bnd K fd fn ∧
    FnScope fn.nm fn.ps (defScope st) ∧ fn.body = cB n ⟨fn.nm, defScope st, fun _ => true⟩ (defBody st)
  dbg : (x == ("__debug__" : Str)) = false
structure Facts (K : PySem.W.Frag) (mg : Str → Option Value) (tab : Str → Option Fn) (G : Str → Option D) : Prop where
  defs : ∀ f fn, tab f = some fn → DefOk K mg f fn
  bi : ∀ x ∈ biNames, mg x = none
  gv : ∀ x d, G x = some d → ∃ v u, mg x = some u ∧ RelV v u ∧ DR K (fun _ => none) v d

theorem run_ok {fn : Fn} {k : Nat} {X : Cx} {b : List Stmt} {n : Nat} {sc : Scope} (o : XO X tab G k ⟨fn.nm, sc, fun _ => true⟩) (hb : fn.body = cB n ⟨fn.nm, sc, fun _ => true⟩ b) (hN : fn.ps.length ≤ fn.nm.length) {vs : List V} {Q : VK} (h : spR X.K (fn.run (FT tab G k) G) vs H Q) :
    ∃ t, PSs X b t ∧ t { nx := fun _ H' => Q .non H', rt := Q } (start fn.nm vs) H := by
  refine ⟨_, cB_ok o n b, ?_⟩
  obtain ⟨g0, H0, g, S, ws, A, w, S', a, ow, f, ev, q⟩ := h
  unfold Fn.run at ev
  split at ev
  case h_2 => cases ev
  rename_i us S1 h1
  obtain ⟨g1, a1, o1, s1, _⟩ := inWs_ok h1 a ow f
  obtain ⟨l1, l2⟩ := inWs_len h1
  have sl := start_sl (N := fn.nm) a1 o1 (by omega)
  rw [← hb]
  split at ev
  · rename_i w2 S2 h2
    cases ev
    exact tS_of (F := fun _ => none) ⟨g1, _, sl, fun _ _ z => by cases z⟩ h2 fun v H' z => q v H' z
  · rename_i r2 S2 h2
    cases ev
    exact tS_of (F := fun _ => none) ⟨g1, _, sl, fun _ _ z => by cases z⟩ h2 fun σ' H' ⟨g2, As, s2, _⟩ => q _ _ ⟨g2, [], s2.go, ⟨rfl, rfl⟩, Fre.nil⟩
  · cases ev
theorem gD_of {k : Nat} {x qual : Str} {st : Stmt} {f : Addr} {fd : FuncData} {N ps : List Str} {sp : SpG} {dvs : List V} (F : FunD K x qual (defArgs st) (defBody st) (defScope st) dvs [] f fd) (Sc : FnScope N ps (defScope st))
    (len : ∀ vs H Q, sp vs H Q → vs.length = ps.length)
    (hbody : ∀ (cdv : Value) (A : Around) (outer : List Env) (s : Shared) (H : Hp) (vs : List V) (Q : VK), Rm k (A.deeper (PyProof.Rows.envOfC qual (defScope st) s.heap.objs.size f cdv)) → sp vs H Q →
      ∃ t, PSs (bodyX P w K mg base N qual (defScope st) f cdv A outer s H) (defBody st) t ∧ t { nx := fun _ H' => Q .non H', rt := Q } (start N vs) H) :
    FnG P w K mg base (k + 1) f fd ps sp := by
  obtain ⟨oc, od, dV, kV, doc, pm, an, cdv, ct, osl, rfl, lk, hcd, _, _⟩ := F.ex
  refine ⟨len, fun A outer s H args us vs Q rm en hbind rv hsp => ?_⟩
  have hlen := len _ _ _ hsp
  have inK : K.In s.heap := en.mod.kin.keeps fun b o q => (en.bs b o q).1
  have nolim : s.heap.NoLimit := en.mod.nolimit.keeps fun b o q => (en.bs b o q).1
  have kinds : ∀ y ∈ ps.zip us, (defScope st).names.lookup y.1 = some .local ∨ ((defScope st).names.lookup y.1 = some .cell ∧ ((cellsFrom (s.heap.objs.size + 1) (defScope st).names []).lookup y.1).isSome = true) := fun y hy => by
    rcases Sc.par y.1 (List.of_mem_zip hy).1 with q | q
    · exact .inl q
    · exact .inr ⟨q, PySem.W.cellsFrom_some _ _ _ (.inl q)⟩
  refine codeAny_call_function rm.room.depth (inK _ _ lk) rfl Sc.co Sc.gen rfl (PySem.W.codeRec_of inK hcd) (hbind _ _ _ _ ?_)
  refine wpAny_newFunctionEnv_cells Sc.kind kinds fun env henv s1 ic => ?_
  subst henv
  refine ⟨nolim.keeps ic.toInCall.keep, codeAny_func ?_⟩
  obtain ⟨t, ht, hq⟩ := hbody cdv A outer s H vs Q (rm.deeper _) hsp
  have I : Inv (cxOf CX0 P w K mg base N qual (defScope st) f cdv A outer s H E0) [] (start N vs) H s1 := inv_start Sc rm.room.hd en hlen rv ic
  refine wpAny_mono (ht.nox.run [] s1 (start N vs) H _ I hq) (fun fl s' hs => ?_) fun e s' hs => hs
  have done : ∀ {σ' : L2.St} {H' : Hp} {v : V} {u : Value}, Inv (cxOf CX0 P w K mg base N qual (defScope st) f cdv A outer s H E0) [] σ' H' s' → RelV v u → Q v H' → CE outer P w H s Q u s' :=
    fun {σ' H' v u} J rel q => ⟨v, H', J.os, J.bare, J.base, J.hok, rel, q⟩
  cases fl with
  | ret u =>
    obtain ⟨v, σ', H', J, rel, q⟩ := hs
    exact done J rel q
  | next =>
    obtain ⟨σ', H', J, q⟩ := hs
    exact done (v := V.non) (u := Value.none) J rfl q
  | brk =>
    obtain ⟨_, _, _, q⟩ := hs
    exact q.elim
  | cont =>
    obtain ⟨_, _, _, q⟩ := hs
    exact q.elim
theorem spR_len {ev : List W → Sto → Option (W × Sto)} {n : Nat} (he : ∀ ws S o, ev ws S = some o → ws.length = n) : ∀ vs H Q, spR K ev vs H Q → vs.length = n := fun vs H Q ⟨g0, H0, g, S, ws, A, w, S', a, o, f, e, q⟩ => by
  rw [o.length, he ws S _ e]
theorem run_len {F : Fns} {fn : Fn} : ∀ ws S o, fn.run F G ws S = some o → ws.length = fn.ps.length := fun ws S o h => by
  unfold Fn.run at h
  split at h
  case h_2 => cases h
  rename_i h1
  exact (inWs_len h1).2
theorem all_ok (F : Facts K mg tab G) : ∀ (k : Nat) (f : Str) (fn : Fn), tab f = some fn → ∀ addr fd, mg f = some (.ref addr) → (∃ st dvs n, FunD K f f (defArgs st) (defBody st) (defScope st) dvs [] addr fd ∧ FnScope fn.nm fn.ps (defScope st) ∧ fn.body = cB n ⟨fn.nm, defScope st, fun _ => true⟩ (defBody st)) →
    FnG P w K mg base (k + 1) addr fd fn.ps (spR K (fn.run (FT tab G k) G)) := by
  intro k
  induction k with
  | zero =>
    intro f fn hf addr fd hm ⟨st, dvs, n, FD, Sc, hb⟩
    refine gD_of FD Sc (spR_len run_len) fun cdv A outer s H vs Q rm h => ?_
    refine run_ok (X := bodyX P w K mg base fn.nm f (defScope st) addr cdv A outer s H) (sc := defScope st) ⟨rfl, Sc.nd, rfl, Sc.kind, rfl, rm, ⟨fun f' fn' hf' => ?_⟩, F.bi, F.gv, rfl, fun _ _ => rfl⟩ hb (by
      have := congrArg List.length Sc.pre
      rw [List.length_take] at this
      omega) h
    obtain ⟨addr', fd', st', dvs', n', h1, h2, h3, h4, h5, h6⟩ := (F.defs f' fn' hf').ex
    exact ⟨addr', fd', h1, h2, h4, (F.defs f' fn' hf').dbg, fun j hj => by cases hj⟩
  | succ k ih =>
    intro f fn hf addr fd hm ⟨st, dvs, n, FD, Sc, hb⟩
    refine gD_of FD Sc (spR_len run_len) fun cdv A outer s H vs Q rm h => ?_
    refine run_ok (X := bodyX P w K mg base fn.nm f (defScope st) addr cdv A outer s H) (sc := defScope st) ⟨rfl, Sc.nd, rfl, Sc.kind, rfl, rm, ⟨fun f' fn' hf' => ?_⟩, F.bi, F.gv, rfl, fun _ _ => rfl⟩ hb (by
      have := congrArg List.length Sc.pre
      rw [List.length_take] at this
      omega) h
    obtain ⟨addr', fd', st', dvs', n', h1, h2, h3, h4, h5, h6⟩ := (F.defs f' fn' hf').ex
    refine ⟨addr', fd', h1, h2, h4, (F.defs f' fn' hf').dbg, fun j hj => ?_⟩
    cases hj
    exact ih f' fn' hf' addr' fd' h1 ⟨st', dvs', n', h3, h5, h6⟩
end MP
end

section
set_option maxRecDepth 100000
/-! MpLaw: the law's own call. -/
namespace MP
open PySem L2 PyProof.Rows

/-- what is wanted of the law's call -/
def Ended (s : Shared) (r : Result) (t : Shared) : Prop := r = .ok (.ret (.bool true)) ∧ OldK s.heap t.heap ∧ t.os = s.os ∧ AllBare t.gens
variable {K : PySem.W.Frag} {P : Program} {w : World} {mg mb : Str → Option Value} {s : Shared} {fa a : Addr} {fd : FuncData} {x : Str} {sp : SpG} {k : Nat} {vs : List Value}

/-- the heap that the script alone is tracked in -/
def hScr (a : Addr) (o : Obj) (xs : List V) : Hp := fun b => if b = a then some (.frz o (.lst xs)) else none
/-- with a tracked heap that holds at most the script -/
theorem law_in {H : Hp} {ob : Obj} {zs : List V} (inK : K.In s.heap) (nG : s.heap.Ns mainGlobals mg) (nB : s.heap.Ns builtinsNs mb) (plain : ∀ y : Str, y ≠ "__name__" → mb y = bootBuiltins y) (lim : s.heap.NoLimit) (bare : s.gens = #[]) (rm : Rm k callerA)
    (one : ∀ b u, H b = some u → b = a ∧ K.lookup a = none ∧ u = .frz ob (.lst zs) ∧ s.heap.get? b = some ob) (notD : ∀ es ep, ob.data ≠ .dict es ep) (hok : HOk P w H s.heap)
    (F : ∀ base : Heap, K.In base → base.Ns mainGlobals mg → FnG P w K mg base k fa fd [x] sp) (bnd : ∀ u : Value, BindsTo s fd ⟨[u], []⟩ [(x, u)]) (hsp : sp [.ref a] H fun v _ => v = .bl true) :
    codeAny (model P w) callerA (.call (.ref fa) ⟨[.ref a], []⟩) (Ended s) s := by
  have free : ∀ {b : Addr} {o : Obj}, s.heap.get? b = some o → (∀ u, H b = some u → False) → (hidT s.heap H).get? b = some o := fun {b o} e n => hidT_get e (by
    cases q : H b with
    | none => rfl
    | some u => exact (n u q).elim)
  have spaces : ∀ {b : Addr} {m : Str → Option Value}, s.heap.Ns b m → (hidT s.heap H).Ns b m := by
    rintro b m ⟨o, es, ep, e, d, r⟩
    refine ⟨o, es, ep, free e fun u q => ?_, d, r⟩
    obtain ⟨_, _, _, e2⟩ := one b u q
    rw [e] at e2
    cases e2
    exact notD _ _ d
  have below : K.In (hidT s.heap H) := fun b o e => free (inK b o e) fun u q => by
    obtain ⟨rfl, n, _⟩ := one b u q
    rw [n] at e
    cases e
  obtain ⟨mc, l1, l2⟩ := lim
  have env : Env0 P w K mg (hidT s.heap H) callerA [] s H :=
    { frames := rfl
      mod := ⟨below, spaces nG, ⟨mb, spaces nB, plain⟩, mc, spaces l1, l2⟩
      bs := fun _ _ e => of_hidT e
      bsz := Nat.le_of_eq (hidT_size _ _)
      funs := trivial
      frf := fun _ z => by cases z
      hok := hok
      bare := .of_eq bare }
  have call := (F _ below (spaces nG)).run callerA [] s H ⟨[.ref a], []⟩ [.ref a] [.ref a] _ rm env (bnd _) (.cons rfl .nil) hsp
  refine codeAny_mono call fun r t h => ?_
  match r, h with
  | .error _, h => exact h.elim
  | .ok .next, h => exact h.elim
  | .ok .brk, h => exact h.elim
  | .ok .cont, h => exact h.elim
  | .ok (.ret u), ⟨v, H', os, br, un, hok', rel, q⟩ =>
    subst q
    cases (show u = Value.bool true from rel)
    refine ⟨rfl, OldK.of_keep fun b o e => ?_, os, br⟩
    cases q : H b with
    | none => exact un.keep b o e q (fun z => by cases z) fun z => by cases z
    | some y =>
      obtain ⟨_, _, rfl, e2⟩ := one b y q
      rw [e] at e2
      cases e2
      exact (hok' b _ (un.frzs b _ _ q)).1
theorem law_go {ns : List Int} (inK : K.In s.heap) (nG : s.heap.Ns mainGlobals mg) (nB : s.heap.Ns builtinsNs mb) (plain : ∀ y : Str, y ≠ "__name__" → mb y = bootBuiltins y) (lim : s.heap.NoLimit) (bare : s.gens = #[]) (rm : Rm k callerA)
    (at_ : s.heap.get? a = some { cls := .type "list", data := .seq vs.toArray }) (isI : IntsAre vs ns) (small : ns.length ≤ sizeLine)
    (F : ∀ base : Heap, K.In base → base.Ns mainGlobals mg → FnG P w K mg base k fa fd [x] sp) (bnd : ∀ u : Value, BindsTo s fd ⟨[u], []⟩ [(x, u)])
    (hsp : ∀ H : Hp, Scr K H a (ns.map V.int) → sp [.ref a] H fun v _ => v = .bl true) : codeAny (model P w) callerA (.call (.ref fa) ⟨[.ref a], []⟩) (Ended s) s := by
  have rv := vals_ints isI
  have len := isI.length
  cases hk : K.lookup a with
  | some o =>
    have e := inK a o hk
    rw [at_] at e
    cases e
    refine law_in (H := fun _ => none) (ob := { cls := .type "list", data := .seq vs.toArray }) (zs := []) inK nG nB plain lim bare rm (fun b u z => by cases z) (fun _ _ z => by cases z) (fun b u z => by cases z) F bnd (hsp _ (.inr (.inr ⟨_, vs.toArray, _, hk, rfl, rfl, rfl, ?_, ?_⟩)))
    · rw [List.size_toArray, len]
      exact small
    · simpa using rv
  | none =>
    have at1 : ∀ {b : Addr} {u : HO}, hScr a { cls := .type "list", data := .seq vs.toArray } (ns.map V.int) b = some u → b = a ∧ u = .frz { cls := .type "list", data := .seq vs.toArray } (.lst (ns.map V.int)) := fun {b u} z => by
      unfold hScr at z
      split at z
      · rename_i e
        cases z
        exact ⟨e, rfl⟩
      · cases z
    refine law_in (ob := { cls := .type "list", data := .seq vs.toArray }) (zs := ns.map V.int) inK nG nB plain lim bare rm (fun b u z => ?_) (fun _ _ z => by cases z) (fun b u z => ?_) F bnd (hsp (hScr a { cls := .type "list", data := .seq vs.toArray } (ns.map V.int)) (.inl ⟨_, if_pos rfl⟩))
    · obtain ⟨rfl, e⟩ := at1 z
      exact ⟨rfl, hk, e, at_⟩
    · obtain ⟨rfl, e⟩ := at1 z
      subst e
      exact ⟨at_, by rw [List.length_map]; exact small, vs, _, rv, at_⟩
/-- the script is the def's one argument -/
theorem scr_sp {ev : List W → Sto → Option (W × Sto)} {H : Hp} {ns : List Int} {m : Nat} {S' : Sto} (h : ev [.scr ns] [] = some (.dat (.bool true) m, S')) (hs : Scr K H a (ns.map V.int)) : spR K ev [.ref a] H fun v _ => v = .bl true := by
  refine ⟨⟨H, []⟩, H, ⟨H, []⟩, [], [.scr ns], [], _, _, Go.refl ⟨fun _ _ e => e, rfl, List.nodup_nil, fun _ _ _ e => by simp at e⟩, ⟨.ref a, [], [], [], rfl, rfl, ⟨rfl, a, rfl, hs⟩, rfl, rfl⟩, Fre.nil, h, fun v H' z => ?_⟩
  obtain ⟨g', A, _, o, _⟩ := z
  exact o.2

theorem law_bind {fn : Fn} {u : Value} (b : Bnd K fd fn) (ps : fn.ps = [("script" : Str)]) (sh : (1, []) ∈ fn.sh) (inK : K.In s.heap) : BindsTo s fd ⟨[u], []⟩ [("script", u)] := by
  obtain ⟨dv, du, _, _, h⟩ := b.dflt
  have z := h _ sh s [u] [] [u] inK rfl rfl (by rw [ps]; rfl)
  rw [ps] at z
  exact z
/-- THE LAW: from the facts behind the top and the evaluator's answer -/
theorem law_mp {l : PySem.W.OpenLaw} {n k : Nat} {q : Program} {loose : List Str} {XP : (Str → Option Value) → Heap → Prop} {YP : World → Heap → Prop} {d : DefRec} {K : Params → PySem.W.Frag} {tab : Str → Option Fn} {G : Str → Option D} {fn : Fn}
    (most : l.most = some n) (small : n ≤ sizeLine) (plain : d.params.defaults = []) (rm : Rm (k + 1) callerA) (hK : ∀ (w : World) (h : Heap), YP w h → (K w.params).In h)
    (F : ∀ (w : World) (mg : Str → Option Value) (h : Heap), (K w.params).In h → h.Ns mainGlobals mg → Facts (K w.params) mg tab G)
    (hf : tab d.name = some fn) (ps : fn.ps = [("script" : Str)]) (sh : (1, []) ∈ fn.sh) (ans : ∀ ns : List Int, ns.length ≤ n → ∃ m S', fn.run (FT tab G k) G [.scr ns] [] = some (.dat (.bool true) m, S')) :
    PySem.W.WalkO q loose XP YP l.row.toRowW d [] (fun f vs => PySem.call f vs) := by
  refine Att.attach_call most plain fun w s0 s mg mb fa o pm cd doc a vs ns Gr Y _ _ _ hmg at_ isI len bare => ?_
  have inK := hK w _ Y
  have Fa := F w mg _ inK Gr.T.g
  obtain ⟨addr, fd, st, dvs, nn, m1, m2, m3, m4, m5, m6⟩ := (Fa.defs _ _ hf).ex
  have e : addr = fa := by
    rw [hmg] at m1
    cases m1
    rfl
  subst e
  have hF : ∀ base : Heap, (K w.params).In base → base.Ns mainGlobals mg → FnG l.prog w (K w.params) mg base (k + 1) addr fd [("script" : Str)] (spR (K w.params) (fn.run (FT tab G k) G)) := fun base _ _ => by
    rw [← ps]
    exact all_ok Fa k _ _ hf addr fd m1 ⟨st, dvs, nn, m3, m5, m6⟩
  obtain ⟨m, S', ha⟩ := ans ns len
  exact law_go inK Gr.T.g Gr.T.b Gr.T.builtins Gr.T.nolimit bare rm at_ isI (Nat.le_trans len small) hF (fun u => law_bind m4 ps sh inK) fun H hs => scr_sp ha hs
end MP
end

section
set_option maxRecDepth 100000
/-! MpTab: the facts of a text's defs, told to the evaluator. -/
namespace MP
open PySem L2 PyProof.Rows

variable {K : PySem.W.Frag} {mg : Str → Option Value} {h : Heap} {x : Str} {st : Stmt} {fn : Fn} {n : Nat} {f T : Addr} {oc kV dc pm cd ct : Value} {od an : Option Addr} {sl : Array (Option Value)}

/-- each shape binds: no defaults -/
def Bn (x : Str) (st : Stmt) (fn : Fn) : Prop := fn.df = [] ∧ ∀ sh ∈ fn.sh, ∀ (kV doc pm : Value) (an : Option Addr) (cdv ct : Value) (us ks zs : List Value), us.length = sh.1 → ks.length = sh.2.length → arr fn.ps us (sh.2.zip ks) [] = some zs →
  bindArgs (PySem.W.fnOf x x (defArgs st) (defBody st) (defScope st) .none kV doc pm an cdv ct) ⟨us, sh.2.zip ks⟩ = pure (fn.ps.zip zs)
/-- with one default, an int -/
def Bn1 (x : Str) (st : Stmt) (fn : Fn) (i : Int) : Prop := fn.df = [.int i] ∧ ∀ sh ∈ fn.sh, ∀ (T : Addr) (kV doc pm : Value) (an : Option Addr) (cdv ct : Value) (us ks zs : List Value) (u : Value), us.length = sh.1 → ks.length = sh.2.length → arr fn.ps us (sh.2.zip ks) (fn.dn.zip [u]) = some zs →
  ∃ k, bindArgs (PySem.W.fnOf x x (defArgs st) (defBody st) (defScope st) (.ref T) kV doc pm an cdv ct) ⟨us, sh.2.zip ks⟩ = seqItems? (.ref T) >>= k ∧ k (some #[u]) = pure (fn.ps.zip zs)
theorem def_mk (X : K.In h) (G : h.Ns mainGlobals mg) (a : PySem.W.nsIn K mainGlobals x = some (some (.ref f))) (l : K.lookup f = some ⟨oc, od, .func (PySem.W.fnOf x x (defArgs st) (defBody st) (defScope st) .none kV dc pm an cd ct), sl⟩) (c : PySem.W.codeIn K cd x = true)
    (k : PySem.W.keepIn K (.ref f) = true) (sc : FnScope fn.nm fn.ps (defScope st)) (hb : fn.body = cB n ⟨fn.nm, defScope st, fun _ => true⟩ (defBody st)) (hd : (x == ("__debug__" : Str)) = false) (bn : Bn x st fn) : DefOk K mg x fn := by
  refine ⟨⟨f, _, st, [], n, PySem.W.mg_of X G a, k, ⟨⟨oc, od, .none, kV, dc, pm, an, cd, ct, sl, rfl, l, c, .inl ⟨rfl, rfl⟩, .inl rfl⟩, k⟩, ⟨[], [], by rw [bn.1]; rfl, .nil, fun sh hs s us ks zs _ h1 h2 h3 => ?_⟩, sc, hb⟩, hd⟩
  rw [List.zip_nil_right] at h3
  exact .of_eq (bn.2 sh hs kV dc pm an cd ct us ks zs h1 h2 h3)
theorem def_mk1 {i : Int} {tk : PySem.Tok} {tc : Value} {td : Option Addr} {tn : Nat} {tl : Array (Option Value)} (X : K.In h) (G : h.Ns mainGlobals mg) (a : PySem.W.nsIn K mainGlobals x = some (some (.ref f))) (l : K.lookup f = some ⟨oc, od, .func (PySem.W.fnOf x x (defArgs st) (defBody st) (defScope st) (.ref T) kV dc pm an cd ct), sl⟩) (c : PySem.W.codeIn K cd x = true)
    (k : PySem.W.keepIn K (.ref f) = true) (t : K.lookup T = some ⟨tc, td, .seq #[.int i tk] tn, tl⟩) (sc : FnScope fn.nm fn.ps (defScope st)) (hb : fn.body = cB n ⟨fn.nm, defScope st, fun _ => true⟩ (defBody st)) (hd : (x == ("__debug__" : Str)) = false) (bn : Bn1 x st fn i) : DefOk K mg x fn := by
  refine ⟨⟨f, _, st, [.int i], n, PySem.W.mg_of X G a, k, ⟨⟨oc, od, .ref T, kV, dc, pm, an, cd, ct, sl, rfl, l, c, .inr ⟨by simp, T, _, [.int i tk], tn, rfl, t, rfl, .cons ⟨tk, rfl⟩ .nil⟩, .inl rfl⟩, k⟩, ⟨[.int i], [.int i tk], by rw [bn.1]; exact ⟨_, _, rfl, rfl, rfl⟩, .cons ⟨tk, rfl⟩ .nil, fun sh hs s us ks zs inK h1 h2 h3 => ?_⟩, sc, hb⟩, hd⟩
  obtain ⟨kk, e1, e2⟩ := bn.2 sh hs T kV dc pm an cd ct us ks zs _ h1 h2 h3
  refine BindsTo.of_looks fun M => ?_
  rw [e1]
  exact looks_items (its := #[.int i tk]) inK t rfl (.of_pure e2)
theorem all0 {mgK : Str × Fn → Prop} : ∀ y ∈ ([] : List (Str × Fn)), mgK y := fun _ z => by cases z
theorem all1 {y : Str × Fn} {l : List (Str × Fn)} (a : DefOk K mg y.1 y.2) (b : ∀ z ∈ l, DefOk K mg z.1 z.2) : ∀ z ∈ y :: l, DefOk K mg z.1 z.2 := fun z hz => by
  rcases List.mem_cons.mp hz with e | e
  · rw [e]
    exact a
  · exact b z e
def GOk (mg : Str → Option Value) (y : Str × D) : Prop := ∃ (v : V) (u : Value), mg y.1 = some u ∧ RelV v u ∧ ∀ K : PySem.W.Frag, DR K (fun _ => none) v y.2
theorem g_int {i : Int} {u : Value} (X : K.In h) (G : h.Ns mainGlobals mg) (a : PySem.W.nsIn K mainGlobals x = some (some u)) (e : ∃ tk, u = .int i tk) : GOk mg (x, .int i) := ⟨.int i, u, PySem.W.mg_of X G a, e, fun _ => rfl⟩
theorem g_str {i : Str} {u : Value} (X : K.In h) (G : h.Ns mainGlobals mg) (a : PySem.W.nsIn K mainGlobals x = some (some u)) (e : ∃ tk, u = .str i tk) : GOk mg (x, .str i) := ⟨.str i, u, PySem.W.mg_of X G a, e, fun _ => rfl⟩
theorem gl0 : ∀ y ∈ ([] : List (Str × D)), GOk mg y := fun _ z => by cases z
theorem gl1 {y : Str × D} {l : List (Str × D)} (a : GOk mg y) (b : ∀ z ∈ l, GOk mg z) : ∀ z ∈ y :: l, GOk mg z := fun z hz => by
  rcases List.mem_cons.mp hz with e | e
  · rw [e]
    exact a
  · exact b z e
theorem bi0 : ∀ y ∈ ([] : List Str), mg y = none := fun _ z => by cases z
theorem bi1 {y : Str} {l : List Str} (X : K.In h) (G : h.Ns mainGlobals mg) (a : PySem.W.nsIn K mainGlobals y = some none) (b : ∀ z ∈ l, mg z = none) : ∀ z ∈ y :: l, mg z = none := fun z hz => by
  rcases List.mem_cons.mp hz with e | e
  · rw [e]
    exact PySem.W.mg_none_of X G a
  · exact b z e
theorem facts_mk {tl : List (Str × Fn)} {gl : List (Str × D)} (a : ∀ y ∈ tl, DefOk K mg y.1 y.2) (b : ∀ x ∈ biNames, mg x = none) (c : ∀ y ∈ gl, GOk mg y) : Facts K mg (fun f => tl.lookup f) (fun x => gl.lookup x) :=
  ⟨fun f fn h => a (f, fn) (lookup_mem h), b, fun x d h => let ⟨v, u, e1, e2, e3⟩ := c (x, d) (lookup_mem h); ⟨v, u, e1, e2, e3 K⟩⟩
end MP
end

section
set_option maxRecDepth 100000
/-! MpEv: reckoning with the evaluator. -/
namespace MP
open PySem

/-! ### small data -/
mutual
def tame : Nat → PyData → Bool
  | _, .none => true
  | _, .bool _ => true
  | _, .int i => decide (i.natAbs < 2 ^ 32)
  | _, .str x => PyData.canLay0 (.str x) && decide ((reprText x).length ≤ 40)
  | 0, .list _ => false
  | 0, .tuple _ => false
  | n + 1, .list xs => tameAll n xs && decide (xs.length ≤ 12)
  | n + 1, .tuple xs => tameAll n xs && decide (xs.length ≤ 12)
  | _, .dict _ => false
def tameAll : Nat → List PyData → Bool
  | _, [] => true
  | n, x :: xs => tame n x && tameAll n xs
end
theorem tameAll_iff {n : Nat} : ∀ {xs : List PyData}, tameAll n xs = true ↔ ∀ x ∈ xs, tame n x = true
  | [] => by simp [tameAll]
  | x :: xs => by simp [tameAll, tameAll_iff (xs := xs)]
def wtB : Nat → Nat
  | 0 => 40
  | n + 1 => 12 * (wtB n + 2) + 3
theorem wtB_ge : ∀ n, 40 ≤ wtB n
  | 0 => Nat.le_refl _
  | n + 1 => by
    have := wtB_ge n
    unfold wtB
    omega
theorem log2_lt {n k : Nat} (h : n < 2 ^ k) (hk : 0 < k) : n.log2 < k := by
  by_cases h0 : n = 0
  · rw [h0]
    simpa using hk
  · exact (Nat.log2_lt h0).mpr h
mutual
theorem tame_wt : ∀ (n : Nat) (d : PyData), tame n d = true → wt d ≤ wtB n
  | n, .none, _ => by have := wtB_ge n; unfold wt; omega
  | n, .bool _, _ => by have := wtB_ge n; unfold wt; omega
  | n, .int i, h => by
    have := wtB_ge n
    have h : i.natAbs < 2 ^ 32 := by simpa [tame] using h
    have := log2_lt h (by decide)
    unfold wt
    omega
  | n, .str x, h => by
    have := wtB_ge n
    have h : PyData.canLay0 (.str x) = true ∧ (reprText x).length ≤ 40 := by simpa [tame] using h
    unfold wt
    omega
  | 0, .list _, h => by simp [tame] at h
  | 0, .tuple _, h => by simp [tame] at h
  | n + 1, .list xs, h => by
    have h : tameAll n xs = true ∧ xs.length ≤ 12 := by simpa [tame] using h
    have := tame_wts n xs h.1
    have : xs.length * (wtB n + 2) ≤ 12 * (wtB n + 2) := Nat.mul_le_mul_right _ h.2
    unfold wt wtB
    omega
  | n + 1, .tuple xs, h => by
    have h : tameAll n xs = true ∧ xs.length ≤ 12 := by simpa [tame] using h
    have := tame_wts n xs h.1
    have : xs.length * (wtB n + 2) ≤ 12 * (wtB n + 2) := Nat.mul_le_mul_right _ h.2
    unfold wt wtB
    omega
  | n, .dict _, h => by
    cases n <;> simp [tame] at h
theorem tame_wts : ∀ (n : Nat) (xs : List PyData), tameAll n xs = true → wtAll xs ≤ xs.length * (wtB n + 2)
  | n, [], _ => by simp [wtAll]
  | n, x :: xs, h => by
    have h : tame n x = true ∧ tameAll n xs = true := by simpa [tameAll] using h
    have h1 := tame_wt n x h.1
    have h2 := tame_wts n xs h.2
    unfold wtAll
    rw [List.length_cons, Nat.succ_mul]
    omega
end
mutual
theorem tame_lay : ∀ (n : Nat) (d : PyData), tame n d = true → d.canLay0 = true ∧ d.showable = true ∧ d.depth ≤ n
  | n, .none, _ => ⟨rfl, rfl, Nat.zero_le _⟩
  | n, .bool _, _ => ⟨rfl, rfl, Nat.zero_le _⟩
  | n, .int i, h => by
    have h : i.natAbs < 2 ^ 32 := by simpa [tame] using h
    have := log2_lt h (by decide)
    refine ⟨rfl, ?_, Nat.zero_le _⟩
    simp only [PyData.showable, decide_eq_true_eq]
    omega
  | n, .str x, h => by
    have h : PyData.canLay0 (.str x) = true ∧ (reprText x).length ≤ 40 := by simpa [tame] using h
    exact ⟨h.1, rfl, Nat.zero_le _⟩
  | 0, .list _, h => by simp [tame] at h
  | 0, .tuple _, h => by simp [tame] at h
  | n + 1, .list xs, h => by
    have h : tameAll n xs = true ∧ xs.length ≤ 12 := by simpa [tame] using h
    obtain ⟨a, b, c⟩ := tame_lays n xs h.1
    exact ⟨a, b, by simp only [PyData.depth]; omega⟩
  | n + 1, .tuple xs, h => by
    have h : tameAll n xs = true ∧ xs.length ≤ 12 := by simpa [tame] using h
    obtain ⟨a, b, c⟩ := tame_lays n xs h.1
    exact ⟨a, b, by simp only [PyData.depth]; omega⟩
  | n, .dict _, h => by
    cases n <;> simp [tame] at h
theorem tame_lays : ∀ (n : Nat) (xs : List PyData), tameAll n xs = true → PyData.canLayAll0 xs = true ∧ PyData.showableAll xs = true ∧ PyData.depthAll xs ≤ n
  | n, [], _ => ⟨rfl, rfl, Nat.zero_le _⟩
  | n, x :: xs, h => by
    have h : tame n x = true ∧ tameAll n xs = true := by simpa [tameAll] using h
    obtain ⟨a, b, c⟩ := tame_lay n x h.1
    obtain ⟨a', b', c'⟩ := tame_lays n xs h.2
    refine ⟨by simp [PyData.canLayAll0, a, a'], by simp [PyData.showableAll, b, b'], ?_⟩
    simp only [PyData.depthAll]
    omega
end
theorem tame_shaped {d : PyData} (h : tame 4 d = true) : SeqAt.shaped d = true := by
  obtain ⟨a, _, c⟩ := tame_lay 4 d h
  unfold SeqAt.shaped
  rw [a, Bool.true_and]
  exact decide_eq_true (by omega)
theorem tame_repr {d : PyData} {m : Nat} {S : Sto} (h : tame 4 d = true) : biop S .repr [.dat d m] = some (.dat (.str d.shown) 0) := by
  obtain ⟨a, b, c⟩ := tame_lay 4 d h
  have w := tame_wt 4 d h
  have : wtB 4 = 880335 := by decide
  have hd := PyData.hasDict_of_canLay d a
  simp only [biop]
  rw [if_pos]
  simp [b, hd]
  omega
end MP
end

section
set_option maxRecDepth 100000
/-! MpEv2: the evaluator's clauses as rewritings; comprehensions and loops. -/
namespace MP
open PySem

section
variable {F : Fns} {G : Str → Option D} {a b c i : E} {es its kes : List E} {r : Rho} {S : Sto}
@[simp] theorem e_c {d : D} : evE F G (.c d) r S = some (.dat d 0, S) := by simp [evE]
@[simp] theorem e_v {x : Nat} : evE F G (.v x) r S = match r[x]? with
    | some (some w) => some (w.fz, S)
    | _ => none := by simp [evE] <;> rfl
@[simp] theorem e_g {x : Str} : evE F G (.g x) r S = match G x with
    | some d => some (.dat d 0, S)
    | none => none := by simp [evE] <;> rfl
@[simp] theorem e_bin {o : Bop} : evE F G (.bin o a b) r S = binE o (evE F G a) (evE F G b) r S := by rw [ev_bin]
@[simp] theorem e_neg : evE F G (.neg a) r S = negE (evE F G a) r S := by rw [ev_neg]
@[simp] theorem e_cmp {o : Cop} : evE F G (.cmp o a b) r S = cmpE o (evE F G a) (evE F G b) r S := by rw [ev_cmp]
@[simp] theorem e_chain {o o' : Cop} : evE F G (.chain o o' a b c) r S = chainE o o' (evE F G a) (evE F G b) (evE F G c) r S := by rw [ev_chain]
@[simp] theorem e_isN : evE F G (.isN a) r S = isNE (evE F G a) r S := by rw [ev_isN]
@[simp] theorem e_notN : evE F G (.notN a) r S = notNE (evE F G a) r S := by rw [ev_notN]
@[simp] theorem e_notB {x : Bool} : evE F G (.notB a x) r S = notBE (evE F G a) x r S := by rw [ev_notB]
@[simp] theorem e_and : evE F G (.and a b) r S = andE (evE F G a) (evE F G b) r S := by rw [ev_and]
@[simp] theorem e_or : evE F G (.or a b) r S = orE (evE F G a) (evE F G b) r S := by rw [ev_or]
@[simp] theorem e_not : evE F G (.not a) r S = notE (evE F G a) r S := by rw [ev_not]
@[simp] theorem e_ite : evE F G (.ite c a b) r S = iteE (evE F G c) (evE F G a) (evE F G b) r S := by rw [ev_ite]
@[simp] theorem e_tup : evE F G (.tup es) r S = tupE (evEs F G es) r S := by rw [ev_tup]
@[simp] theorem e_lst : evE F G (.lst es) r S = lstE (evEs F G es) r S := by rw [ev_lst]
@[simp] theorem e_idx : evE F G (.idx a i) r S = idxE (evE F G a) (evE F G i) r S := by rw [ev_idx]
@[simp] theorem e_slL : evE F G (.slL a i) r S = slLE (evE F G a) (evE F G i) r S := by rw [ev_slL]
@[simp] theorem e_slH : evE F G (.slH a i) r S = slHE (evE F G a) (evE F G i) r S := by rw [ev_slH]
@[simp] theorem e_call {f : Str} : evE F G (.call f es) r S = callE F f (evEs F G es) r S := by rw [ev_call]
@[simp] theorem e_callK {f : Str} {ks : List Str} : evE F G (.callK f es ks kes) r S = callKE F f (evEs F G es) ks (evEs F G kes) r S := by rw [ev_callK]
@[simp] theorem e_bi {o : Bi} : evE F G (.bi o es) r S = biE o (evEs F G es) r S := by rw [ev_bi]
@[simp] theorem e_isi {t : Ty} : evE F G (.isi a t) r S = isiE (evE F G a) t r S := by rw [ev_isi]
@[simp] theorem e_isi2 {t u : Ty} : evE F G (.isi2 a t u) r S = isi2E (evE F G a) t u r S := by rw [ev_isi2]
theorem e_comp {tg : List Nat} {one : Bool} {k : Ik} {ifs : List E} : evE F G (.comp a tg one k its ifs) r S = compE (evE F G a) (evTs F G ifs) tg one k (evEs F G its) r S := by rw [ev_comp]
theorem e_comp2 {x y : Nat} {ifs : List E} : evE F G (.comp2 a x b y c ifs) r S = comp2E (evE F G a) (evTs F G ifs) x y (evE F G b) (evE F G c) r S := by rw [ev_comp2]
@[simp] theorem e_nil : evEs F G [] r S = some ([], S) := by simp [evEs]
@[simp] theorem e_cons : evEs F G (a :: es) r S = consE (evE F G a) (evEs F G es) r S := by rw [evs_cons]
@[simp] theorem e_t0 : evTs F G [] r S = some (true, S) := by simp [evTs]
@[simp] theorem e_t1 : evTs F G [a] r S = ts1 (evE F G a) r S := by rw [evt_one]
end
section
variable {F : Fns} {G : Str → Option D} {e i : E} {its es : List E} {s : Sm} {ss bs : List Sm} {r : Rho} {S : Sto}
@[simp] theorem x_skip : exS F G .skip r S = some (.nx r S) := by rw [xs_skip]; rfl
@[simp] theorem x_ex : exS F G (.ex e) r S = exE (evE F G e) r S := by rw [xs_ex]
@[simp] theorem x_asg {x : Nat} : exS F G (.asg x e) r S = asgE x (evE F G e) r S := by rw [xs_asg]
@[simp] theorem x_asgV {x j : Nat} : exS F G (.asgV x j) r S = asgV x j r S := by rw [xs_asgV]
@[simp] theorem x_asgT {ts : List Tq} : exS F G (.asgT ts e) r S = asgTE ts (evE F G e) r S := by rw [xs_asgT]
@[simp] theorem x_asgP {is : List Nat} : exS F G (.asgP is es) r S = asgPE is (evEs F G es) r S := by rw [xs_asgP]
@[simp] theorem x_setI {x : Nat} : exS F G (.setI x i e) r S = setIE x (evE F G i) (evE F G e) r S := by rw [xs_setI]
@[simp] theorem x_app {x : Nat} : exS F G (.app x e) r S = appE x (evE F G e) r S := by rw [xs_app]
@[simp] theorem x_extd {x : Nat} : exS F G (.extd x e) r S = extdE x (evE F G e) r S := by rw [xs_extd]
@[simp] theorem x_appPop {x y : Nat} : exS F G (.appPop x y e) r S = appPopE x y (evE F G e) r S := by rw [xs_appPop]
@[simp] theorem x_clr {x : Nat} {n : Int} : exS F G (.clr x (.c (.int n))) r S = clrE x n r S := by rw [xs_clr]
@[simp] theorem x_ret : exS F G (.ret e) r S = retE (evE F G e) r S := by rw [xs_ret]
@[simp] theorem x_retV {x : Nat} : exS F G (.retV x) r S = retV x r S := by rw [xs_retV]
@[simp] theorem x_retN : exS F G .retN r S = some (.rt (.dat .none 0) S) := by rw [xs_retN]; rfl
@[simp] theorem x_ifs : exS F G (.ifs e ss bs) r S = ifsE (evE F G e) (exSs F G ss) (exSs F G bs) r S := by rw [xs_ifs]
@[simp] theorem x_loop {tg : List Nat} {one : Bool} {k : Ik} : exS F G (.loop tg one k its bs) r S = loopE tg one k (evEs F G its) (exSs F G bs) r S := by rw [xs_loop]
@[simp] theorem x_loopV {tg : List Nat} {one : Bool} {k : Ik} {j : Nat} : exS F G (.loopV tg one k j bs) r S = loopVE tg one k j (exSs F G bs) r S := by rw [xs_loopV]
@[simp] theorem x_brk : exS F G .brk r S = some (.bk r S) := by rw [xs_brk]; rfl
@[simp] theorem x_cont : exS F G .cont r S = some (.ct r S) := by rw [xs_cont]; rfl
@[simp] theorem x_nil : exSs F G [] r S = some (.nx r S) := by rw [xss_nil]; rfl
@[simp] theorem x_cons : exSs F G (s :: ss) r S = seqE (exS F G s) (exSs F G ss) r S := by rw [xss_cons]
end

/-! ### comprehensions -/
theorem compGo_pure {f : D → Sto → Option (Option (D × Nat) × Sto)} {S : Sto} {p : D → Bool} {g : D → D × Nat} : ∀ {xs : List D}, (∀ x ∈ xs, f x S = some (if p x then some (g x) else none, S)) → compGo f xs S = some ((xs.filter p).map g, S)
  | [], _ => rfl
  | x :: xs, h => by
    have h1 := h x (by simp)
    have h2 := compGo_pure (xs := xs) fun y hy => h y (by simp [hy])
    unfold compGo
    rw [h1]
    dsimp only
    rw [h2]
    cases hp : p x <;> simp [List.filter_cons, hp]
theorem compGo_map {f : D → Sto → Option (Option (D × Nat) × Sto)} {S : Sto} {g : D → D × Nat} {xs : List D} (h : ∀ x ∈ xs, f x S = some (some (g x), S)) : compGo f xs S = some (xs.map g, S) := by
  have := compGo_pure (p := fun _ => true) (g := g) (f := f) (S := S) (xs := xs) fun x hx => by rw [h x hx]; rfl
  rw [this, List.filter_eq_self.mpr fun _ _ => rfl]
theorem compGo2_pure {f : D → Sto → Option (List (D × Nat) × Sto)} {S : Sto} {g : D → List (D × Nat)} : ∀ {xs : List D}, (∀ x ∈ xs, f x S = some (g x, S)) → compGo2 f xs S = some (xs.flatMap g, S)
  | [], _ => rfl
  | x :: xs, h => by
    unfold compGo2
    rw [h x (by simp)]
    dsimp only
    rw [compGo2_pure (xs := xs) fun y hy => h y (by simp [hy])]
    rfl
/-! ### loops -/
/-- the loop goes through all items -/
theorem forGo_all {tg : List Nat} {one : Bool} {body : Rho → Sto → Option R} {P : List D → Rho → Sto → Prop} : ∀ {xs : List D} {r : Rho} {S : Sto}, P xs r S →
    (∀ x xs r S, P (x :: xs) r S → ∃ r1, bindT tg one x r = some r1 ∧ ∃ r2 S2, (body r1 S = some (.nx r2 S2) ∨ body r1 S = some (.ct r2 S2)) ∧ P xs r2 S2) → ∃ r' S', forGo tg one body xs r S = some (.nx r' S') ∧ P [] r' S'
  | [], r, S, p, _ => ⟨r, S, rfl, p⟩
  | x :: xs, r, S, p, h => by
    obtain ⟨r1, h1, r2, S2, h2, p2⟩ := h x xs r S p
    obtain ⟨r', S', h3, p3⟩ := forGo_all p2 h
    refine ⟨r', S', ?_, p3⟩
    unfold forGo
    rw [h1]
    dsimp only
    rcases h2 with h2 | h2 <;> (rw [h2]; exact h3)
/-- the loop may return -/
theorem forGo_ret {tg : List Nat} {one : Bool} {body : Rho → Sto → Option R} {P : List D → Rho → Sto → Prop} {Q : R → Prop} : ∀ {xs : List D} {r : Rho} {S : Sto}, P xs r S → (∀ r S, P [] r S → Q (.nx r S)) →
    (∀ x xs r S, P (x :: xs) r S → ∃ r1, bindT tg one x r = some r1 ∧ ((∃ r2 S2, body r1 S = some (.nx r2 S2) ∧ P xs r2 S2) ∨ ∃ w S2, body r1 S = some (.rt w S2) ∧ Q (.rt w S2))) → ∃ R, forGo tg one body xs r S = some R ∧ Q R
  | [], r, S, p, q, _ => ⟨_, rfl, q r S p⟩
  | x :: xs, r, S, p, q, h => by
    obtain ⟨r1, h1, h2⟩ := h x xs r S p
    unfold forGo
    rw [h1]
    dsimp only
    rcases h2 with ⟨r2, S2, h2, p2⟩ | ⟨w, S2, h2, p2⟩
    · rw [h2]
      exact forGo_ret p2 q h
    · rw [h2]
      exact ⟨_, rfl, p2⟩
end MP
namespace MP
open PySem
variable {F : Fns} {G : Str → Option D}
theorem useR_same {w : W} {r : Rho} (h : fzAll r = r) : useR w r = r := by
  unfold useR
  split
  · rfl
  · exact h
theorem comp_of {elt : E} {tg : List Nat} {one : Bool} {k : Ik} {its ifs : List E} {r : Rho} {S S1 S2 : Sto} {ws : List W} {xs : List D} {ds : List (D × Nat)} (h1 : evEs F G its r S = some (ws, S1)) (h2 : items k ws = some xs) (h3 : xs.length ≤ LIM)
    (h4 : compGo (stepE (evE F G elt) (evTs F G ifs) tg one r) xs S1 = some (ds, S2)) : evE F G (.comp elt tg one k its ifs) r S = some (.dat (.list (ds.map (·.1))) (dOf ds), S2) := by
  rw [ev_comp]
  unfold compE
  rw [h1]
  dsimp only
  rw [h2]
  dsimp only
  rw [if_pos h3, h4]
theorem step_one {elt : Ev} {i : Nat} {r : Rho} {S : Sto} {x d : D} {m : Nat} (h : elt (r.set i (some (.dat x 0))) S = some (.dat d m, S)) : stepE elt (evTs F G []) [i] true r x S = some (some (d, m), S) := by
  unfold stepE bindT
  rw [evt_nil]
  simp [ts0, h]
theorem step_if {elt : Ev} {t : E} {i : Nat} {r : Rho} {S : Sto} {x d : D} {m : Nat} {b : Bool} (ht : evE F G t (r.set i (some (.dat x 0))) S = some (.dat (.bool b) 0, S)) (h : b = true → elt (r.set i (some (.dat x 0))) S = some (.dat d m, S)) : stepE elt (evTs F G [t]) [i] true r x S = some (if b then some (d, m) else none, S) := by
  unfold stepE bindT
  rw [evt_one]
  cases b with
  | true => simp [ts1, ht, h rfl]
  | false => simp [ts1, ht]
theorem step_two {elt : Ev} {i j : Nat} {r : Rho} {S : Sto} {x y d : D} {m : Nat} (h : elt ((r.set i (some (.dat x 0))).set j (some (.dat y 0))) S = some (.dat d m, S)) : stepE elt (evTs F G []) [i, j] false r (.tuple [x, y]) S = some (some (d, m), S) := by
  unfold stepE bindT
  rw [evt_nil]
  simp [ts0, h, setAll]
theorem step_twoif {elt : Ev} {t : E} {i j : Nat} {r : Rho} {S : Sto} {x y d : D} {m : Nat} {b : Bool} (ht : evE F G t ((r.set i (some (.dat x 0))).set j (some (.dat y 0))) S = some (.dat (.bool b) 0, S)) (h : b = true → elt ((r.set i (some (.dat x 0))).set j (some (.dat y 0))) S = some (.dat d m, S)) :
    stepE elt (evTs F G [t]) [i, j] false r (.tuple [x, y]) S = some (if b then some (d, m) else none, S) := by
  unfold stepE bindT
  rw [evt_one]
  cases b with
  | true => simp [ts1, ht, h rfl, setAll]
  | false => simp [ts1, ht, setAll]
theorem allBools_map {α : Type} {p : α → Bool} : ∀ {xs : List α}, allBools (xs.map fun x => .bool (p x)) = some (xs.map p)
  | [] => rfl
  | x :: xs => by simp [allBools, allBools_map (xs := xs)]
theorem allInts_map {α : Type} {p : α → Int} : ∀ {xs : List α}, allInts (xs.map fun x => .int (p x)) = some (xs.map p)
  | [] => rfl
  | x :: xs => by simp [allInts, allInts_map (xs := xs)]
theorem dOf_flat {α : Type} {f : α → D × Nat} (h : ∀ x, isL (f x).1 = false) : ∀ {xs : List α}, dOf (xs.map f) = 2
  | [] => rfl
  | x :: xs => by
    rw [List.map_cons]
    unfold dOf
    rw [h x, Bool.false_and]
    simpa using dOf_flat h
end MP
end

section
/-! MpEv3: comprehensions whose items are known by a property alone. -/
namespace MP
open PySem
theorem compGo_ex {f : D → Sto → Option (Option (D × Nat) × Sto)} {S : Sto} {P : D × Nat → Prop} : ∀ {xs : List D}, (∀ x ∈ xs, ∃ o, f x S = some (o, S) ∧ ∀ y, o = some y → P y) → ∃ ds, compGo f xs S = some (ds, S) ∧ (∀ y ∈ ds, P y) ∧ ds.length ≤ xs.length
  | [], _ => ⟨[], rfl, fun _ z => (by cases z), Nat.le_refl _⟩
  | x :: xs, h => by
    obtain ⟨o, h1, h2⟩ := h x (by simp)
    obtain ⟨ds, h3, h4, h5⟩ := compGo_ex (xs := xs) fun y hy => h y (by simp [hy])
    cases o with
    | none =>
      refine ⟨ds, ?_, h4, Nat.le_succ_of_le h5⟩
      unfold compGo
      rw [h1]
      dsimp only
      rw [h3]
    | some y =>
      refine ⟨y :: ds, ?_, fun z hz => ?_, Nat.succ_le_succ h5⟩
      · unfold compGo
        rw [h1]
        dsimp only
        rw [h3]
      · rcases List.mem_cons.mp hz with e | hz
        · rw [e]
          exact h2 y rfl
        · exact h4 z hz
theorem comp_ex {F : Fns} {G : Str → Option D} {elt : E} {tg : List Nat} {one : Bool} {k : Ik} {its ifs : List E} {r : Rho} {S : Sto} {ws : List W} {xs : List D} {P : D → Prop} (h1 : evEs F G its r S = some (ws, S)) (h2 : items k ws = some xs) (h3 : xs.length ≤ LIM)
    (h4 : ∀ x ∈ xs, ∃ o, stepE (evE F G elt) (evTs F G ifs) tg one r x S = some (o, S) ∧ ∀ y, o = some y → P y.1) : ∃ ds m, evE F G (.comp elt tg one k its ifs) r S = some (.dat (.list ds) m, S) ∧ (∀ d ∈ ds, P d) ∧ ds.length ≤ xs.length := by
  obtain ⟨ds, g1, g2, g3⟩ := compGo_ex (P := fun y => P y.1) h4
  refine ⟨ds.map (·.1), dOf ds, comp_of h1 h2 h3 g1, fun d hd => ?_, by rw [List.length_map]; exact g3⟩
  obtain ⟨y, hy, rfl⟩ := List.mem_map.mp hd
  exact g2 y hy
theorem mem_mapIdx {α β : Type} {f : Nat → α → β} {xs : List α} {y : β} (h : y ∈ xs.mapIdx f) : ∃ (i : Nat) (x : α), xs[i]? = some x ∧ y = f i x := by
  obtain ⟨i, hi, e⟩ := List.getElem_of_mem h
  rw [List.length_mapIdx] at hi
  rw [List.getElem_mapIdx] at e
  exact ⟨i, xs[i], List.getElem?_eq_getElem hi, e.symm⟩
theorem mem_rng {n : Nat} {y : D} (h : y ∈ (List.range n).map fun i => PyData.int (i : Nat)) : ∃ i : Nat, i < n ∧ y = .int i := by
  obtain ⟨i, hi, rfl⟩ := List.mem_map.mp h
  exact ⟨i, List.mem_range.mp hi, rfl⟩
end MP
namespace MP
open PySem
theorem items_r1 {n m : Nat} (h : n < 1000000) : items .range1 [.dat (.int (n : Nat)) m] = some ((List.range n).map fun i => PyData.int (i : Nat)) := by
  simp only [items]
  rw [if_pos ⟨by omega, by omega⟩, Int.toNat_natCast]
theorem rep_int {n : Nat} {d : D} (h : n < 1000) : binop .mul (.list [d]) (.int (n : Nat)) = some (.dat (.list (List.replicate n d)) 1) := by
  simp only [binop]
  rw [if_pos ⟨by omega, by omega⟩, Int.toNat_natCast]
theorem lim1 : (1 ≤ LIM) = True := eq_true (by decide)
end MP
namespace MP
open PySem
theorem items_sl {xs : List D} {m : Nat} : items .seq [.dat (.list xs) m] = some xs := rfl
theorem items_st {xs : List D} {m : Nat} : items .seq [.dat (.tuple xs) m] = some xs := rfl
end MP
namespace MP
open PySem
variable {x xs : Rho → Sto → Option R} {r r1 : Rho} {S S1 S2 : Sto} {w : W} {ea : Ev}
theorem seq_nx (h : x r S = some (.nx r1 S1)) : seqE x xs r S = xs r1 S1 := by
  unfold seqE
  rw [h]
theorem seq_rt (h : x r S = some (.rt w S1)) : seqE x xs r S = some (.rt w S1) := by
  unfold seqE
  rw [h]
theorem if_t {et : Ev} {xa xb : Rho → Sto → Option R} {m : Nat} (h : et r S = some (.dat (.bool true) m, S1)) : ifsE et xa xb r S = xa r S1 := by
  unfold ifsE
  rw [h]
theorem if_f {et : Ev} {xa xb : Rho → Sto → Option R} {m : Nat} (h : et r S = some (.dat (.bool false) m, S1)) : ifsE et xa xb r S = xb r S1 := by
  unfold ifsE
  rw [h]
theorem asg_of {i : Nat} (h : ea r S = some (w, S1)) : asgE i ea r S = some (.nx ((useR w r).set i (some w)) S1) := by
  unfold asgE
  rw [h]
theorem ex_of (h : ea r S = some (w, S1)) : exE ea r S = some (.nx (useR w r) S1) := by
  unfold exE
  rw [h]
theorem ret_of (h : ea r S = some (w, S1)) : retE ea r S = some (.rt w S1) := by
  unfold retE
  rw [h]
theorem loopV_of {tg : List Nat} {one : Bool} {k : Ik} {j : Nat} {xb : Rho → Sto → Option R} {ys : List D} (h1 : r[j]? = some (some w)) (h2 : items k [w.fz] = some ys) (h3 : ys.length ≤ LIM) : loopVE tg one k j xb r S = forGo tg one xb ys (r.set j (some w.fz)) S := by
  unfold loopVE
  rw [h1]
  dsimp only
  rw [h2]
  dsimp only
  rw [if_pos h3]
theorem loop_of {tg : List Nat} {one : Bool} {k : Ik} {eits : Evs} {xb : Rho → Sto → Option R} {ys : List D} {ws : List W} (h1 : eits r S = some (ws, S1)) (h2 : items k ws = some ys) (h3 : ys.length ≤ LIM) : loopE tg one k eits xb r S = forGo tg one xb ys (useAll ws r) S1 := by
  unfold loopE
  rw [h1]
  dsimp only
  rw [h2]
  dsimp only
  rw [if_pos h3]
theorem run_rt {F : Fns} {G : Str → Option PyData} {fn : Fn} {ws us : List W} (h1 : inWs fn.ps ws S = some (us, S1)) (h2 : exSs F G fn.body (us.map some ++ List.replicate (fn.nm.length - us.length) none) S1 = some (.rt w S2)) : fn.run F G ws S = some (w, S2) := by
  unfold Fn.run
  rw [h1]
  dsimp only
  rw [h2]
theorem run_nx {F : Fns} {G : Str → Option PyData} {fn : Fn} {ws us : List W} (h1 : inWs fn.ps ws S = some (us, S1)) (h2 : exSs F G fn.body (us.map some ++ List.replicate (fn.nm.length - us.length) none) S1 = some (.nx r1 S2)) : fn.run F G ws S = some (.dat .none 0, S2) := by
  unfold Fn.run
  rw [h1]
  dsimp only
  rw [h2]
end MP
namespace MP
open PySem
theorem bin_of {o : Bop} {ea eb : Ev} {r : Rho} {S S1 S2 : Sto} {d e : D} {m m2 : Nat} {w : W} (h1 : ea r S = some (.dat d m, S1)) (h2 : eb r S1 = some (.dat e m2, S2)) (h3 : binop o d e = some w) : binE o ea eb r S = some (w, S2) := by
  unfold binE
  rw [h1]
  dsimp only
  rw [h2]
  dsimp only
  rw [h3]
end MP
namespace MP
open PySem
theorem and_t {ea eb : Ev} {r : Rho} {S S1 : Sto} {m : Nat} (h : ea r S = some (.dat (.bool true) m, S1)) : andE ea eb r S = eb r S1 := by
  unfold andE
  rw [h]
theorem or_f {ea eb : Ev} {r : Rho} {S S1 : Sto} {m : Nat} (h : ea r S = some (.dat (.bool false) m, S1)) : orE ea eb r S = eb r S1 := by
  unfold orE
  rw [h]
theorem or_t {ea eb : Ev} {r : Rho} {S S1 : Sto} {m : Nat} (h : ea r S = some (.dat (.bool true) m, S1)) : orE ea eb r S = some (.dat (.bool true) 0, S1) := by
  unfold orE
  rw [h]
end MP
end

section
/-! MpEv4: what repr writes can be compared. -/
namespace MP
open PySem PyData
theorem strOk_app (a b : Str) : strOk (a ++ b) = (strOk a && strOk b) := by
  show (a.cps ++ b.cps).all (· < 0x110000) = (a.cps.all (· < 0x110000) && b.cps.all (· < 0x110000))
  rw [Array.all_append]
theorem strOk_of (s : String) : strOk (Str.ofString s) = true := by
  unfold strOk
  rw [Str.ofString_eq_toList, List.all_toArray, List.all_eq_true]
  intro n hn
  obtain ⟨c, _, rfl⟩ := List.mem_map.mp hn
  have h : c.val.toNat < 0xD800 ∨ (0xDFFF < c.val.toNat ∧ c.val.toNat < 0x110000) := c.valid
  show decide (c.val.toNat < 0x110000) = true
  rw [decide_eq_true_eq]
  omega
theorem textFrom_ok : ∀ (ts : List Str) (k : Nat) (acc : Str), strOk acc = true → (∀ t ∈ ts, strOk t = true) → strOk (textFrom k acc ts) = true
  | [], _, acc, h, _ => h
  | t :: ts, k, acc, h, g => by
    unfold textFrom
    refine textFrom_ok ts (k + 1) _ ?_ fun u hu => g u (by simp [hu])
    rw [strOk_app, strOk_app, h, g t (by simp), strOk_of]
    rfl
theorem join_ok (s : Str) (hs : strOk s = true) : ∀ ts : List Str, (∀ t ∈ ts, strOk t = true) → strOk (Str.join s ts) = true
  | [], _ => by
    unfold Str.join
    simp [strOk, Str.empty]
  | [x], g => g x (by simp)
  | x :: y :: r, g => by
    show strOk (x ++ s ++ Str.join s (y :: r)) = true
    rw [strOk_app, strOk_app, hs, g x (by simp), join_ok s hs (y :: r) fun u hu => g u (by simp [hu])]
    rfl
mutual
def rok : PyData → Bool
  | .none => true
  | .bool _ => true
  | .int _ => true
  | .str x => strOk (reprText x)
  | .list xs => rokAll xs
  | .tuple xs => rokAll xs
  | .dict _ => false
def rokAll : List PyData → Bool
  | [] => true
  | x :: xs => rok x && rokAll xs
end
theorem rokAll_iff : ∀ {xs : List PyData}, rokAll xs = true ↔ ∀ x ∈ xs, rok x = true
  | [] => by simp [rokAll]
  | x :: xs => by simp [rokAll, rokAll_iff (xs := xs)]
mutual
theorem rok_shown : ∀ d : PyData, rok d = true → strOk d.shown = true
  | .none, _ => strOk_of _
  | .bool b, _ => by
    show strOk (if b then ("True" : String) else ("False" : String)) = true
    cases b <;> exact strOk_of _
  | .int i, _ => strOk_of _
  | .str x, h => h
  | .list xs, h => by
    show strOk (listText (PyData.shownAll xs)) = true
    unfold listText
    rw [strOk_app, textFrom_ok _ _ _ (strOk_of _) (rok_shownAll xs h), strOk_of]
    rfl
  | .tuple xs, h => by
    show strOk (tupleText (PyData.shownAll xs)) = true
    unfold tupleText
    rw [strOk_app, strOk_app, join_ok _ (strOk_of _) _ (rok_shownAll xs h), strOk_of, strOk_of]
    rfl
  | .dict _, h => by cases h
theorem rok_shownAll : ∀ xs : List PyData, rokAll xs = true → ∀ t ∈ PyData.shownAll xs, strOk t = true
  | [], _ => fun t ht => by cases ht
  | x :: xs, h => by
    have h : rok x = true ∧ rokAll xs = true := by simpa [rokAll] using h
    intro t ht
    rcases List.mem_cons.mp ht with e | ht
    · rw [e]
      exact rok_shown x h.1
    · exact rok_shownAll xs h.2 t ht
end
theorem rok_shaped {d : PyData} (h : rok d = true) : SeqAt.shaped (.str d.shown) = true := by
  have h1 := rok_shown d h
  unfold SeqAt.shaped
  show (strOk d.shown && decide (PyData.depth (.str d.shown) ≤ 64)) = true
  rw [h1]
  rfl
theorem rok_ne {d : PyData} (h : rok d = true) : cmpop .ne (.str d.shown) (.str d.shown) = some false := by
  simp only [cmpop]
  rw [if_pos (by rw [rok_shaped h]; rfl)]
  simp [PyData.eqv]
theorem rok_eq {d : PyData} (h : rok d = true) : cmpop .eq (.str d.shown) (.str d.shown) = some true := by
  simp only [cmpop]
  rw [if_pos (by rw [rok_shaped h]; rfl)]
  simp [PyData.eqv]
end MP
end

section
set_option maxRecDepth 100000
/-! K81Tab: the defs of the law's text (written by gen.py). -/
namespace K81
open PySem L2 MP PyProof.Rows

def topS (i : Nat) : Stmt := PySem.Challenge.pw_datedlayers_k81_whole_what_phases_say.main.body.getD i (.Pass ⟨0, 0, 0, 0⟩)

def fn_is_integer : Fn where
  ps := ["value"]
  nm := ["value"]
  df := []
  sh := [(1, [])]
  body := [.ret (.and (.isi (.v 0) .int) (.not (.isi (.v 0) .bool)))]

def fn_is_count : Fn where
  ps := ["value"]
  nm := ["value"]
  df := []
  sh := [(1, [])]
  body := [.ret (.and (.call "is_integer" [.v 0]) (.cmp .ge (.v 0) (.c (.int 0))))]

def fn_is_within : Fn where
  ps := ["value", "least", "most"]
  nm := ["value", "least", "most"]
  df := []
  sh := [(3, [])]
  body := [.ret (.and (.call "is_integer" [.v 0]) (.chain .le .le (.v 1) (.v 0) (.v 2)))]

def fn_is_year : Fn where
  ps := ["value"]
  nm := ["value"]
  df := []
  sh := [(1, [])]
  body := [.ret (.call "is_within" [.v 0, .neg (.g "MOST_YEAR"), .g "MOST_YEAR"])]

def fn_is_list : Fn where
  ps := ["value"]
  nm := ["value"]
  df := []
  sh := [(1, [])]
  body := [.ret (.isi2 (.v 0) .list .tuple)]

def fn_is_link_of : Fn where
  ps := ["layers", "value"]
  nm := ["layers", "value", "upper", "lower", "gap"]
  df := []
  sh := [(2, [])]
  body := [.ifs (.or (.not (.isi (.v 1) .tuple)) (.cmp .notin (.bi .len [.v 1]) (.tup [.c (.int 0), .c (.int 3)]))) [.ret (.c (.bool false))] [],
   .ifs (.cmp .eq (.v 1) (.tup [])) [.ret (.c (.bool true))] [],
   .asgT [.nm 2, .nm 3, .nm 4] (.v 1),
   .ifs (.or (.not (.call "is_within" [.v 2, .c (.int 0), .bin .sub (.v 0) (.c (.int 1))])) (.or (.not (.call "is_within" [.v 3, .c (.int 0), .bin .sub (.v 0) (.c (.int 1))])) (.cmp .eq (.v 2) (.v 3)))) [.ret (.c (.bool false))] [],
   .ret (.call "is_within" [.v 4, .neg (.g "MOST_GAP"), .g "MOST_GAP"])]

def fn_is_find_of : Fn where
  ps := ["layers", "value"]
  nm := ["layers", "value", "sort", "layer", "year", "trust"]
  df := []
  sh := [(2, [])]
  body := [.ifs (.or (.not (.isi (.v 1) .tuple)) (.cmp .notin (.bi .len [.v 1]) (.tup [.c (.int 0), .c (.int 4)]))) [.ret (.c (.bool false))] [],
   .ifs (.cmp .eq (.v 1) (.tup [])) [.ret (.c (.bool true))] [],
   .asgT [.nm 2, .nm 3, .nm 4, .nm 5] (.v 1),
   .ifs (.or (.not (.isi (.v 2) .str)) (.cmp .notin (.v 2) (.tup [.g "AFTER", .g "BEFORE"]))) [.ret (.c (.bool false))] [],
   .ret (.and (.call "is_within" [.v 3, .c (.int 0), .bin .sub (.v 0) (.c (.int 1))]) (.and (.call "is_year" [.v 4]) (.call "is_within" [.v 5, .c (.int 1), .g "MOST_TRUST"])))]

def fn_is_span : Fn where
  ps := ["value"]
  nm := ["value"]
  df := []
  sh := [(1, [])]
  body := [.ifs (.or (.not (.isi (.v 0) .tuple)) (.or (.cmp .ne (.bi .len [.v 0]) (.c (.int 2))) (.or (.not (.call "is_year" [.idx (.v 0) (.c (.int 0))])) (.not (.call "is_year" [.idx (.v 0) (.c (.int 1))]))))) [.ret (.c (.bool false))] [],
   .ret (.cmp .le (.idx (.v 0) (.c (.int 0))) (.idx (.v 0) (.c (.int 1))))]

def fn_are_links : Fn where
  ps := ["layers", "value"]
  nm := ["layers", "value", "one", "pairs", "link"]
  df := []
  sh := [(2, [])]
  body := [.ifs (.or (.not (.isi (.v 1) .tuple)) (.or (.cmp .gt (.bi .len [.v 1]) (.g "MOST_LINKS")) (.not (.bi .all [.comp (.call "is_link_of" [.v 0, .v 2]) [2] true .seq [.v 1] []])))) [.ret (.c (.bool false))] [],
   .asg 3 (.comp (.slH (.v 4) (.c (.int 2))) [4] true .seq [.v 1] [.cmp .ne (.v 4) (.tup [])]),
   .ret (.cmp .eq (.bi .setlen [.v 3]) (.bi .len [.v 3]))]

def fn_are_finds : Fn where
  ps := ["layers", "value"]
  nm := ["layers", "value", "one"]
  df := []
  sh := [(2, [])]
  body := [.ret (.and (.isi (.v 1) .tuple) (.and (.cmp .le (.bi .len [.v 1]) (.g "MOST_FINDS")) (.bi .all [.comp (.call "is_find_of" [.v 0, .v 2]) [2] true .seq [.v 1] []])))]

def fn_flaw : Fn where
  ps := ["value"]
  nm := ["value", "word", "layers", "span", "links", "finds"]
  df := []
  sh := [(1, [])]
  body := [.ifs (.or (.not (.isi (.v 0) .tuple)) (.or (.cmp .ne (.bi .len [.v 0]) (.c (.int 5))) (.or (.not (.isi (.idx (.v 0) (.c (.int 0))) .str)) (.cmp .ne (.idx (.v 0) (.c (.int 0))) (.c (.str "dig")))))) [.ret (.c (.str "form"))] [],
   .asgT [.nm 1, .nm 2, .nm 3, .nm 4, .nm 5] (.v 0),
   .ifs (.not (.call "is_within" [.v 2, .c (.int 1), .g "MOST_LAYERS_digs"])) [.ret (.c (.str "layers"))] [],
   .ifs (.not (.call "is_span" [.v 3])) [.ret (.c (.str "span"))] [],
   .ifs (.not (.call "are_links" [.v 2, .v 4])) [.ret (.c (.str "links"))] [],
   .ret (.ite (.call "are_finds" [.v 2, .v 5]) (.c .none) (.c (.str "finds")))]

def fn_check_dig : Fn where
  ps := ["dig"]
  nm := ["dig"]
  df := []
  sh := [(1, [])]
  body := [.ifs (.notN (.call "flaw" [.v 0])) [.stuck] []]

def fn_nodes_of : Fn where
  ps := ["dig", "leg"]
  nm := ["dig", "leg", "word", "number", "upper", "lower", "gap", "sort", "layer", "year", "trust"]
  df := []
  sh := [(2, [])]
  body := [.asgT [.nm 2, .nm 3] (.v 1),
   .ifs (.cmp .eq (.v 2) (.c (.str "begin"))) [.ret (.tup [.idx (.v 0) (.c (.int 1)), .v 3, .idx (.idx (.v 0) (.c (.int 2))) (.c (.int 0))])] [],
   .ifs (.cmp .eq (.v 2) (.c (.str "end"))) [.ret (.tup [.v 3, .idx (.v 0) (.c (.int 1)), .neg (.idx (.idx (.v 0) (.c (.int 2))) (.c (.int 1)))])] [],
   .ifs (.cmp .eq (.v 2) (.c (.str "link"))) [.asgT [.nm 4, .nm 5, .nm 6] (.idx (.idx (.v 0) (.c (.int 3))) (.v 3)),
     .ret (.tup [.v 5, .v 4, .v 6])] [],
   .asgT [.nm 7, .nm 8, .nm 9, .nm 10] (.idx (.idx (.v 0) (.c (.int 4))) (.v 3)),
   .ret (.ite (.cmp .eq (.v 7) (.g "AFTER")) (.tup [.idx (.v 0) (.c (.int 1)), .v 8, .v 9]) (.tup [.v 8, .idx (.v 0) (.c (.int 1)), .neg (.v 9)]))]

def fn_hard_legs : Fn where
  ps := ["dig"]
  nm := ["dig", "layers", "found", "layer", "at", "link"]
  df := []
  sh := [(1, [])]
  body := [.asg 1 (.bi .rangeV [.idx (.v 0) (.c (.int 1))]),
   .asg 2 (.bin .add (.comp (.tup [.c (.str "begin"), .v 3]) [3] true .seq [.v 1] []) (.comp (.tup [.c (.str "end"), .v 3]) [3] true .seq [.v 1] [])),
   .ret (.bin .add (.v 2) (.comp (.tup [.c (.str "link"), .v 4]) [4, 5] false .enum [.idx (.v 0) (.c (.int 3))] [.cmp .ne (.v 5) (.tup [])]))]

def fn_has_ring : Fn where
  ps := ["told", "many"]
  nm := ["told", "many", "best", "turn", "is_still", "leg", "near", "far", "weight"]
  df := []
  sh := [(2, [])]
  body := [.asg 2 (.bin .mul (.lst [.c (.int 0)]) (.v 1)),
   .loopV [3] true .range1 1 [.asg 4 (.c (.bool true)),
     .loopV [5, 6, 7, 8] false .seq 0 [.ifs (.cmp .gt (.bin .add (.idx (.v 2) (.v 6)) (.v 8)) (.idx (.v 2) (.v 7))) [.setI 2 (.v 7) (.bin .add (.idx (.v 2) (.v 6)) (.v 8)),
         .asg 4 (.c (.bool false))] []],
     .ifs (.v 4) [.ret (.c (.bool false))] []],
   .ret (.c (.bool true))]

def fn_sums_on : Fn where
  ps := ["told", "table", "many"]
  nm := ["told", "table", "many", "found", "node", "leg", "near", "far", "weight", "begin", "ahead"]
  df := []
  sh := [(3, [])]
  body := [.asg 3 (.comp (.bin .mul (.lst [.c .none]) (.v 2)) [4] true .range1 [.v 2] []),
   .loopV [5, 6, 7, 8] false .seq 0 [.loopV [9] true .range1 2 [.asg 10 (.idx (.idx (.v 1) (.v 9)) (.v 6)),
       .ifs (.and (.notN (.v 10)) (.or (.isN (.idx (.idx (.v 3) (.v 9)) (.v 7))) (.cmp .gt (.bin .add (.v 10) (.v 8)) (.idx (.idx (.v 3) (.v 9)) (.v 7))))) [.stuck] []]],
   .retV 3]

def fn_first_ring : Fn where
  ps := ["told", "many"]
  nm := ["told", "many", "tables", "other", "node", "leg", "near", "far", "weight", "rest"]
  df := []
  sh := [(2, [])]
  body := [.ifs (.not (.call "has_ring" [.v 0, .v 1])) [.ret (.c .none)] [],
   .asg 2 (.lst [.comp (.comp (.ite (.cmp .eq (.v 4) (.v 3)) (.c (.int 0)) (.c .none)) [3] true .range1 [.v 1] []) [4] true .range1 [.v 1] []]),
   .stuck,
   .loopV [5, 6, 7, 8] false .seq 0 [.asg 9 (.idx (.idx (.idx (.v 2) (.neg (.c (.int 2)))) (.v 7)) (.v 6)),
     .ifs (.and (.notN (.v 9)) (.cmp .gt (.bin .add (.v 8) (.v 9)) (.c (.int 0)))) [.ret (.call "led_on" [.v 0, .v 2, .lst [.v 5], .tup [.v 6, .v 7, .v 8]])] []],
   .ret (.c .none)]

def fn_led_on : Fn where
  ps := ["told", "tables", "legs", "begun"]
  nm := ["told", "tables", "legs", "begun", "home", "here", "total", "left", "leg", "near", "far", "weight", "rest"]
  df := []
  sh := [(4, [])]
  body := [.asgT [.nm 4, .nm 5, .nm 6] (.v 3),
   .stuck,
   .ret (.bi .tuple [.v 2])]

def fn_told_legs : Fn where
  ps := ["dig", "legs"]
  nm := ["dig", "legs", "leg"]
  df := []
  sh := [(2, [])]
  body := [.ret (.comp (.bin .add (.tup [.v 2]) (.call "nodes_of" [.v 0, .v 2])) [2] true .seq [.v 1] [])]

def fn_fault_of : Fn where
  ps := ["dig"]
  nm := ["dig"]
  df := []
  sh := [(1, [])]
  body := [.ret (.call "first_ring" [.call "told_legs" [.v 0, .call "hard_legs" [.v 0]], .bin .add (.idx (.v 0) (.c (.int 1))) (.c (.int 1))])]

def fn_check_sound : Fn where
  ps := ["dig"]
  nm := ["dig", "ring"]
  df := []
  sh := [(1, [])]
  body := [.ex (.call "check_dig" [.v 0]),
   .asg 1 (.call "fault_of" [.v 0]),
   .ifs (.notN (.v 1)) [.stuck] []]

def fn_are_two : Fn where
  ps := ["dig", "one", "other"]
  nm := ["dig", "one", "other"]
  df := []
  sh := [(3, [])]
  body := [.ret (.and (.call "is_within" [.v 1, .c (.int 0), .bin .sub (.idx (.v 0) (.c (.int 1))) (.c (.int 1))]) (.and (.call "is_within" [.v 2, .c (.int 0), .bin .sub (.idx (.v 0) (.c (.int 1))) (.c (.int 1))]) (.cmp .ne (.v 1) (.v 2))))]

def fn_is_claim_of : Fn where
  ps := ["dig", "value"]
  nm := ["dig", "value"]
  df := []
  sh := [(2, [])]
  body := [.ifs (.or (.not (.isi (.v 1) .tuple)) (.or (.cmp .lt (.bi .len [.v 1]) (.c (.int 3))) (.not (.isi (.idx (.v 1) (.c (.int 0))) .str)))) [.ret (.c (.bool false))] [],
   .ifs (.not (.call "is_within" [.idx (.v 1) (.neg (.c (.int 1))), .bin .sub (.c (.int 0)) (.g "MOST_SIZE"), .g "MOST_SIZE"])) [.ret (.c (.bool false))] [],
   .ifs (.cmp .eq (.idx (.v 1) (.c (.int 0))) (.c (.str "apart"))) [.ret (.and (.cmp .eq (.bi .len [.v 1]) (.c (.int 4))) (.call "are_two" [.v 0, .idx (.v 1) (.c (.int 1)), .idx (.v 1) (.c (.int 2))]))] [],
   .ret (.and (.cmp .isin (.idx (.v 1) (.c (.int 0))) (.tup [.c (.str "since"), .c (.str "until")])) (.and (.cmp .eq (.bi .len [.v 1]) (.c (.int 3))) (.call "is_within" [.idx (.v 1) (.c (.int 1)), .c (.int 0), .bin .sub (.idx (.v 0) (.c (.int 1))) (.c (.int 1))])))]

def fn_are_claims_of : Fn where
  ps := ["dig", "value"]
  nm := ["dig", "value", "one"]
  df := []
  sh := [(2, [])]
  body := [.ret (.and (.call "is_list" [.v 1]) (.and (.cmp .le (.bi .len [.v 1]) (.g "MOST_CLAIMS")) (.bi .all [.comp (.call "is_claim_of" [.v 0, .v 2]) [2] true .seq [.v 1] []])))]

def fn_is_claims : Fn where
  ps := ["dig", "value"]
  nm := ["dig", "value"]
  df := []
  sh := [(2, [])]
  body := [.ex (.call "check_sound" [.v 0]),
   .ret (.call "are_claims_of" [.v 0, .v 1])]

def fn_is_formula : Fn where
  ps := ["dig", "value"]
  nm := ["dig", "value", "clause"]
  df := []
  sh := [(2, [])]
  body := [.ex (.call "check_sound" [.v 0]),
   .ifs (.or (.not (.isi2 (.v 1) .list .tuple)) (.not (.chain .le .le (.c (.int 1)) (.bi .len [.v 1]) (.g "MOST_CLAUSES")))) [.ret (.c (.bool false))] [],
   .ret (.bi .all [.comp (.call "is_claims" [.v 0, .v 2]) [2] true .seq [.v 1] []])]

def fn_is_phase : Fn where
  ps := ["dig", "value"]
  nm := ["dig", "value", "layer", "one", "other"]
  df := []
  sh := [(2, [])]
  body := [.ex (.call "check_sound" [.v 0]),
   .ifs (.or (.not (.isi (.v 1) .tuple)) (.not (.chain .le .le (.c (.int 1)) (.bi .len [.v 1]) (.g "MOST_LAYERS_phases")))) [.ret (.c (.bool false))] [],
   .ifs (.not (.bi .all [.comp (.and (.call "is_count" [.v 2]) (.cmp .lt (.v 2) (.idx (.v 0) (.c (.int 1))))) [2] true .seq [.v 1] []])) [.ret (.c (.bool false))] [],
   .ret (.bi .all [.comp (.cmp .lt (.v 3) (.v 4)) [3, 4] false .zip [.v 1, .slL (.v 1) (.c (.int 1))] []])]

def fn_check_phase : Fn where
  ps := ["dig", "phase", "least"]
  nm := ["dig", "phase", "least"]
  df := [.int 1]
  sh := [(2, []), (3, [])]
  body := [.ifs (.or (.not (.call "is_phase" [.v 0, .v 1])) (.cmp .lt (.bi .len [.v 1]) (.v 2))) [.stuck] []]

def fn_check_both : Fn where
  ps := ["dig", "phase", "other_phase"]
  nm := ["dig", "phase", "other_phase", "layer"]
  df := []
  sh := [(3, [])]
  body := [.ex (.call "check_phase" [.v 0, .v 1]),
   .ifs (.or (.not (.call "is_phase" [.v 0, .v 2])) (.bi .any [.comp (.cmp .isin (.v 3) (.v 1)) [3] true .seq [.v 2] []])) [.stuck] []]

def fn_check_years : Fn where
  ps := ["years"]
  nm := ["years"]
  df := []
  sh := [(1, [])]
  body := [.ifs (.or (.not (.call "is_integer" [.v 0])) (.cmp .gt (.bi .abs [.v 0]) (.g "MOST_YEARS"))) [.stuck] []]

def fn_check_length : Fn where
  ps := ["years"]
  nm := ["years"]
  df := []
  sh := [(1, [])]
  body := [.ifs (.or (.not (.call "is_count" [.v 0])) (.cmp .gt (.v 0) (.g "MOST_YEARS"))) [.stuck] []]

def fn_pairs_of : Fn where
  ps := ["phase"]
  nm := ["phase", "one", "other"]
  df := []
  sh := [(1, [])]
  body := [.ret (.comp2 (.tup [.v 1, .v 2]) 1 (.v 0) 2 (.v 0) [.cmp .ne (.v 1) (.v 2)])]

def fn_ended_before : Fn where
  ps := ["dig", "phase", "other_phase", "years"]
  nm := ["dig", "phase", "other_phase", "years", "earlier", "later"]
  df := []
  sh := [(4, []), (0, ["years", "other_phase", "phase", "dig"])]
  body := [.ex (.call "check_both" [.v 0, .v 1, .v 2]),
   .ex (.call "check_years" [.v 3]),
   .ret (.comp2 (.lst [.tup [.c (.str "apart"), .v 5, .v 4, .v 3]]) 4 (.v 1) 5 (.v 2) [])]

def fn_lasted_at_most : Fn where
  ps := ["dig", "phase", "years"]
  nm := ["dig", "phase", "years", "one", "other"]
  df := []
  sh := [(3, [])]
  body := [.ex (.call "check_phase" [.v 0, .v 1, .c (.int 2)]),
   .ex (.call "check_length" [.v 2]),
   .ret (.comp (.lst [.tup [.c (.str "apart"), .v 3, .v 4, .bin .sub (.c (.int 0)) (.v 2)]]) [3, 4] false .seq [.call "pairs_of" [.v 1]] [])]

def fn_lasted_at_least : Fn where
  ps := ["dig", "phase", "years"]
  nm := ["dig", "phase", "years", "one", "other"]
  df := []
  sh := [(0, ["years", "phase", "dig"])]
  body := [.ex (.call "check_phase" [.v 0, .v 1, .c (.int 2)]),
   .ex (.call "check_length" [.v 2]),
   .ret (.lst [.comp (.tup [.c (.str "apart"), .v 3, .v 4, .v 2]) [3, 4] false .seq [.call "pairs_of" [.v 1]] []])]

def fn_overlapped : Fn where
  ps := ["dig", "phase", "other_phase"]
  nm := ["dig", "phase", "other_phase", "first", "earlier", "later"]
  df := []
  sh := [(3, [])]
  body := [.ex (.call "check_both" [.v 0, .v 1, .v 2]),
   .asg 3 (.comp2 (.tup [.c (.str "apart"), .v 5, .v 4, .c (.int 0)]) 4 (.v 1) 5 (.v 2) []),
   .ret (.lst [.v 3, .comp2 (.tup [.c (.str "apart"), .v 5, .v 4, .c (.int 0)]) 5 (.v 1) 4 (.v 2) []])]

def fn_within : Fn where
  ps := ["dig", "phase", "begin", "end"]
  nm := ["dig", "phase", "begin", "end", "found", "layer"]
  df := []
  sh := [(4, [])]
  body := [.ex (.call "check_phase" [.v 0, .v 1]),
   .ex (.call "check_years" [.v 2]),
   .ex (.call "check_years" [.v 3]),
   .asg 4 (.lst []),
   .loopV [5] true .seq 1 [.extd 4 (.lst [.lst [.tup [.c (.str "since"), .v 5, .v 2]], .lst [.tup [.c (.str "until"), .v 5, .v 3]]])],
   .retV 4]

def fn_law_pot : Fn where
  ps := ["script", "k"]
  nm := ["script", "k", "cell"]
  df := []
  sh := [(2, [])]
  body := [.asg 2 (.ite (.cmp .lt (.v 1) (.bi .len [.v 0])) (.bi .abs [.idx (.v 0) (.v 1)]) (.bin .add (.bin .mul (.c (.int 1831)) (.v 1)) (.c (.int 991)))),
   .ret (.lst [.bi .max2 [.c (.int 0), .bin .sub (.v 2) (.bin .pow (.c (.int 10)) (.c (.int 18)))], .bin .add (.bin .mod (.bi .int [.bin .add (.bin .add (.bin .mul (.bin .mod (.bi .int [.v 2]) (.c (.int 2147483549))) (.c (.int 40867))) (.bin .mul (.c (.int 991)) (.v 1))) (.c (.int 1831))]) (.c (.int 2147483563))) (.c (.int 1))])]

def fn_law_draw : Fn where
  ps := ["pot", "many"]
  nm := ["pot", "many", "digit"]
  df := []
  sh := [(2, [])]
  body := [.ifs (.cmp .gt (.idx (.v 0) (.c (.int 0))) (.c (.int 0))) [.asgT [.sub 0 0, .nm 2] (.bi .divmod [.idx (.v 0) (.c (.int 0)), .v 1]),
     .retV 2] [],
   .setI 0 (.c (.int 1)) (.bin .mod (.bi .int [.bin .add (.bin .mul (.idx (.v 0) (.c (.int 1))) (.c (.int 40014))) (.c (.int 1423))]) (.c (.int 2147483563))),
   .ret (.bin .mod (.bi .int [.bin .fdiv (.bin .mod (.bi .int [.bin .mul (.idx (.v 0) (.c (.int 1))) (.idx (.v 0) (.c (.int 1)))]) (.c (.int 2147483549))) (.c (.int 17))]) (.v 1))]

def fn_law_pick : Fn where
  ps := ["pot", "some"]
  nm := ["pot", "some"]
  df := []
  sh := [(2, [])]
  body := [.ret (.idx (.v 1) (.call "_law_draw" [.v 0, .bi .len [.v 1]]))]

def fn_law_denied : Fn where
  ps := ["many", "claim"]
  nm := ["many", "claim"]
  df := []
  sh := [(2, [])]
  body := [.ifs (.cmp .eq (.idx (.v 1) (.c (.int 0))) (.c (.str "apart"))) [.ret (.tup [.idx (.v 1) (.c (.int 1)), .idx (.v 1) (.c (.int 2)), .bin .sub (.c (.int 1)) (.idx (.v 1) (.c (.int 3)))])] [],
   .ifs (.cmp .eq (.idx (.v 1) (.c (.int 0))) (.c (.str "since"))) [.ret (.tup [.idx (.v 1) (.c (.int 1)), .v 0, .bin .sub (.c (.int 1)) (.idx (.v 1) (.c (.int 2)))])] [],
   .ret (.tup [.v 0, .idx (.v 1) (.c (.int 1)), .bin .add (.idx (.v 1) (.c (.int 2))) (.c (.int 1))])]

def fn_law_hard : Fn where
  ps := ["dig", "claims"]
  nm := ["dig", "claims", "many", "begin", "end", "found", "layer", "at", "link", "claim"]
  df := []
  sh := [(2, [])]
  body := [.asgP [2, 3, 4, 5] [.idx (.v 0) (.c (.int 1)), .idx (.idx (.v 0) (.c (.int 2))) (.c (.int 0)), .idx (.idx (.v 0) (.c (.int 2))) (.c (.int 1)), .lst []],
   .loopV [6] true .range1 2 [.extd 5 (.lst [.tup [.tup [.c (.str "begin"), .v 6], .v 2, .v 6, .v 3], .tup [.tup [.c (.str "end"), .v 6], .v 6, .v 2, .bin .sub (.c (.int 0)) (.v 4)]])],
   .loop [7, 8] false .enum [.idx (.v 0) (.c (.int 3))] [.ifs (.cmp .ne (.v 8) (.tup [])) [.app 5 (.tup [.tup [.c (.str "link"), .v 7], .idx (.v 8) (.c (.int 1)), .idx (.v 8) (.c (.int 0)), .idx (.v 8) (.c (.int 2))])] []],
   .loopV [7, 9] false .enum 1 [.app 5 (.bin .add (.tup [.tup [.c (.str "claim"), .v 7]]) (.call "_law_denied" [.v 2, .v 9]))],
   .retV 5]

def fn_law_soft : Fn where
  ps := ["dig", "at"]
  nm := ["dig", "at", "sort", "layer", "year", "trust"]
  df := []
  sh := [(2, [])]
  body := [.asgT [.nm 2, .nm 3, .nm 4, .nm 5] (.idx (.idx (.v 0) (.c (.int 4))) (.v 1)),
   .ret (.ite (.cmp .eq (.v 2) (.c (.str "after"))) (.tup [.tup [.c (.str "find"), .v 1], .idx (.v 0) (.c (.int 1)), .v 3, .v 4]) (.tup [.tup [.c (.str "find"), .v 1], .v 3, .idx (.v 0) (.c (.int 1)), .bin .sub (.c (.int 0)) (.v 4)]))]

def fn_law_least : Fn where
  ps := ["many", "legs"]
  nm := ["many", "legs", "years", "turn", "is_moved", "leg", "near", "far", "weight"]
  df := []
  sh := [(2, [])]
  body := [.asg 2 (.bin .add (.bin .mul (.lst [.c .none]) (.v 0)) (.lst [.c (.int 0)])),
   .loop [3] true .range1 [.bin .add (.v 0) (.c (.int 2))] [.asg 4 (.c (.bool false)),
     .loopV [5, 6, 7, 8] false .seq 1 [.ifs (.and (.notN (.idx (.v 2) (.v 6))) (.or (.isN (.idx (.v 2) (.v 7))) (.cmp .lt (.idx (.v 2) (.v 7)) (.bin .add (.idx (.v 2) (.v 6)) (.v 8))))) [.setI 2 (.v 7) (.bin .add (.idx (.v 2) (.v 6)) (.v 8)),
         .asg 4 (.c (.bool true))] []],
     .ifs (.not (.v 4)) [.ret (.slH (.v 2) (.neg (.c (.int 1))))] []],
   .ret (.c .none)]

def fn_law_with : Fn where
  ps := ["dig", "claims", "finds"]
  nm := ["dig", "claims", "finds", "at"]
  df := []
  sh := [(3, [])]
  body := [.ret (.call "_law_least" [.idx (.v 0) (.c (.int 1)), .bin .add (.call "_law_hard" [.v 0, .v 1]) (.comp (.call "_law_soft" [.v 0, .v 3]) [3] true .seq [.v 2] [])])]

def fn_law_link : Fn where
  ps := ["pot", "many"]
  nm := ["pot", "many", "upper"]
  df := []
  sh := [(2, [])]
  body := [.asg 2 (.call "_law_draw" [.v 0, .v 1]),
   .ret (.tup [.v 2, .bin .mod (.bi .int [.bin .add (.bin .add (.v 2) (.c (.int 1))) (.call "_law_draw" [.v 0, .bin .sub (.v 1) (.c (.int 1))])]) (.v 1), .bin .sub (.call "_law_draw" [.v 0, .c (.int 9)]) (.c (.int 4))])]

def fn_law_links : Fn where
  ps := ["pot", "many", "span"]
  nm := ["pot", "many", "span", "found", "turn", "link", "is_new", "one"]
  df := []
  sh := [(3, [])]
  body := [.asg 3 (.tup []),
   .loop [4] true .range1 [.ite (.cmp .gt (.v 1) (.c (.int 1))) (.call "_law_draw" [.v 0, .bin .mul (.c (.int 2)) (.v 1)]) (.c (.int 0))] [.asg 5 (.ite (.cmp .gt (.call "_law_draw" [.v 0, .c (.int 9)]) (.c (.int 0))) (.call "_law_link" [.v 0, .v 1]) (.tup [])),
     .asg 6 (.or (.cmp .eq (.v 5) (.tup [])) (.cmp .eq (.comp (.v 7) [7] true .seq [.v 3] [.cmp .eq (.slH (.v 7) (.c (.int 2))) (.slH (.v 5) (.c (.int 2)))]) (.lst []))),
     .ifs (.and (.v 6) (.notN (.call "_law_with" [.tup [.c (.str "dig"), .v 1, .v 2, .bin .add (.v 3) (.tup [.v 5]), .tup []], .lst [], .lst []]))) [.asg 3 (.bin .add (.v 3) (.tup [.v 5]))] []],
   .retV 3]

def fn_law_find : Fn where
  ps := ["pot", "many", "span"]
  nm := ["pot", "many", "span", "year"]
  df := []
  sh := [(3, [])]
  body := [.asg 3 (.bin .add (.bin .sub (.idx (.v 2) (.c (.int 0))) (.c (.int 2))) (.call "_law_draw" [.v 0, .bin .add (.bin .sub (.idx (.v 2) (.c (.int 1))) (.idx (.v 2) (.c (.int 0)))) (.c (.int 5))])),
   .ret (.tup [.call "_law_pick" [.v 0, .lst [.c (.str "after"), .c (.str "before")]], .call "_law_draw" [.v 0, .v 1], .v 3, .bin .add (.c (.int 1)) (.call "_law_draw" [.v 0, .c (.int 4)])])]

def fn_law_worlds : Fn where
  ps := ["dig"]
  nm := ["dig", "rows", "layer", "later", "row", "year", "link"]
  df := []
  sh := [(1, [])]
  body := [.asg 1 (.lst [.tup []]),
   .loop [2] true .range1 [.idx (.v 0) (.c (.int 1))] [.asg 3 (.lst []),
     .loopV [4] true .seq 1 [.extd 3 (.comp (.bin .add (.v 4) (.tup [.v 5])) [5] true .range2 [.idx (.idx (.v 0) (.c (.int 2))) (.c (.int 0)), .bin .add (.idx (.idx (.v 0) (.c (.int 2))) (.c (.int 1))) (.c (.int 1))] [])],
     .asgV 1 3],
   .ret (.comp (.v 4) [4] true .seq [.v 1] [.bi .all [.comp (.or (.cmp .eq (.v 6) (.tup [])) (.cmp .ge (.idx (.v 4) (.idx (.v 6) (.c (.int 0)))) (.bin .add (.idx (.v 4) (.idx (.v 6) (.c (.int 1)))) (.idx (.v 6) (.c (.int 2)))))) [6] true .seq [.idx (.v 0) (.c (.int 3))] []]])]

def fn_law_holds : Fn where
  ps := ["claim", "world"]
  nm := ["claim", "world"]
  df := []
  sh := [(2, [])]
  body := [.ifs (.cmp .eq (.idx (.v 0) (.c (.int 0))) (.c (.str "apart"))) [.ret (.cmp .ge (.idx (.v 1) (.idx (.v 0) (.c (.int 1)))) (.bin .add (.idx (.v 1) (.idx (.v 0) (.c (.int 2)))) (.idx (.v 0) (.c (.int 3)))))] [],
   .ret (.ite (.cmp .eq (.idx (.v 0) (.c (.int 0))) (.c (.str "since"))) (.cmp .ge (.idx (.v 1) (.idx (.v 0) (.c (.int 1)))) (.idx (.v 0) (.c (.int 2)))) (.cmp .le (.idx (.v 1) (.idx (.v 0) (.c (.int 1)))) (.idx (.v 0) (.c (.int 2)))))]

def fn_law_narrow : Fn where
  ps := ["pot", "layers", "most", "finds"]
  nm := ["pot", "layers", "most", "finds", "many", "begin", "wide", "span", "links", "found", "turn"]
  df := []
  sh := [(4, [])]
  body := [.asgP [4, 5, 6] [.bin .add (.c (.int 1)) (.call "_law_draw" [.v 0, .v 1]), .bin .sub (.call "_law_draw" [.v 0, .c (.int 41)]) (.c (.int 20)), .call "_law_draw" [.v 0, .v 2]],
   .asg 7 (.tup [.v 5, .bin .add (.v 5) (.v 6)]),
   .asgP [8, 9] [.call "_law_links" [.v 0, .v 4, .v 7], .tup []],
   .loop [10] true .range1 [.call "_law_draw" [.v 0, .bin .add (.v 3) (.c (.int 1))]] [.asg 9 (.bin .add (.v 9) (.tup [.ite (.cmp .gt (.call "_law_draw" [.v 0, .c (.int 9)]) (.c (.int 0))) (.call "_law_find" [.v 0, .v 4, .v 7]) (.tup [])]))],
   .ret (.tup [.c (.str "dig"), .v 4, .v 7, .v 8, .v 9])]

def fn_law_phase : Fn where
  ps := ["pot", "dig", "least"]
  nm := ["pot", "dig", "least", "left", "found", "turn"]
  df := []
  sh := [(3, [])]
  body := [.asgP [3, 4] [.bi .listrng [.idx (.v 1) (.c (.int 1))], .lst []],
   .loop [5] true .range1 [.bin .add (.v 2) (.call "_law_draw" [.v 0, .bi .max2 [.c (.int 1), .bin .add (.bin .sub (.idx (.v 1) (.c (.int 1))) (.v 2)) (.c (.int 1))]])] [.ifs (.cmp .ne (.v 3) (.lst [])) [.appPop 4 3 (.call "_law_draw" [.v 0, .bi .len [.v 3]])] []],
   .ret (.bi .tuple [.bi .sorted [.v 4]])]

def fn_law_is_so : Fn where
  ps := ["formula", "world"]
  nm := ["formula", "world", "claim", "clause"]
  df := []
  sh := [(2, [])]
  body := [.ret (.bi .all [.comp (.bi .any [.comp (.call "_law_holds" [.v 2, .v 1]) [2] true .seq [.v 3] []]) [3] true .seq [.v 0] []])]

def fn_law_pairs : Fn where
  ps := ["phase", "other"]
  nm := ["phase", "other", "found", "one", "late"]
  df := []
  sh := [(2, [])]
  body := [.asg 2 (.lst []),
   .loopV [3] true .seq 0 [.extd 2 (.comp (.tup [.v 3, .v 4]) [4] true .seq [.v 1] [.cmp .ne (.v 3) (.v 4)])],
   .retV 2]

def fn_law_right : Fn where
  ps := ["pot"]
  nm := ["pot", "dig", "phase", "worlds", "shown", "years", "most", "one", "other", "least", "begin", "end", "inside", "layer", "told", "world", "some", "due", "formula", "cut", "gap", "ahead", "early", "late", "both", "near", "far"]
  df := []
  sh := [(1, [])]
  body := [.asg 1 (.call "_law_narrow" [.v 0, .c (.int 4), .c (.int 5), .c (.int 2)]),
   .asg 1 (.ite (.cmp .eq (.idx (.v 1) (.c (.int 1))) (.c (.int 1))) (.tup [.c (.str "dig"), .c (.int 2), .idx (.v 1) (.c (.int 2)), .tup [], .tup []]) (.v 1)),
   .asg 2 (.call "_law_phase" [.v 0, .v 1, .c (.int 2)]),
   .asgP [3, 4, 5] [.call "_law_worlds" [.v 1], .bi .repr [.v 1], .call "_law_draw" [.v 0, .c (.int 6)]],
   .asg 6 (.comp (.lst [.tup [.c (.str "apart"), .v 7, .v 8, .bin .sub (.c (.int 0)) (.v 5)]]) [7, 8] false .seq [.call "_law_pairs" [.v 2, .v 2]] []),
   .asg 9 (.lst [.comp (.tup [.c (.str "apart"), .v 7, .v 8, .v 5]) [7, 8] false .seq [.call "_law_pairs" [.v 2, .v 2]] []]),
   .asgP [10, 11] [.bin .sub (.bin .add (.idx (.idx (.v 1) (.c (.int 2))) (.c (.int 0))) (.call "_law_draw" [.v 0, .c (.int 4)])) (.c (.int 1)), .bin .add (.bin .sub (.idx (.idx (.v 1) (.c (.int 2))) (.c (.int 1))) (.call "_law_draw" [.v 0, .c (.int 4)])) (.c (.int 1))],
   .asg 12 (.lst []),
   .loopV [13] true .seq 2 [.extd 12 (.lst [.lst [.tup [.c (.str "since"), .v 13, .v 10]], .lst [.tup [.c (.str "until"), .v 13, .v 11]]])],
   .asg 14 (.lst [.call "lasted_at_most" [.v 1, .v 2, .v 5], .callK "lasted_at_least" [] ["years", "phase", "dig"] [.v 5, .v 2, .v 1], .call "within" [.v 1, .v 2, .v 10, .v 11]]),
   .ifs (.or (.cmp .ne (.bi .repr [.v 14]) (.bi .repr [.lst [.v 6, .v 9, .v 12]])) (.or (.not (.bi .all [.comp (.call "is_formula" [.v 1, .v 7]) [7] true .seq [.v 14] []])) (.notB (.call "is_phase" [.v 1, .v 2]) true))) [.ret (.c (.bool false))] [],
   .loopV [15] true .seq 3 [.asg 16 (.comp (.idx (.v 15) (.v 13)) [13] true .seq [.v 2] []),
     .asg 17 (.lst [.cmp .le (.bin .sub (.bi .maxL [.v 16]) (.bi .minL [.v 16])) (.v 5), .cmp .ge (.bin .sub (.bi .maxL [.v 16]) (.bi .minL [.v 16])) (.v 5), .and (.cmp .le (.v 10) (.bi .minL [.v 16])) (.cmp .le (.bi .maxL [.v 16]) (.v 11))]),
     .ifs (.cmp .ne (.comp (.call "_law_is_so" [.v 18, .v 15]) [18] true .seq [.v 14] []) (.v 17)) [.ret (.c (.bool false))] []],
   .asgP [19, 20] [.bin .add (.c (.int 1)) (.call "_law_draw" [.v 0, .bin .sub (.bi .len [.v 2]) (.c (.int 1))]), .bin .sub (.call "_law_draw" [.v 0, .c (.int 7)]) (.c (.int 3))],
   .asgP [7, 8] [.slH (.v 2) (.v 19), .slL (.v 2) (.v 19)],
   .ifs (.cmp .eq (.call "_law_draw" [.v 0, .c (.int 2)]) (.c (.int 0))) [.asgP [7, 8] [.v 8, .v 7]] [],
   .asg 21 (.comp (.lst [.tup [.c (.str "apart"), .v 23, .v 22, .v 20]]) [22, 23] false .seq [.call "_law_pairs" [.v 7, .v 8]] []),
   .asg 24 (.lst [.comp (.tup [.c (.str "apart"), .v 23, .v 22, .c (.int 0)]) [22, 23] false .seq [.call "_law_pairs" [.v 7, .v 8]] [], .comp (.tup [.c (.str "apart"), .v 22, .v 23, .c (.int 0)]) [22, 23] false .seq [.call "_law_pairs" [.v 7, .v 8]] []]),
   .asg 14 (.lst [.call "ended_before" [.v 1, .v 7, .v 8, .v 20], .call "overlapped" [.v 1, .v 7, .v 8], .callK "ended_before" [] ["years", "other_phase", "phase", "dig"] [.v 20, .v 8, .v 7, .v 1]]),
   .ifs (.or (.cmp .ne (.bi .repr [.v 14]) (.bi .repr [.lst [.v 21, .v 24, .v 21]])) (.not (.bi .all [.comp (.call "is_formula" [.v 1, .v 16]) [16] true .seq [.v 14] []]))) [.ret (.c (.bool false))] [],
   .loopV [15] true .seq 3 [.asgP [25, 26] [.comp (.idx (.v 15) (.v 13)) [13] true .seq [.v 7] [], .comp (.idx (.v 15) (.v 13)) [13] true .seq [.v 8] []],
     .asg 17 (.lst [.cmp .ge (.bi .minL [.v 26]) (.bin .add (.bi .maxL [.v 25]) (.v 20)), .and (.cmp .le (.bi .minL [.v 26]) (.bi .maxL [.v 25])) (.cmp .le (.bi .minL [.v 25]) (.bi .maxL [.v 26]))]),
     .ifs (.cmp .ne (.comp (.call "_law_is_so" [.v 18, .v 15]) [18] true .seq [.slH (.v 14) (.c (.int 2))] []) (.v 17)) [.ret (.c (.bool false))] []],
   .clr 14 (.c (.int 0)),
   .ret (.and (.cmp .eq (.bi .repr [.call "ended_before" [.v 1, .v 7, .v 8, .v 20]]) (.bi .repr [.v 21])) (.cmp .eq (.bi .repr [.v 1]) (.v 4)))]

def fn_law : Fn where
  ps := ["script"]
  nm := ["script", "k"]
  df := []
  sh := [(1, [])]
  body := [.ret (.bi .all [.comp (.call "_law_right" [.call "_law_pot" [.v 0, .v 1]]) [1] true .range1 [.bi .max2 [.c (.int 1), .bi .min2 [.c (.int 2), .bi .len [.v 0]]]] []])]

def tabL : List (Str × Fn) := [(("is_integer" : Str), fn_is_integer),
  (("is_count" : Str), fn_is_count),
  (("is_within" : Str), fn_is_within),
  (("is_year" : Str), fn_is_year),
  (("is_list" : Str), fn_is_list),
  (("is_link_of" : Str), fn_is_link_of),
  (("is_find_of" : Str), fn_is_find_of),
  (("is_span" : Str), fn_is_span),
  (("are_links" : Str), fn_are_links),
  (("are_finds" : Str), fn_are_finds),
  (("flaw" : Str), fn_flaw),
  (("check_dig" : Str), fn_check_dig),
  (("nodes_of" : Str), fn_nodes_of),
  (("hard_legs" : Str), fn_hard_legs),
  (("has_ring" : Str), fn_has_ring),
  (("sums_on" : Str), fn_sums_on),
  (("first_ring" : Str), fn_first_ring),
  (("led_on" : Str), fn_led_on),
  (("told_legs" : Str), fn_told_legs),
  (("fault_of" : Str), fn_fault_of),
  (("check_sound" : Str), fn_check_sound),
  (("are_two" : Str), fn_are_two),
  (("is_claim_of" : Str), fn_is_claim_of),
  (("are_claims_of" : Str), fn_are_claims_of),
  (("is_claims" : Str), fn_is_claims),
  (("is_formula" : Str), fn_is_formula),
  (("is_phase" : Str), fn_is_phase),
  (("check_phase" : Str), fn_check_phase),
  (("check_both" : Str), fn_check_both),
  (("check_years" : Str), fn_check_years),
  (("check_length" : Str), fn_check_length),
  (("pairs_of" : Str), fn_pairs_of),
  (("ended_before" : Str), fn_ended_before),
  (("lasted_at_most" : Str), fn_lasted_at_most),
  (("lasted_at_least" : Str), fn_lasted_at_least),
  (("overlapped" : Str), fn_overlapped),
  (("within" : Str), fn_within),
  (("_law_pot" : Str), fn_law_pot),
  (("_law_draw" : Str), fn_law_draw),
  (("_law_pick" : Str), fn_law_pick),
  (("_law_denied" : Str), fn_law_denied),
  (("_law_hard" : Str), fn_law_hard),
  (("_law_soft" : Str), fn_law_soft),
  (("_law_least" : Str), fn_law_least),
  (("_law_with" : Str), fn_law_with),
  (("_law_link" : Str), fn_law_link),
  (("_law_links" : Str), fn_law_links),
  (("_law_find" : Str), fn_law_find),
  (("_law_worlds" : Str), fn_law_worlds),
  (("_law_holds" : Str), fn_law_holds),
  (("_law_narrow" : Str), fn_law_narrow),
  (("_law_phase" : Str), fn_law_phase),
  (("_law_is_so" : Str), fn_law_is_so),
  (("_law_pairs" : Str), fn_law_pairs),
  (("_law_right" : Str), fn_law_right),
  (("law" : Str), fn_law)]
def glL : List (Str × PyData) := [("MOST_YEAR", .int 99999), ("MOST_LAYERS_digs", .int 40), ("MOST_LINKS", .int 120), ("MOST_FINDS", .int 60), ("MOST_GAP", .int 9999), ("MOST_TRUST", .int 9999), ("AFTER", .str "after"), ("BEFORE", .str "before"), ("MOST_CLAIMS", .int 64), ("MOST_SIZE", .int 199998), ("MOST_CLAUSES", .int 64), ("MOST_LAYERS_phases", .int 8), ("MOST_YEARS", .int 199998)]
def tab (f : Str) : Option Fn := tabL.lookup f
def gl (x : Str) : Option PyData := glL.lookup x
end K81
end

section
set_option maxRecDepth 100000
/-! K81Calls: the calls of the defs by name (written by gen.py). -/
namespace K81
open PySem MP

theorem c_is_integer (k : Nat) (w0 : W) (S : Sto) : FT tab gl (k + 1) "is_integer" [w0] [] S = fn_is_integer.run (FT tab gl k) gl [w0] S := by kernel_rfl
theorem c_is_count (k : Nat) (w0 : W) (S : Sto) : FT tab gl (k + 1) "is_count" [w0] [] S = fn_is_count.run (FT tab gl k) gl [w0] S := by kernel_rfl
theorem c_is_within (k : Nat) (w0 w1 w2 : W) (S : Sto) : FT tab gl (k + 1) "is_within" [w0, w1, w2] [] S = fn_is_within.run (FT tab gl k) gl [w0, w1, w2] S := by kernel_rfl
theorem c_is_year (k : Nat) (w0 : W) (S : Sto) : FT tab gl (k + 1) "is_year" [w0] [] S = fn_is_year.run (FT tab gl k) gl [w0] S := by kernel_rfl
theorem c_is_list (k : Nat) (w0 : W) (S : Sto) : FT tab gl (k + 1) "is_list" [w0] [] S = fn_is_list.run (FT tab gl k) gl [w0] S := by kernel_rfl
theorem c_is_link_of (k : Nat) (w0 w1 : W) (S : Sto) : FT tab gl (k + 1) "is_link_of" [w0, w1] [] S = fn_is_link_of.run (FT tab gl k) gl [w0, w1] S := by kernel_rfl
theorem c_is_find_of (k : Nat) (w0 w1 : W) (S : Sto) : FT tab gl (k + 1) "is_find_of" [w0, w1] [] S = fn_is_find_of.run (FT tab gl k) gl [w0, w1] S := by kernel_rfl
theorem c_is_span (k : Nat) (w0 : W) (S : Sto) : FT tab gl (k + 1) "is_span" [w0] [] S = fn_is_span.run (FT tab gl k) gl [w0] S := by kernel_rfl
theorem c_are_links (k : Nat) (w0 w1 : W) (S : Sto) : FT tab gl (k + 1) "are_links" [w0, w1] [] S = fn_are_links.run (FT tab gl k) gl [w0, w1] S := by kernel_rfl
theorem c_are_finds (k : Nat) (w0 w1 : W) (S : Sto) : FT tab gl (k + 1) "are_finds" [w0, w1] [] S = fn_are_finds.run (FT tab gl k) gl [w0, w1] S := by kernel_rfl
theorem c_flaw (k : Nat) (w0 : W) (S : Sto) : FT tab gl (k + 1) "flaw" [w0] [] S = fn_flaw.run (FT tab gl k) gl [w0] S := by kernel_rfl
theorem c_check_dig (k : Nat) (w0 : W) (S : Sto) : FT tab gl (k + 1) "check_dig" [w0] [] S = fn_check_dig.run (FT tab gl k) gl [w0] S := by kernel_rfl
theorem c_nodes_of (k : Nat) (w0 w1 : W) (S : Sto) : FT tab gl (k + 1) "nodes_of" [w0, w1] [] S = fn_nodes_of.run (FT tab gl k) gl [w0, w1] S := by kernel_rfl
theorem c_hard_legs (k : Nat) (w0 : W) (S : Sto) : FT tab gl (k + 1) "hard_legs" [w0] [] S = fn_hard_legs.run (FT tab gl k) gl [w0] S := by kernel_rfl
theorem c_has_ring (k : Nat) (w0 w1 : W) (S : Sto) : FT tab gl (k + 1) "has_ring" [w0, w1] [] S = fn_has_ring.run (FT tab gl k) gl [w0, w1] S := by kernel_rfl
theorem c_sums_on (k : Nat) (w0 w1 w2 : W) (S : Sto) : FT tab gl (k + 1) "sums_on" [w0, w1, w2] [] S = fn_sums_on.run (FT tab gl k) gl [w0, w1, w2] S := by kernel_rfl
theorem c_first_ring (k : Nat) (w0 w1 : W) (S : Sto) : FT tab gl (k + 1) "first_ring" [w0, w1] [] S = fn_first_ring.run (FT tab gl k) gl [w0, w1] S := by kernel_rfl
theorem c_led_on (k : Nat) (w0 w1 w2 w3 : W) (S : Sto) : FT tab gl (k + 1) "led_on" [w0, w1, w2, w3] [] S = fn_led_on.run (FT tab gl k) gl [w0, w1, w2, w3] S := by kernel_rfl
theorem c_told_legs (k : Nat) (w0 w1 : W) (S : Sto) : FT tab gl (k + 1) "told_legs" [w0, w1] [] S = fn_told_legs.run (FT tab gl k) gl [w0, w1] S := by kernel_rfl
theorem c_fault_of (k : Nat) (w0 : W) (S : Sto) : FT tab gl (k + 1) "fault_of" [w0] [] S = fn_fault_of.run (FT tab gl k) gl [w0] S := by kernel_rfl
theorem c_check_sound (k : Nat) (w0 : W) (S : Sto) : FT tab gl (k + 1) "check_sound" [w0] [] S = fn_check_sound.run (FT tab gl k) gl [w0] S := by kernel_rfl
theorem c_are_two (k : Nat) (w0 w1 w2 : W) (S : Sto) : FT tab gl (k + 1) "are_two" [w0, w1, w2] [] S = fn_are_two.run (FT tab gl k) gl [w0, w1, w2] S := by kernel_rfl
theorem c_is_claim_of (k : Nat) (w0 w1 : W) (S : Sto) : FT tab gl (k + 1) "is_claim_of" [w0, w1] [] S = fn_is_claim_of.run (FT tab gl k) gl [w0, w1] S := by kernel_rfl
theorem c_are_claims_of (k : Nat) (w0 w1 : W) (S : Sto) : FT tab gl (k + 1) "are_claims_of" [w0, w1] [] S = fn_are_claims_of.run (FT tab gl k) gl [w0, w1] S := by kernel_rfl
theorem c_is_claims (k : Nat) (w0 w1 : W) (S : Sto) : FT tab gl (k + 1) "is_claims" [w0, w1] [] S = fn_is_claims.run (FT tab gl k) gl [w0, w1] S := by kernel_rfl
theorem c_is_formula (k : Nat) (w0 w1 : W) (S : Sto) : FT tab gl (k + 1) "is_formula" [w0, w1] [] S = fn_is_formula.run (FT tab gl k) gl [w0, w1] S := by kernel_rfl
theorem c_is_phase (k : Nat) (w0 w1 : W) (S : Sto) : FT tab gl (k + 1) "is_phase" [w0, w1] [] S = fn_is_phase.run (FT tab gl k) gl [w0, w1] S := by kernel_rfl
theorem c_check_phase_2 (k : Nat) (w0 w1 : W) (S : Sto) : FT tab gl (k + 1) "check_phase" [w0, w1] [] S = fn_check_phase.run (FT tab gl k) gl [w0, w1, (.dat (.int 1) 0)] S := by kernel_rfl
theorem c_check_phase_3 (k : Nat) (w0 w1 w2 : W) (S : Sto) : FT tab gl (k + 1) "check_phase" [w0, w1, w2] [] S = fn_check_phase.run (FT tab gl k) gl [w0, w1, w2] S := by kernel_rfl
theorem c_check_both (k : Nat) (w0 w1 w2 : W) (S : Sto) : FT tab gl (k + 1) "check_both" [w0, w1, w2] [] S = fn_check_both.run (FT tab gl k) gl [w0, w1, w2] S := by kernel_rfl
theorem c_check_years (k : Nat) (w0 : W) (S : Sto) : FT tab gl (k + 1) "check_years" [w0] [] S = fn_check_years.run (FT tab gl k) gl [w0] S := by kernel_rfl
theorem c_check_length (k : Nat) (w0 : W) (S : Sto) : FT tab gl (k + 1) "check_length" [w0] [] S = fn_check_length.run (FT tab gl k) gl [w0] S := by kernel_rfl
theorem c_pairs_of (k : Nat) (w0 : W) (S : Sto) : FT tab gl (k + 1) "pairs_of" [w0] [] S = fn_pairs_of.run (FT tab gl k) gl [w0] S := by kernel_rfl
theorem c_ended_before_4 (k : Nat) (w0 w1 w2 w3 : W) (S : Sto) : FT tab gl (k + 1) "ended_before" [w0, w1, w2, w3] [] S = fn_ended_before.run (FT tab gl k) gl [w0, w1, w2, w3] S := by kernel_rfl
theorem c_ended_before_0k (k : Nat) (v0 v1 v2 v3 : W) (S : Sto) : FT tab gl (k + 1) "ended_before" [] [("years", v0), ("other_phase", v1), ("phase", v2), ("dig", v3)] S = fn_ended_before.run (FT tab gl k) gl [v3, v2, v1, v0] S := by kernel_rfl
theorem c_lasted_at_most (k : Nat) (w0 w1 w2 : W) (S : Sto) : FT tab gl (k + 1) "lasted_at_most" [w0, w1, w2] [] S = fn_lasted_at_most.run (FT tab gl k) gl [w0, w1, w2] S := by kernel_rfl
theorem c_lasted_at_leastk (k : Nat) (v0 v1 v2 : W) (S : Sto) : FT tab gl (k + 1) "lasted_at_least" [] [("years", v0), ("phase", v1), ("dig", v2)] S = fn_lasted_at_least.run (FT tab gl k) gl [v2, v1, v0] S := by kernel_rfl
theorem c_overlapped (k : Nat) (w0 w1 w2 : W) (S : Sto) : FT tab gl (k + 1) "overlapped" [w0, w1, w2] [] S = fn_overlapped.run (FT tab gl k) gl [w0, w1, w2] S := by kernel_rfl
theorem c_within (k : Nat) (w0 w1 w2 w3 : W) (S : Sto) : FT tab gl (k + 1) "within" [w0, w1, w2, w3] [] S = fn_within.run (FT tab gl k) gl [w0, w1, w2, w3] S := by kernel_rfl
theorem c_law_pot (k : Nat) (w0 w1 : W) (S : Sto) : FT tab gl (k + 1) "_law_pot" [w0, w1] [] S = fn_law_pot.run (FT tab gl k) gl [w0, w1] S := by kernel_rfl
theorem c_law_draw (k : Nat) (w0 w1 : W) (S : Sto) : FT tab gl (k + 1) "_law_draw" [w0, w1] [] S = fn_law_draw.run (FT tab gl k) gl [w0, w1] S := by kernel_rfl
theorem c_law_pick (k : Nat) (w0 w1 : W) (S : Sto) : FT tab gl (k + 1) "_law_pick" [w0, w1] [] S = fn_law_pick.run (FT tab gl k) gl [w0, w1] S := by kernel_rfl
theorem c_law_denied (k : Nat) (w0 w1 : W) (S : Sto) : FT tab gl (k + 1) "_law_denied" [w0, w1] [] S = fn_law_denied.run (FT tab gl k) gl [w0, w1] S := by kernel_rfl
theorem c_law_hard (k : Nat) (w0 w1 : W) (S : Sto) : FT tab gl (k + 1) "_law_hard" [w0, w1] [] S = fn_law_hard.run (FT tab gl k) gl [w0, w1] S := by kernel_rfl
theorem c_law_soft (k : Nat) (w0 w1 : W) (S : Sto) : FT tab gl (k + 1) "_law_soft" [w0, w1] [] S = fn_law_soft.run (FT tab gl k) gl [w0, w1] S := by kernel_rfl
theorem c_law_least (k : Nat) (w0 w1 : W) (S : Sto) : FT tab gl (k + 1) "_law_least" [w0, w1] [] S = fn_law_least.run (FT tab gl k) gl [w0, w1] S := by kernel_rfl
theorem c_law_with (k : Nat) (w0 w1 w2 : W) (S : Sto) : FT tab gl (k + 1) "_law_with" [w0, w1, w2] [] S = fn_law_with.run (FT tab gl k) gl [w0, w1, w2] S := by kernel_rfl
theorem c_law_link (k : Nat) (w0 w1 : W) (S : Sto) : FT tab gl (k + 1) "_law_link" [w0, w1] [] S = fn_law_link.run (FT tab gl k) gl [w0, w1] S := by kernel_rfl
theorem c_law_links (k : Nat) (w0 w1 w2 : W) (S : Sto) : FT tab gl (k + 1) "_law_links" [w0, w1, w2] [] S = fn_law_links.run (FT tab gl k) gl [w0, w1, w2] S := by kernel_rfl
theorem c_law_find (k : Nat) (w0 w1 w2 : W) (S : Sto) : FT tab gl (k + 1) "_law_find" [w0, w1, w2] [] S = fn_law_find.run (FT tab gl k) gl [w0, w1, w2] S := by kernel_rfl
theorem c_law_worlds (k : Nat) (w0 : W) (S : Sto) : FT tab gl (k + 1) "_law_worlds" [w0] [] S = fn_law_worlds.run (FT tab gl k) gl [w0] S := by kernel_rfl
theorem c_law_holds (k : Nat) (w0 w1 : W) (S : Sto) : FT tab gl (k + 1) "_law_holds" [w0, w1] [] S = fn_law_holds.run (FT tab gl k) gl [w0, w1] S := by kernel_rfl
theorem c_law_narrow (k : Nat) (w0 w1 w2 w3 : W) (S : Sto) : FT tab gl (k + 1) "_law_narrow" [w0, w1, w2, w3] [] S = fn_law_narrow.run (FT tab gl k) gl [w0, w1, w2, w3] S := by kernel_rfl
theorem c_law_phase (k : Nat) (w0 w1 w2 : W) (S : Sto) : FT tab gl (k + 1) "_law_phase" [w0, w1, w2] [] S = fn_law_phase.run (FT tab gl k) gl [w0, w1, w2] S := by kernel_rfl
theorem c_law_is_so (k : Nat) (w0 w1 : W) (S : Sto) : FT tab gl (k + 1) "_law_is_so" [w0, w1] [] S = fn_law_is_so.run (FT tab gl k) gl [w0, w1] S := by kernel_rfl
theorem c_law_pairs (k : Nat) (w0 w1 : W) (S : Sto) : FT tab gl (k + 1) "_law_pairs" [w0, w1] [] S = fn_law_pairs.run (FT tab gl k) gl [w0, w1] S := by kernel_rfl
theorem c_law_right (k : Nat) (w0 : W) (S : Sto) : FT tab gl (k + 1) "_law_right" [w0] [] S = fn_law_right.run (FT tab gl k) gl [w0] S := by kernel_rfl
theorem c_law (k : Nat) (w0 : W) (S : Sto) : FT tab gl (k + 1) "law" [w0] [] S = fn_law.run (FT tab gl k) gl [w0] S := by kernel_rfl
@[simp] theorem pr_at : promo "at" = false := by decide +kernel
@[simp] theorem pr_begin : promo "begin" = false := by decide +kernel
@[simp] theorem pr_begun : promo "begun" = false := by decide +kernel
@[simp] theorem pr_claim : promo "claim" = false := by decide +kernel
@[simp] theorem pr_claims : promo "claims" = false := by decide +kernel
@[simp] theorem pr_dig : promo "dig" = false := by decide +kernel
@[simp] theorem pr_end : promo "end" = false := by decide +kernel
@[simp] theorem pr_finds : promo "finds" = false := by decide +kernel
@[simp] theorem pr_formula : promo "formula" = false := by decide +kernel
@[simp] theorem pr_k : promo "k" = false := by decide +kernel
@[simp] theorem pr_layers : promo "layers" = false := by decide +kernel
@[simp] theorem pr_least : promo "least" = false := by decide +kernel
@[simp] theorem pr_leg : promo "leg" = false := by decide +kernel
@[simp] theorem pr_legs : promo "legs" = false := by decide +kernel
@[simp] theorem pr_many : promo "many" = false := by decide +kernel
@[simp] theorem pr_most : promo "most" = false := by decide +kernel
@[simp] theorem pr_one : promo "one" = false := by decide +kernel
@[simp] theorem pr_other : promo "other" = false := by decide +kernel
@[simp] theorem pr_other_phase : promo "other_phase" = false := by decide +kernel
@[simp] theorem pr_phase : promo "phase" = false := by decide +kernel
@[simp] theorem pr_pot : promo "pot" = true := by decide +kernel
@[simp] theorem pr_script : promo "script" = false := by decide +kernel
@[simp] theorem pr_some : promo "some" = false := by decide +kernel
@[simp] theorem pr_span : promo "span" = false := by decide +kernel
@[simp] theorem pr_table : promo "table" = false := by decide +kernel
@[simp] theorem pr_tables : promo "tables" = false := by decide +kernel
@[simp] theorem pr_told : promo "told" = false := by decide +kernel
@[simp] theorem pr_value : promo "value" = false := by decide +kernel
@[simp] theorem pr_world : promo "world" = false := by decide +kernel
@[simp] theorem pr_years : promo "years" = false := by decide +kernel
@[simp] theorem gl_MOST_YEAR : gl "MOST_YEAR" = some (.int 99999) := by kernel_rfl
@[simp] theorem gl_MOST_LAYERS_digs : gl "MOST_LAYERS_digs" = some (.int 40) := by kernel_rfl
@[simp] theorem gl_MOST_LINKS : gl "MOST_LINKS" = some (.int 120) := by kernel_rfl
@[simp] theorem gl_MOST_FINDS : gl "MOST_FINDS" = some (.int 60) := by kernel_rfl
@[simp] theorem gl_MOST_GAP : gl "MOST_GAP" = some (.int 9999) := by kernel_rfl
@[simp] theorem gl_MOST_TRUST : gl "MOST_TRUST" = some (.int 9999) := by kernel_rfl
@[simp] theorem gl_AFTER : gl "AFTER" = some (.str "after") := by kernel_rfl
@[simp] theorem gl_BEFORE : gl "BEFORE" = some (.str "before") := by kernel_rfl
@[simp] theorem gl_MOST_CLAIMS : gl "MOST_CLAIMS" = some (.int 64) := by kernel_rfl
@[simp] theorem gl_MOST_SIZE : gl "MOST_SIZE" = some (.int 199998) := by kernel_rfl
@[simp] theorem gl_MOST_CLAUSES : gl "MOST_CLAUSES" = some (.int 64) := by kernel_rfl
@[simp] theorem gl_MOST_LAYERS_phases : gl "MOST_LAYERS_phases" = some (.int 8) := by kernel_rfl
@[simp] theorem gl_MOST_YEARS : gl "MOST_YEARS" = some (.int 199998) := by kernel_rfl
end K81
end

section
set_option maxRecDepth 100000
/-! K81Bod: the bodies are the text's own (written by gen.py). -/
namespace K81
open PySem L2 MP PyProof.Rows

theorem sc_is_integer : FnScope fn_is_integer.nm fn_is_integer.ps (defScope (topS 9)) := ⟨rfl, rfl, rfl, by decide +kernel, rfl, by decide +kernel, by decide +kernel⟩
theorem bo_is_integer : fn_is_integer.body = cB 30 ⟨fn_is_integer.nm, defScope (topS 9), fun _ => true⟩ (defBody (topS 9)) := by kernel_rfl
theorem bn_is_integer : Bn "is_integer" (topS 9) fn_is_integer := by
  refine ⟨rfl, fun sh hs kV doc pm an cdv ct us ks zs h1 h2 h3 => ?_⟩
  simp only [fn_is_integer, List.mem_cons, List.not_mem_nil, or_false] at hs
  rcases hs with rfl
  · match us, ks, h1, h2 with
    | [a0], [], _, _ =>
      cases h3
      rfl
theorem sc_is_count : FnScope fn_is_count.nm fn_is_count.ps (defScope (topS 10)) := ⟨rfl, rfl, rfl, by decide +kernel, rfl, by decide +kernel, by decide +kernel⟩
theorem bo_is_count : fn_is_count.body = cB 30 ⟨fn_is_count.nm, defScope (topS 10), fun _ => true⟩ (defBody (topS 10)) := by kernel_rfl
theorem bn_is_count : Bn "is_count" (topS 10) fn_is_count := by
  refine ⟨rfl, fun sh hs kV doc pm an cdv ct us ks zs h1 h2 h3 => ?_⟩
  simp only [fn_is_count, List.mem_cons, List.not_mem_nil, or_false] at hs
  rcases hs with rfl
  · match us, ks, h1, h2 with
    | [a0], [], _, _ =>
      cases h3
      rfl
theorem sc_is_within : FnScope fn_is_within.nm fn_is_within.ps (defScope (topS 11)) := ⟨rfl, rfl, rfl, by decide +kernel, rfl, by decide +kernel, by decide +kernel⟩
theorem bo_is_within : fn_is_within.body = cB 30 ⟨fn_is_within.nm, defScope (topS 11), fun _ => true⟩ (defBody (topS 11)) := by kernel_rfl
theorem bn_is_within : Bn "is_within" (topS 11) fn_is_within := by
  refine ⟨rfl, fun sh hs kV doc pm an cdv ct us ks zs h1 h2 h3 => ?_⟩
  simp only [fn_is_within, List.mem_cons, List.not_mem_nil, or_false] at hs
  rcases hs with rfl
  · match us, ks, h1, h2 with
    | [a0, a1, a2], [], _, _ =>
      cases h3
      rfl
theorem sc_is_year : FnScope fn_is_year.nm fn_is_year.ps (defScope (topS 12)) := ⟨rfl, rfl, rfl, by decide +kernel, rfl, by decide +kernel, by decide +kernel⟩
theorem bo_is_year : fn_is_year.body = cB 30 ⟨fn_is_year.nm, defScope (topS 12), fun _ => true⟩ (defBody (topS 12)) := by kernel_rfl
theorem bn_is_year : Bn "is_year" (topS 12) fn_is_year := by
  refine ⟨rfl, fun sh hs kV doc pm an cdv ct us ks zs h1 h2 h3 => ?_⟩
  simp only [fn_is_year, List.mem_cons, List.not_mem_nil, or_false] at hs
  rcases hs with rfl
  · match us, ks, h1, h2 with
    | [a0], [], _, _ =>
      cases h3
      rfl
theorem sc_is_list : FnScope fn_is_list.nm fn_is_list.ps (defScope (topS 13)) := ⟨rfl, rfl, rfl, by decide +kernel, rfl, by decide +kernel, by decide +kernel⟩
theorem bo_is_list : fn_is_list.body = cB 30 ⟨fn_is_list.nm, defScope (topS 13), fun _ => true⟩ (defBody (topS 13)) := by kernel_rfl
theorem bn_is_list : Bn "is_list" (topS 13) fn_is_list := by
  refine ⟨rfl, fun sh hs kV doc pm an cdv ct us ks zs h1 h2 h3 => ?_⟩
  simp only [fn_is_list, List.mem_cons, List.not_mem_nil, or_false] at hs
  rcases hs with rfl
  · match us, ks, h1, h2 with
    | [a0], [], _, _ =>
      cases h3
      rfl
theorem sc_is_link_of : FnScope fn_is_link_of.nm fn_is_link_of.ps (defScope (topS 22)) := ⟨rfl, rfl, rfl, by decide +kernel, rfl, by decide +kernel, by decide +kernel⟩
theorem bo_is_link_of : fn_is_link_of.body = cB 30 ⟨fn_is_link_of.nm, defScope (topS 22), fun _ => true⟩ (defBody (topS 22)) := by kernel_rfl
theorem bn_is_link_of : Bn "is_link_of" (topS 22) fn_is_link_of := by
  refine ⟨rfl, fun sh hs kV doc pm an cdv ct us ks zs h1 h2 h3 => ?_⟩
  simp only [fn_is_link_of, List.mem_cons, List.not_mem_nil, or_false] at hs
  rcases hs with rfl
  · match us, ks, h1, h2 with
    | [a0, a1], [], _, _ =>
      cases h3
      rfl
theorem sc_is_find_of : FnScope fn_is_find_of.nm fn_is_find_of.ps (defScope (topS 23)) := ⟨rfl, rfl, rfl, by decide +kernel, rfl, by decide +kernel, by decide +kernel⟩
theorem bo_is_find_of : fn_is_find_of.body = cB 30 ⟨fn_is_find_of.nm, defScope (topS 23), fun _ => true⟩ (defBody (topS 23)) := by kernel_rfl
theorem bn_is_find_of : Bn "is_find_of" (topS 23) fn_is_find_of := by
  refine ⟨rfl, fun sh hs kV doc pm an cdv ct us ks zs h1 h2 h3 => ?_⟩
  simp only [fn_is_find_of, List.mem_cons, List.not_mem_nil, or_false] at hs
  rcases hs with rfl
  · match us, ks, h1, h2 with
    | [a0, a1], [], _, _ =>
      cases h3
      rfl
theorem sc_is_span : FnScope fn_is_span.nm fn_is_span.ps (defScope (topS 24)) := ⟨rfl, rfl, rfl, by decide +kernel, rfl, by decide +kernel, by decide +kernel⟩
theorem bo_is_span : fn_is_span.body = cB 30 ⟨fn_is_span.nm, defScope (topS 24), fun _ => true⟩ (defBody (topS 24)) := by kernel_rfl
theorem bn_is_span : Bn "is_span" (topS 24) fn_is_span := by
  refine ⟨rfl, fun sh hs kV doc pm an cdv ct us ks zs h1 h2 h3 => ?_⟩
  simp only [fn_is_span, List.mem_cons, List.not_mem_nil, or_false] at hs
  rcases hs with rfl
  · match us, ks, h1, h2 with
    | [a0], [], _, _ =>
      cases h3
      rfl
theorem sc_are_links : FnScope fn_are_links.nm fn_are_links.ps (defScope (topS 25)) := ⟨rfl, rfl, rfl, by decide +kernel, rfl, by decide +kernel, by decide +kernel⟩
theorem bo_are_links : fn_are_links.body = cB 30 ⟨fn_are_links.nm, defScope (topS 25), fun _ => true⟩ (defBody (topS 25)) := by kernel_rfl
theorem bn_are_links : Bn "are_links" (topS 25) fn_are_links := by
  refine ⟨rfl, fun sh hs kV doc pm an cdv ct us ks zs h1 h2 h3 => ?_⟩
  simp only [fn_are_links, List.mem_cons, List.not_mem_nil, or_false] at hs
  rcases hs with rfl
  · match us, ks, h1, h2 with
    | [a0, a1], [], _, _ =>
      cases h3
      rfl
theorem sc_are_finds : FnScope fn_are_finds.nm fn_are_finds.ps (defScope (topS 26)) := ⟨rfl, rfl, rfl, by decide +kernel, rfl, by decide +kernel, by decide +kernel⟩
theorem bo_are_finds : fn_are_finds.body = cB 30 ⟨fn_are_finds.nm, defScope (topS 26), fun _ => true⟩ (defBody (topS 26)) := by kernel_rfl
theorem bn_are_finds : Bn "are_finds" (topS 26) fn_are_finds := by
  refine ⟨rfl, fun sh hs kV doc pm an cdv ct us ks zs h1 h2 h3 => ?_⟩
  simp only [fn_are_finds, List.mem_cons, List.not_mem_nil, or_false] at hs
  rcases hs with rfl
  · match us, ks, h1, h2 with
    | [a0, a1], [], _, _ =>
      cases h3
      rfl
theorem sc_flaw : FnScope fn_flaw.nm fn_flaw.ps (defScope (topS 27)) := ⟨rfl, rfl, rfl, by decide +kernel, rfl, by decide +kernel, by decide +kernel⟩
theorem bo_flaw : fn_flaw.body = cB 30 ⟨fn_flaw.nm, defScope (topS 27), fun _ => true⟩ (defBody (topS 27)) := by kernel_rfl
theorem bn_flaw : Bn "flaw" (topS 27) fn_flaw := by
  refine ⟨rfl, fun sh hs kV doc pm an cdv ct us ks zs h1 h2 h3 => ?_⟩
  simp only [fn_flaw, List.mem_cons, List.not_mem_nil, or_false] at hs
  rcases hs with rfl
  · match us, ks, h1, h2 with
    | [a0], [], _, _ =>
      cases h3
      rfl
theorem sc_check_dig : FnScope fn_check_dig.nm fn_check_dig.ps (defScope (topS 28)) := ⟨rfl, rfl, rfl, by decide +kernel, rfl, by decide +kernel, by decide +kernel⟩
theorem bo_check_dig : fn_check_dig.body = cB 30 ⟨fn_check_dig.nm, defScope (topS 28), fun _ => true⟩ (defBody (topS 28)) := by kernel_rfl
theorem bn_check_dig : Bn "check_dig" (topS 28) fn_check_dig := by
  refine ⟨rfl, fun sh hs kV doc pm an cdv ct us ks zs h1 h2 h3 => ?_⟩
  simp only [fn_check_dig, List.mem_cons, List.not_mem_nil, or_false] at hs
  rcases hs with rfl
  · match us, ks, h1, h2 with
    | [a0], [], _, _ =>
      cases h3
      rfl
theorem sc_nodes_of : FnScope fn_nodes_of.nm fn_nodes_of.ps (defScope (topS 30)) := ⟨rfl, rfl, rfl, by decide +kernel, rfl, by decide +kernel, by decide +kernel⟩
theorem bo_nodes_of : fn_nodes_of.body = cB 30 ⟨fn_nodes_of.nm, defScope (topS 30), fun _ => true⟩ (defBody (topS 30)) := by kernel_rfl
theorem bn_nodes_of : Bn "nodes_of" (topS 30) fn_nodes_of := by
  refine ⟨rfl, fun sh hs kV doc pm an cdv ct us ks zs h1 h2 h3 => ?_⟩
  simp only [fn_nodes_of, List.mem_cons, List.not_mem_nil, or_false] at hs
  rcases hs with rfl
  · match us, ks, h1, h2 with
    | [a0, a1], [], _, _ =>
      cases h3
      rfl
theorem sc_hard_legs : FnScope fn_hard_legs.nm fn_hard_legs.ps (defScope (topS 31)) := ⟨rfl, rfl, rfl, by decide +kernel, rfl, by decide +kernel, by decide +kernel⟩
theorem bo_hard_legs : fn_hard_legs.body = cB 30 ⟨fn_hard_legs.nm, defScope (topS 31), fun _ => true⟩ (defBody (topS 31)) := by kernel_rfl
theorem bn_hard_legs : Bn "hard_legs" (topS 31) fn_hard_legs := by
  refine ⟨rfl, fun sh hs kV doc pm an cdv ct us ks zs h1 h2 h3 => ?_⟩
  simp only [fn_hard_legs, List.mem_cons, List.not_mem_nil, or_false] at hs
  rcases hs with rfl
  · match us, ks, h1, h2 with
    | [a0], [], _, _ =>
      cases h3
      rfl
theorem sc_has_ring : FnScope fn_has_ring.nm fn_has_ring.ps (defScope (topS 32)) := ⟨rfl, rfl, rfl, by decide +kernel, rfl, by decide +kernel, by decide +kernel⟩
theorem bo_has_ring : fn_has_ring.body = cB 30 ⟨fn_has_ring.nm, defScope (topS 32), fun _ => true⟩ (defBody (topS 32)) := by kernel_rfl
theorem bn_has_ring : Bn "has_ring" (topS 32) fn_has_ring := by
  refine ⟨rfl, fun sh hs kV doc pm an cdv ct us ks zs h1 h2 h3 => ?_⟩
  simp only [fn_has_ring, List.mem_cons, List.not_mem_nil, or_false] at hs
  rcases hs with rfl
  · match us, ks, h1, h2 with
    | [a0, a1], [], _, _ =>
      cases h3
      rfl
theorem sc_sums_on : FnScope fn_sums_on.nm fn_sums_on.ps (defScope (topS 33)) := ⟨rfl, rfl, rfl, by decide +kernel, rfl, by decide +kernel, by decide +kernel⟩
theorem bo_sums_on : fn_sums_on.body = cB 30 ⟨fn_sums_on.nm, defScope (topS 33), fun _ => true⟩ (defBody (topS 33)) := by kernel_rfl
theorem bn_sums_on : Bn "sums_on" (topS 33) fn_sums_on := by
  refine ⟨rfl, fun sh hs kV doc pm an cdv ct us ks zs h1 h2 h3 => ?_⟩
  simp only [fn_sums_on, List.mem_cons, List.not_mem_nil, or_false] at hs
  rcases hs with rfl
  · match us, ks, h1, h2 with
    | [a0, a1, a2], [], _, _ =>
      cases h3
      rfl
theorem sc_first_ring : FnScope fn_first_ring.nm fn_first_ring.ps (defScope (topS 34)) := ⟨rfl, rfl, rfl, by decide +kernel, rfl, by decide +kernel, by decide +kernel⟩
theorem bo_first_ring : fn_first_ring.body = cB 30 ⟨fn_first_ring.nm, defScope (topS 34), fun _ => true⟩ (defBody (topS 34)) := by kernel_rfl
theorem bn_first_ring : Bn "first_ring" (topS 34) fn_first_ring := by
  refine ⟨rfl, fun sh hs kV doc pm an cdv ct us ks zs h1 h2 h3 => ?_⟩
  simp only [fn_first_ring, List.mem_cons, List.not_mem_nil, or_false] at hs
  rcases hs with rfl
  · match us, ks, h1, h2 with
    | [a0, a1], [], _, _ =>
      cases h3
      rfl
theorem sc_led_on : FnScope fn_led_on.nm fn_led_on.ps (defScope (topS 35)) := ⟨rfl, rfl, rfl, by decide +kernel, rfl, by decide +kernel, by decide +kernel⟩
theorem bo_led_on : fn_led_on.body = cB 30 ⟨fn_led_on.nm, defScope (topS 35), fun _ => true⟩ (defBody (topS 35)) := by kernel_rfl
theorem bn_led_on : Bn "led_on" (topS 35) fn_led_on := by
  refine ⟨rfl, fun sh hs kV doc pm an cdv ct us ks zs h1 h2 h3 => ?_⟩
  simp only [fn_led_on, List.mem_cons, List.not_mem_nil, or_false] at hs
  rcases hs with rfl
  · match us, ks, h1, h2 with
    | [a0, a1, a2, a3], [], _, _ =>
      cases h3
      rfl
theorem sc_told_legs : FnScope fn_told_legs.nm fn_told_legs.ps (defScope (topS 36)) := ⟨rfl, rfl, rfl, by decide +kernel, rfl, by decide +kernel, by decide +kernel⟩
theorem bo_told_legs : fn_told_legs.body = cB 30 ⟨fn_told_legs.nm, defScope (topS 36), fun _ => true⟩ (defBody (topS 36)) := by kernel_rfl
theorem bn_told_legs : Bn "told_legs" (topS 36) fn_told_legs := by
  refine ⟨rfl, fun sh hs kV doc pm an cdv ct us ks zs h1 h2 h3 => ?_⟩
  simp only [fn_told_legs, List.mem_cons, List.not_mem_nil, or_false] at hs
  rcases hs with rfl
  · match us, ks, h1, h2 with
    | [a0, a1], [], _, _ =>
      cases h3
      rfl
theorem sc_fault_of : FnScope fn_fault_of.nm fn_fault_of.ps (defScope (topS 37)) := ⟨rfl, rfl, rfl, by decide +kernel, rfl, by decide +kernel, by decide +kernel⟩
theorem bo_fault_of : fn_fault_of.body = cB 30 ⟨fn_fault_of.nm, defScope (topS 37), fun _ => true⟩ (defBody (topS 37)) := by kernel_rfl
theorem bn_fault_of : Bn "fault_of" (topS 37) fn_fault_of := by
  refine ⟨rfl, fun sh hs kV doc pm an cdv ct us ks zs h1 h2 h3 => ?_⟩
  simp only [fn_fault_of, List.mem_cons, List.not_mem_nil, or_false] at hs
  rcases hs with rfl
  · match us, ks, h1, h2 with
    | [a0], [], _, _ =>
      cases h3
      rfl
theorem sc_check_sound : FnScope fn_check_sound.nm fn_check_sound.ps (defScope (topS 38)) := ⟨rfl, rfl, rfl, by decide +kernel, rfl, by decide +kernel, by decide +kernel⟩
theorem bo_check_sound : fn_check_sound.body = cB 30 ⟨fn_check_sound.nm, defScope (topS 38), fun _ => true⟩ (defBody (topS 38)) := by kernel_rfl
theorem bn_check_sound : Bn "check_sound" (topS 38) fn_check_sound := by
  refine ⟨rfl, fun sh hs kV doc pm an cdv ct us ks zs h1 h2 h3 => ?_⟩
  simp only [fn_check_sound, List.mem_cons, List.not_mem_nil, or_false] at hs
  rcases hs with rfl
  · match us, ks, h1, h2 with
    | [a0], [], _, _ =>
      cases h3
      rfl
theorem sc_are_two : FnScope fn_are_two.nm fn_are_two.ps (defScope (topS 42)) := ⟨rfl, rfl, rfl, by decide +kernel, rfl, by decide +kernel, by decide +kernel⟩
theorem bo_are_two : fn_are_two.body = cB 30 ⟨fn_are_two.nm, defScope (topS 42), fun _ => true⟩ (defBody (topS 42)) := by kernel_rfl
theorem bn_are_two : Bn "are_two" (topS 42) fn_are_two := by
  refine ⟨rfl, fun sh hs kV doc pm an cdv ct us ks zs h1 h2 h3 => ?_⟩
  simp only [fn_are_two, List.mem_cons, List.not_mem_nil, or_false] at hs
  rcases hs with rfl
  · match us, ks, h1, h2 with
    | [a0, a1, a2], [], _, _ =>
      cases h3
      rfl
theorem sc_is_claim_of : FnScope fn_is_claim_of.nm fn_is_claim_of.ps (defScope (topS 43)) := ⟨rfl, rfl, rfl, by decide +kernel, rfl, by decide +kernel, by decide +kernel⟩
theorem bo_is_claim_of : fn_is_claim_of.body = cB 30 ⟨fn_is_claim_of.nm, defScope (topS 43), fun _ => true⟩ (defBody (topS 43)) := by kernel_rfl
theorem bn_is_claim_of : Bn "is_claim_of" (topS 43) fn_is_claim_of := by
  refine ⟨rfl, fun sh hs kV doc pm an cdv ct us ks zs h1 h2 h3 => ?_⟩
  simp only [fn_is_claim_of, List.mem_cons, List.not_mem_nil, or_false] at hs
  rcases hs with rfl
  · match us, ks, h1, h2 with
    | [a0, a1], [], _, _ =>
      cases h3
      rfl
theorem sc_are_claims_of : FnScope fn_are_claims_of.nm fn_are_claims_of.ps (defScope (topS 44)) := ⟨rfl, rfl, rfl, by decide +kernel, rfl, by decide +kernel, by decide +kernel⟩
theorem bo_are_claims_of : fn_are_claims_of.body = cB 30 ⟨fn_are_claims_of.nm, defScope (topS 44), fun _ => true⟩ (defBody (topS 44)) := by kernel_rfl
theorem bn_are_claims_of : Bn "are_claims_of" (topS 44) fn_are_claims_of := by
  refine ⟨rfl, fun sh hs kV doc pm an cdv ct us ks zs h1 h2 h3 => ?_⟩
  simp only [fn_are_claims_of, List.mem_cons, List.not_mem_nil, or_false] at hs
  rcases hs with rfl
  · match us, ks, h1, h2 with
    | [a0, a1], [], _, _ =>
      cases h3
      rfl
theorem sc_is_claims : FnScope fn_is_claims.nm fn_is_claims.ps (defScope (topS 45)) := ⟨rfl, rfl, rfl, by decide +kernel, rfl, by decide +kernel, by decide +kernel⟩
theorem bo_is_claims : fn_is_claims.body = cB 30 ⟨fn_is_claims.nm, defScope (topS 45), fun _ => true⟩ (defBody (topS 45)) := by kernel_rfl
theorem bn_is_claims : Bn "is_claims" (topS 45) fn_is_claims := by
  refine ⟨rfl, fun sh hs kV doc pm an cdv ct us ks zs h1 h2 h3 => ?_⟩
  simp only [fn_is_claims, List.mem_cons, List.not_mem_nil, or_false] at hs
  rcases hs with rfl
  · match us, ks, h1, h2 with
    | [a0, a1], [], _, _ =>
      cases h3
      rfl
theorem sc_is_formula : FnScope fn_is_formula.nm fn_is_formula.ps (defScope (topS 48)) := ⟨rfl, rfl, rfl, by decide +kernel, rfl, by decide +kernel, by decide +kernel⟩
theorem bo_is_formula : fn_is_formula.body = cB 30 ⟨fn_is_formula.nm, defScope (topS 48), fun _ => true⟩ (defBody (topS 48)) := by kernel_rfl
theorem bn_is_formula : Bn "is_formula" (topS 48) fn_is_formula := by
  refine ⟨rfl, fun sh hs kV doc pm an cdv ct us ks zs h1 h2 h3 => ?_⟩
  simp only [fn_is_formula, List.mem_cons, List.not_mem_nil, or_false] at hs
  rcases hs with rfl
  · match us, ks, h1, h2 with
    | [a0, a1], [], _, _ =>
      cases h3
      rfl
theorem sc_is_phase : FnScope fn_is_phase.nm fn_is_phase.ps (defScope (topS 52)) := ⟨rfl, rfl, rfl, by decide +kernel, rfl, by decide +kernel, by decide +kernel⟩
theorem bo_is_phase : fn_is_phase.body = cB 30 ⟨fn_is_phase.nm, defScope (topS 52), fun _ => true⟩ (defBody (topS 52)) := by kernel_rfl
theorem bn_is_phase : Bn "is_phase" (topS 52) fn_is_phase := by
  refine ⟨rfl, fun sh hs kV doc pm an cdv ct us ks zs h1 h2 h3 => ?_⟩
  simp only [fn_is_phase, List.mem_cons, List.not_mem_nil, or_false] at hs
  rcases hs with rfl
  · match us, ks, h1, h2 with
    | [a0, a1], [], _, _ =>
      cases h3
      rfl
theorem sc_check_phase : FnScope fn_check_phase.nm fn_check_phase.ps (defScope (topS 53)) := ⟨rfl, rfl, rfl, by decide +kernel, rfl, by decide +kernel, by decide +kernel⟩
theorem bo_check_phase : fn_check_phase.body = cB 30 ⟨fn_check_phase.nm, defScope (topS 53), fun _ => true⟩ (defBody (topS 53)) := by kernel_rfl
theorem bn_check_phase : Bn1 "check_phase" (topS 53) fn_check_phase 1 := by
  refine ⟨rfl, fun sh hs T kV doc pm an cdv ct us ks zs u h1 h2 h3 => ?_⟩
  simp only [fn_check_phase, List.mem_cons, List.not_mem_nil, or_false] at hs
  rcases hs with rfl | rfl
  · match us, ks, h1, h2 with
    | [a0, a1], [], _, _ =>
      cases h3
      exact ⟨_, rfl, rfl⟩
  · match us, ks, h1, h2 with
    | [a0, a1, a2], [], _, _ =>
      cases h3
      exact ⟨_, rfl, rfl⟩
theorem sc_check_both : FnScope fn_check_both.nm fn_check_both.ps (defScope (topS 54)) := ⟨rfl, rfl, rfl, by decide +kernel, rfl, by decide +kernel, by decide +kernel⟩
theorem bo_check_both : fn_check_both.body = cB 30 ⟨fn_check_both.nm, defScope (topS 54), fun _ => true⟩ (defBody (topS 54)) := by kernel_rfl
theorem bn_check_both : Bn "check_both" (topS 54) fn_check_both := by
  refine ⟨rfl, fun sh hs kV doc pm an cdv ct us ks zs h1 h2 h3 => ?_⟩
  simp only [fn_check_both, List.mem_cons, List.not_mem_nil, or_false] at hs
  rcases hs with rfl
  · match us, ks, h1, h2 with
    | [a0, a1, a2], [], _, _ =>
      cases h3
      rfl
theorem sc_check_years : FnScope fn_check_years.nm fn_check_years.ps (defScope (topS 55)) := ⟨rfl, rfl, rfl, by decide +kernel, rfl, by decide +kernel, by decide +kernel⟩
theorem bo_check_years : fn_check_years.body = cB 30 ⟨fn_check_years.nm, defScope (topS 55), fun _ => true⟩ (defBody (topS 55)) := by kernel_rfl
theorem bn_check_years : Bn "check_years" (topS 55) fn_check_years := by
  refine ⟨rfl, fun sh hs kV doc pm an cdv ct us ks zs h1 h2 h3 => ?_⟩
  simp only [fn_check_years, List.mem_cons, List.not_mem_nil, or_false] at hs
  rcases hs with rfl
  · match us, ks, h1, h2 with
    | [a0], [], _, _ =>
      cases h3
      rfl
theorem sc_check_length : FnScope fn_check_length.nm fn_check_length.ps (defScope (topS 56)) := ⟨rfl, rfl, rfl, by decide +kernel, rfl, by decide +kernel, by decide +kernel⟩
theorem bo_check_length : fn_check_length.body = cB 30 ⟨fn_check_length.nm, defScope (topS 56), fun _ => true⟩ (defBody (topS 56)) := by kernel_rfl
theorem bn_check_length : Bn "check_length" (topS 56) fn_check_length := by
  refine ⟨rfl, fun sh hs kV doc pm an cdv ct us ks zs h1 h2 h3 => ?_⟩
  simp only [fn_check_length, List.mem_cons, List.not_mem_nil, or_false] at hs
  rcases hs with rfl
  · match us, ks, h1, h2 with
    | [a0], [], _, _ =>
      cases h3
      rfl
theorem sc_pairs_of : FnScope fn_pairs_of.nm fn_pairs_of.ps (defScope (topS 57)) := ⟨rfl, rfl, rfl, by decide +kernel, rfl, by decide +kernel, by decide +kernel⟩
theorem bo_pairs_of : fn_pairs_of.body = cB 30 ⟨fn_pairs_of.nm, defScope (topS 57), fun _ => true⟩ (defBody (topS 57)) := by kernel_rfl
theorem bn_pairs_of : Bn "pairs_of" (topS 57) fn_pairs_of := by
  refine ⟨rfl, fun sh hs kV doc pm an cdv ct us ks zs h1 h2 h3 => ?_⟩
  simp only [fn_pairs_of, List.mem_cons, List.not_mem_nil, or_false] at hs
  rcases hs with rfl
  · match us, ks, h1, h2 with
    | [a0], [], _, _ =>
      cases h3
      rfl
theorem sc_ended_before : FnScope fn_ended_before.nm fn_ended_before.ps (defScope (topS 58)) := ⟨rfl, rfl, rfl, by decide +kernel, rfl, by decide +kernel, by decide +kernel⟩
theorem bo_ended_before : fn_ended_before.body = cB 30 ⟨fn_ended_before.nm, defScope (topS 58), fun _ => true⟩ (defBody (topS 58)) := by kernel_rfl
theorem bn_ended_before : Bn "ended_before" (topS 58) fn_ended_before := by
  refine ⟨rfl, fun sh hs kV doc pm an cdv ct us ks zs h1 h2 h3 => ?_⟩
  simp only [fn_ended_before, List.mem_cons, List.not_mem_nil, or_false] at hs
  rcases hs with rfl | rfl
  · match us, ks, h1, h2 with
    | [a0, a1, a2, a3], [], _, _ =>
      cases h3
      rfl
  · match us, ks, h1, h2 with
    | [], [b0, b1, b2, b3], _, _ =>
      cases h3
      rfl
theorem sc_lasted_at_most : FnScope fn_lasted_at_most.nm fn_lasted_at_most.ps (defScope (topS 59)) := ⟨rfl, rfl, rfl, by decide +kernel, rfl, by decide +kernel, by decide +kernel⟩
theorem bo_lasted_at_most : fn_lasted_at_most.body = cB 30 ⟨fn_lasted_at_most.nm, defScope (topS 59), fun _ => true⟩ (defBody (topS 59)) := by kernel_rfl
theorem bn_lasted_at_most : Bn "lasted_at_most" (topS 59) fn_lasted_at_most := by
  refine ⟨rfl, fun sh hs kV doc pm an cdv ct us ks zs h1 h2 h3 => ?_⟩
  simp only [fn_lasted_at_most, List.mem_cons, List.not_mem_nil, or_false] at hs
  rcases hs with rfl
  · match us, ks, h1, h2 with
    | [a0, a1, a2], [], _, _ =>
      cases h3
      rfl
theorem sc_lasted_at_least : FnScope fn_lasted_at_least.nm fn_lasted_at_least.ps (defScope (topS 60)) := ⟨rfl, rfl, rfl, by decide +kernel, rfl, by decide +kernel, by decide +kernel⟩
theorem bo_lasted_at_least : fn_lasted_at_least.body = cB 30 ⟨fn_lasted_at_least.nm, defScope (topS 60), fun _ => true⟩ (defBody (topS 60)) := by kernel_rfl
theorem bn_lasted_at_least : Bn "lasted_at_least" (topS 60) fn_lasted_at_least := by
  refine ⟨rfl, fun sh hs kV doc pm an cdv ct us ks zs h1 h2 h3 => ?_⟩
  simp only [fn_lasted_at_least, List.mem_cons, List.not_mem_nil, or_false] at hs
  rcases hs with rfl
  · match us, ks, h1, h2 with
    | [], [b0, b1, b2], _, _ =>
      cases h3
      rfl
theorem sc_overlapped : FnScope fn_overlapped.nm fn_overlapped.ps (defScope (topS 61)) := ⟨rfl, rfl, rfl, by decide +kernel, rfl, by decide +kernel, by decide +kernel⟩
theorem bo_overlapped : fn_overlapped.body = cB 30 ⟨fn_overlapped.nm, defScope (topS 61), fun _ => true⟩ (defBody (topS 61)) := by kernel_rfl
theorem bn_overlapped : Bn "overlapped" (topS 61) fn_overlapped := by
  refine ⟨rfl, fun sh hs kV doc pm an cdv ct us ks zs h1 h2 h3 => ?_⟩
  simp only [fn_overlapped, List.mem_cons, List.not_mem_nil, or_false] at hs
  rcases hs with rfl
  · match us, ks, h1, h2 with
    | [a0, a1, a2], [], _, _ =>
      cases h3
      rfl
theorem sc_within : FnScope fn_within.nm fn_within.ps (defScope (topS 62)) := ⟨rfl, rfl, rfl, by decide +kernel, rfl, by decide +kernel, by decide +kernel⟩
theorem bo_within : fn_within.body = cB 30 ⟨fn_within.nm, defScope (topS 62), fun _ => true⟩ (defBody (topS 62)) := by kernel_rfl
theorem bn_within : Bn "within" (topS 62) fn_within := by
  refine ⟨rfl, fun sh hs kV doc pm an cdv ct us ks zs h1 h2 h3 => ?_⟩
  simp only [fn_within, List.mem_cons, List.not_mem_nil, or_false] at hs
  rcases hs with rfl
  · match us, ks, h1, h2 with
    | [a0, a1, a2, a3], [], _, _ =>
      cases h3
      rfl
theorem sc_law_pot : FnScope fn_law_pot.nm fn_law_pot.ps (defScope (topS 64)) := ⟨rfl, rfl, rfl, by decide +kernel, rfl, by decide +kernel, by decide +kernel⟩
theorem bo_law_pot : fn_law_pot.body = cB 30 ⟨fn_law_pot.nm, defScope (topS 64), fun _ => true⟩ (defBody (topS 64)) := by kernel_rfl
theorem bn_law_pot : Bn "_law_pot" (topS 64) fn_law_pot := by
  refine ⟨rfl, fun sh hs kV doc pm an cdv ct us ks zs h1 h2 h3 => ?_⟩
  simp only [fn_law_pot, List.mem_cons, List.not_mem_nil, or_false] at hs
  rcases hs with rfl
  · match us, ks, h1, h2 with
    | [a0, a1], [], _, _ =>
      cases h3
      rfl
theorem sc_law_draw : FnScope fn_law_draw.nm fn_law_draw.ps (defScope (topS 65)) := ⟨rfl, rfl, rfl, by decide +kernel, rfl, by decide +kernel, by decide +kernel⟩
theorem bo_law_draw : fn_law_draw.body = cB 30 ⟨fn_law_draw.nm, defScope (topS 65), fun _ => true⟩ (defBody (topS 65)) := by kernel_rfl
theorem bn_law_draw : Bn "_law_draw" (topS 65) fn_law_draw := by
  refine ⟨rfl, fun sh hs kV doc pm an cdv ct us ks zs h1 h2 h3 => ?_⟩
  simp only [fn_law_draw, List.mem_cons, List.not_mem_nil, or_false] at hs
  rcases hs with rfl
  · match us, ks, h1, h2 with
    | [a0, a1], [], _, _ =>
      cases h3
      rfl
theorem sc_law_pick : FnScope fn_law_pick.nm fn_law_pick.ps (defScope (topS 66)) := ⟨rfl, rfl, rfl, by decide +kernel, rfl, by decide +kernel, by decide +kernel⟩
theorem bo_law_pick : fn_law_pick.body = cB 30 ⟨fn_law_pick.nm, defScope (topS 66), fun _ => true⟩ (defBody (topS 66)) := by kernel_rfl
theorem bn_law_pick : Bn "_law_pick" (topS 66) fn_law_pick := by
  refine ⟨rfl, fun sh hs kV doc pm an cdv ct us ks zs h1 h2 h3 => ?_⟩
  simp only [fn_law_pick, List.mem_cons, List.not_mem_nil, or_false] at hs
  rcases hs with rfl
  · match us, ks, h1, h2 with
    | [a0, a1], [], _, _ =>
      cases h3
      rfl
theorem sc_law_denied : FnScope fn_law_denied.nm fn_law_denied.ps (defScope (topS 67)) := ⟨rfl, rfl, rfl, by decide +kernel, rfl, by decide +kernel, by decide +kernel⟩
theorem bo_law_denied : fn_law_denied.body = cB 30 ⟨fn_law_denied.nm, defScope (topS 67), fun _ => true⟩ (defBody (topS 67)) := by kernel_rfl
theorem bn_law_denied : Bn "_law_denied" (topS 67) fn_law_denied := by
  refine ⟨rfl, fun sh hs kV doc pm an cdv ct us ks zs h1 h2 h3 => ?_⟩
  simp only [fn_law_denied, List.mem_cons, List.not_mem_nil, or_false] at hs
  rcases hs with rfl
  · match us, ks, h1, h2 with
    | [a0, a1], [], _, _ =>
      cases h3
      rfl
theorem sc_law_hard : FnScope fn_law_hard.nm fn_law_hard.ps (defScope (topS 68)) := ⟨rfl, rfl, rfl, by decide +kernel, rfl, by decide +kernel, by decide +kernel⟩
theorem bo_law_hard : fn_law_hard.body = cB 30 ⟨fn_law_hard.nm, defScope (topS 68), fun _ => true⟩ (defBody (topS 68)) := by kernel_rfl
theorem bn_law_hard : Bn "_law_hard" (topS 68) fn_law_hard := by
  refine ⟨rfl, fun sh hs kV doc pm an cdv ct us ks zs h1 h2 h3 => ?_⟩
  simp only [fn_law_hard, List.mem_cons, List.not_mem_nil, or_false] at hs
  rcases hs with rfl
  · match us, ks, h1, h2 with
    | [a0, a1], [], _, _ =>
      cases h3
      rfl
theorem sc_law_soft : FnScope fn_law_soft.nm fn_law_soft.ps (defScope (topS 69)) := ⟨rfl, rfl, rfl, by decide +kernel, rfl, by decide +kernel, by decide +kernel⟩
theorem bo_law_soft : fn_law_soft.body = cB 30 ⟨fn_law_soft.nm, defScope (topS 69), fun _ => true⟩ (defBody (topS 69)) := by kernel_rfl
theorem bn_law_soft : Bn "_law_soft" (topS 69) fn_law_soft := by
  refine ⟨rfl, fun sh hs kV doc pm an cdv ct us ks zs h1 h2 h3 => ?_⟩
  simp only [fn_law_soft, List.mem_cons, List.not_mem_nil, or_false] at hs
  rcases hs with rfl
  · match us, ks, h1, h2 with
    | [a0, a1], [], _, _ =>
      cases h3
      rfl
theorem sc_law_least : FnScope fn_law_least.nm fn_law_least.ps (defScope (topS 70)) := ⟨rfl, rfl, rfl, by decide +kernel, rfl, by decide +kernel, by decide +kernel⟩
theorem bo_law_least : fn_law_least.body = cB 30 ⟨fn_law_least.nm, defScope (topS 70), fun _ => true⟩ (defBody (topS 70)) := by kernel_rfl
theorem bn_law_least : Bn "_law_least" (topS 70) fn_law_least := by
  refine ⟨rfl, fun sh hs kV doc pm an cdv ct us ks zs h1 h2 h3 => ?_⟩
  simp only [fn_law_least, List.mem_cons, List.not_mem_nil, or_false] at hs
  rcases hs with rfl
  · match us, ks, h1, h2 with
    | [a0, a1], [], _, _ =>
      cases h3
      rfl
theorem sc_law_with : FnScope fn_law_with.nm fn_law_with.ps (defScope (topS 72)) := ⟨rfl, rfl, rfl, by decide +kernel, rfl, by decide +kernel, by decide +kernel⟩
theorem bo_law_with : fn_law_with.body = cB 30 ⟨fn_law_with.nm, defScope (topS 72), fun _ => true⟩ (defBody (topS 72)) := by kernel_rfl
theorem bn_law_with : Bn "_law_with" (topS 72) fn_law_with := by
  refine ⟨rfl, fun sh hs kV doc pm an cdv ct us ks zs h1 h2 h3 => ?_⟩
  simp only [fn_law_with, List.mem_cons, List.not_mem_nil, or_false] at hs
  rcases hs with rfl
  · match us, ks, h1, h2 with
    | [a0, a1, a2], [], _, _ =>
      cases h3
      rfl
theorem sc_law_link : FnScope fn_law_link.nm fn_law_link.ps (defScope (topS 73)) := ⟨rfl, rfl, rfl, by decide +kernel, rfl, by decide +kernel, by decide +kernel⟩
theorem bo_law_link : fn_law_link.body = cB 30 ⟨fn_law_link.nm, defScope (topS 73), fun _ => true⟩ (defBody (topS 73)) := by kernel_rfl
theorem bn_law_link : Bn "_law_link" (topS 73) fn_law_link := by
  refine ⟨rfl, fun sh hs kV doc pm an cdv ct us ks zs h1 h2 h3 => ?_⟩
  simp only [fn_law_link, List.mem_cons, List.not_mem_nil, or_false] at hs
  rcases hs with rfl
  · match us, ks, h1, h2 with
    | [a0, a1], [], _, _ =>
      cases h3
      rfl
theorem sc_law_links : FnScope fn_law_links.nm fn_law_links.ps (defScope (topS 74)) := ⟨rfl, rfl, rfl, by decide +kernel, rfl, by decide +kernel, by decide +kernel⟩
theorem bo_law_links : fn_law_links.body = cB 30 ⟨fn_law_links.nm, defScope (topS 74), fun _ => true⟩ (defBody (topS 74)) := by kernel_rfl
theorem bn_law_links : Bn "_law_links" (topS 74) fn_law_links := by
  refine ⟨rfl, fun sh hs kV doc pm an cdv ct us ks zs h1 h2 h3 => ?_⟩
  simp only [fn_law_links, List.mem_cons, List.not_mem_nil, or_false] at hs
  rcases hs with rfl
  · match us, ks, h1, h2 with
    | [a0, a1, a2], [], _, _ =>
      cases h3
      rfl
theorem sc_law_find : FnScope fn_law_find.nm fn_law_find.ps (defScope (topS 75)) := ⟨rfl, rfl, rfl, by decide +kernel, rfl, by decide +kernel, by decide +kernel⟩
theorem bo_law_find : fn_law_find.body = cB 30 ⟨fn_law_find.nm, defScope (topS 75), fun _ => true⟩ (defBody (topS 75)) := by kernel_rfl
theorem bn_law_find : Bn "_law_find" (topS 75) fn_law_find := by
  refine ⟨rfl, fun sh hs kV doc pm an cdv ct us ks zs h1 h2 h3 => ?_⟩
  simp only [fn_law_find, List.mem_cons, List.not_mem_nil, or_false] at hs
  rcases hs with rfl
  · match us, ks, h1, h2 with
    | [a0, a1, a2], [], _, _ =>
      cases h3
      rfl
theorem sc_law_worlds : FnScope fn_law_worlds.nm fn_law_worlds.ps (defScope (topS 76)) := ⟨rfl, rfl, rfl, by decide +kernel, rfl, by decide +kernel, by decide +kernel⟩
theorem bo_law_worlds : fn_law_worlds.body = cB 30 ⟨fn_law_worlds.nm, defScope (topS 76), fun _ => true⟩ (defBody (topS 76)) := by kernel_rfl
theorem bn_law_worlds : Bn "_law_worlds" (topS 76) fn_law_worlds := by
  refine ⟨rfl, fun sh hs kV doc pm an cdv ct us ks zs h1 h2 h3 => ?_⟩
  simp only [fn_law_worlds, List.mem_cons, List.not_mem_nil, or_false] at hs
  rcases hs with rfl
  · match us, ks, h1, h2 with
    | [a0], [], _, _ =>
      cases h3
      rfl
theorem sc_law_holds : FnScope fn_law_holds.nm fn_law_holds.ps (defScope (topS 77)) := ⟨rfl, rfl, rfl, by decide +kernel, rfl, by decide +kernel, by decide +kernel⟩
theorem bo_law_holds : fn_law_holds.body = cB 30 ⟨fn_law_holds.nm, defScope (topS 77), fun _ => true⟩ (defBody (topS 77)) := by kernel_rfl
theorem bn_law_holds : Bn "_law_holds" (topS 77) fn_law_holds := by
  refine ⟨rfl, fun sh hs kV doc pm an cdv ct us ks zs h1 h2 h3 => ?_⟩
  simp only [fn_law_holds, List.mem_cons, List.not_mem_nil, or_false] at hs
  rcases hs with rfl
  · match us, ks, h1, h2 with
    | [a0, a1], [], _, _ =>
      cases h3
      rfl
theorem sc_law_narrow : FnScope fn_law_narrow.nm fn_law_narrow.ps (defScope (topS 78)) := ⟨rfl, rfl, rfl, by decide +kernel, rfl, by decide +kernel, by decide +kernel⟩
theorem bo_law_narrow : fn_law_narrow.body = cB 30 ⟨fn_law_narrow.nm, defScope (topS 78), fun _ => true⟩ (defBody (topS 78)) := by kernel_rfl
theorem bn_law_narrow : Bn "_law_narrow" (topS 78) fn_law_narrow := by
  refine ⟨rfl, fun sh hs kV doc pm an cdv ct us ks zs h1 h2 h3 => ?_⟩
  simp only [fn_law_narrow, List.mem_cons, List.not_mem_nil, or_false] at hs
  rcases hs with rfl
  · match us, ks, h1, h2 with
    | [a0, a1, a2, a3], [], _, _ =>
      cases h3
      rfl
theorem sc_law_phase : FnScope fn_law_phase.nm fn_law_phase.ps (defScope (topS 79)) := ⟨rfl, rfl, rfl, by decide +kernel, rfl, by decide +kernel, by decide +kernel⟩
theorem bo_law_phase : fn_law_phase.body = cB 30 ⟨fn_law_phase.nm, defScope (topS 79), fun _ => true⟩ (defBody (topS 79)) := by kernel_rfl
theorem bn_law_phase : Bn "_law_phase" (topS 79) fn_law_phase := by
  refine ⟨rfl, fun sh hs kV doc pm an cdv ct us ks zs h1 h2 h3 => ?_⟩
  simp only [fn_law_phase, List.mem_cons, List.not_mem_nil, or_false] at hs
  rcases hs with rfl
  · match us, ks, h1, h2 with
    | [a0, a1, a2], [], _, _ =>
      cases h3
      rfl
theorem sc_law_is_so : FnScope fn_law_is_so.nm fn_law_is_so.ps (defScope (topS 80)) := ⟨rfl, rfl, rfl, by decide +kernel, rfl, by decide +kernel, by decide +kernel⟩
theorem bo_law_is_so : fn_law_is_so.body = cB 30 ⟨fn_law_is_so.nm, defScope (topS 80), fun _ => true⟩ (defBody (topS 80)) := by kernel_rfl
theorem bn_law_is_so : Bn "_law_is_so" (topS 80) fn_law_is_so := by
  refine ⟨rfl, fun sh hs kV doc pm an cdv ct us ks zs h1 h2 h3 => ?_⟩
  simp only [fn_law_is_so, List.mem_cons, List.not_mem_nil, or_false] at hs
  rcases hs with rfl
  · match us, ks, h1, h2 with
    | [a0, a1], [], _, _ =>
      cases h3
      rfl
theorem sc_law_pairs : FnScope fn_law_pairs.nm fn_law_pairs.ps (defScope (topS 81)) := ⟨rfl, rfl, rfl, by decide +kernel, rfl, by decide +kernel, by decide +kernel⟩
theorem bo_law_pairs : fn_law_pairs.body = cB 30 ⟨fn_law_pairs.nm, defScope (topS 81), fun _ => true⟩ (defBody (topS 81)) := by kernel_rfl
theorem bn_law_pairs : Bn "_law_pairs" (topS 81) fn_law_pairs := by
  refine ⟨rfl, fun sh hs kV doc pm an cdv ct us ks zs h1 h2 h3 => ?_⟩
  simp only [fn_law_pairs, List.mem_cons, List.not_mem_nil, or_false] at hs
  rcases hs with rfl
  · match us, ks, h1, h2 with
    | [a0, a1], [], _, _ =>
      cases h3
      rfl
theorem sc_law_right : FnScope fn_law_right.nm fn_law_right.ps (defScope (topS 82)) := ⟨rfl, rfl, rfl, by decide +kernel, rfl, by decide +kernel, by decide +kernel⟩
theorem bo_law_right : fn_law_right.body = cB 30 ⟨fn_law_right.nm, defScope (topS 82), fun _ => true⟩ (defBody (topS 82)) := by kernel_rfl
theorem bn_law_right : Bn "_law_right" (topS 82) fn_law_right := by
  refine ⟨rfl, fun sh hs kV doc pm an cdv ct us ks zs h1 h2 h3 => ?_⟩
  simp only [fn_law_right, List.mem_cons, List.not_mem_nil, or_false] at hs
  rcases hs with rfl
  · match us, ks, h1, h2 with
    | [a0], [], _, _ =>
      cases h3
      rfl
theorem sc_law : FnScope fn_law.nm fn_law.ps (defScope (topS 83)) := ⟨rfl, rfl, rfl, by decide +kernel, rfl, by decide +kernel, by decide +kernel⟩
theorem bo_law : fn_law.body = cB 30 ⟨fn_law.nm, defScope (topS 83), fun _ => true⟩ (defBody (topS 83)) := by kernel_rfl
theorem bn_law : Bn "law" (topS 83) fn_law := by
  refine ⟨rfl, fun sh hs kV doc pm an cdv ct us ks zs h1 h2 h3 => ?_⟩
  simp only [fn_law, List.mem_cons, List.not_mem_nil, or_false] at hs
  rcases hs with rfl
  · match us, ks, h1, h2 with
    | [a0], [], _, _ =>
      cases h3
      rfl
end K81
end

section
set_option maxRecDepth 100000
/-! K81A: small checks. -/
namespace K81
open PySem MP
variable {k : Nat} {S : Sto} {m m1 m2 m3 : Nat}

def lkD : Option (Int × Int × Int) → PyData
  | none => .tuple []
  | some (u, l, g) => .tuple [.int u, .int l, .int g]

@[simp] theorem sh_nil : SeqAt.shaped (.tuple []) = true := by decide +kernel
@[simp] theorem sh_int (i : Int) : SeqAt.shaped (.int i) = true := rfl
@[simp] theorem sh_bool (i : Bool) : SeqAt.shaped (.bool i) = true := rfl
@[simp] theorem eqv_int (i j : Int) : PyData.eqv (.int i) (.int j) = (i == j) := by simp [PyData.eqv]
@[simp] theorem eqv_t0 : PyData.eqv (.tuple []) (.tuple []) = true := by simp [PyData.eqv, PyData.eqvAll]
@[simp] theorem eqv_t1 (x : PyData) (xs : List PyData) : PyData.eqv (.tuple (x :: xs)) (.tuple []) = false := by simp [PyData.eqv, PyData.eqvAll]
@[simp] theorem sh_int3 (a b c : Int) : SeqAt.shaped (.tuple [.int a, .int b, .int c]) = true := by simp [SeqAt.shaped, PyData.canLay0, PyData.canLayAll0, PyData.depth, PyData.depthAll]

@[simp] theorem r_is_integer (i : Int) : fn_is_integer.run (FT tab gl k) gl [.dat (.int i) m] S = some (.dat (.bool true) 0, S) := by
  unfold Fn.run
  simp [fn_is_integer, inWs, inW, W.fz, binE, negE, cmpE, chainE, isNE, notNE, notBE, andE, orE, notE, iteE, tupE, lstE, idxE, slLE, slHE, callE, callKE, biE, isiE, isi2E, consE, ts1, exE, asgE, asgV, asgTE, asgPE, setIE, ifsE, seqE, retE, retV, useR_same, fzAll, tyIs, cmpop, binop, biop, idxop, ixD, datAll, dOf, isL, noneD, List.replicate, asgQ, setWs]
@[simp] theorem r_is_count (i : Int) : fn_is_count.run (FT tab gl (k + 1)) gl [.dat (.int i) m] S = some (.dat (.bool (decide (0 ≤ i))) 0, S) := by
  unfold Fn.run
  simp [fn_is_count, c_is_integer, inWs, inW, W.fz, binE, negE, cmpE, chainE, isNE, notNE, notBE, andE, orE, notE, iteE, tupE, lstE, idxE, slLE, slHE, callE, callKE, biE, isiE, isi2E, consE, ts1, exE, asgE, asgV, asgTE, asgPE, setIE, ifsE, seqE, retE, retV, useR_same, fzAll, tyIs, cmpop, binop, biop, idxop, ixD, datAll, dOf, isL, noneD, List.replicate, asgQ, setWs]
@[simp] theorem r_is_within (i a b : Int) : fn_is_within.run (FT tab gl (k + 1)) gl [.dat (.int i) m, .dat (.int a) m1, .dat (.int b) m2] S = some (.dat (.bool (decide (a ≤ i ∧ i ≤ b))) 0, S) := by
  unfold Fn.run
  simp [fn_is_within, c_is_integer, inWs, inW, W.fz, binE, negE, cmpE, chainE, isNE, notNE, notBE, andE, orE, notE, iteE, tupE, lstE, idxE, slLE, slHE, callE, callKE, biE, isiE, isi2E, consE, ts1, exE, asgE, asgV, asgTE, asgPE, setIE, ifsE, seqE, retE, retV, useR_same, fzAll, tyIs, cmpop, binop, biop, idxop, ixD, datAll, dOf, isL, noneD, List.replicate, asgQ, setWs]
  by_cases h : a ≤ i <;> simp [h]
@[simp] theorem r_is_year (i : Int) : fn_is_year.run (FT tab gl (k + 2)) gl [.dat (.int i) m] S = some (.dat (.bool (decide (-99999 ≤ i ∧ i ≤ 99999))) 0, S) := by
  unfold Fn.run
  simp [fn_is_year, c_is_within, inWs, inW, W.fz, binE, negE, cmpE, chainE, isNE, notNE, notBE, andE, orE, notE, iteE, tupE, lstE, idxE, slLE, slHE, callE, callKE, biE, isiE, isi2E, consE, ts1, exE, asgE, asgV, asgTE, asgPE, setIE, ifsE, seqE, retE, retV, useR_same, fzAll, tyIs, cmpop, binop, biop, idxop, ixD, datAll, dOf, isL, noneD, List.replicate, asgQ, setWs]
theorem r_is_list (xs : List PyData) : fn_is_list.run (FT tab gl k) gl [.dat (.list xs) m] S = some (.dat (.bool true) 0, S) := by
  unfold Fn.run
  simp [fn_is_list, inWs, inW, W.fz, binE, negE, cmpE, chainE, isNE, notNE, notBE, andE, orE, notE, iteE, tupE, lstE, idxE, slLE, slHE, callE, callKE, biE, isiE, isi2E, consE, ts1, exE, asgE, asgV, asgTE, asgPE, setIE, ifsE, seqE, retE, retV, useR_same, fzAll, tyIs, cmpop, binop, biop, idxop, ixD, datAll, dOf, isL, noneD, List.replicate, asgQ, setWs]
theorem r_is_link0 (n : Int) : fn_is_link_of.run (FT tab gl (k + 2)) gl [.dat (.int n) m, .dat (.tuple []) m1] S = some (.dat (.bool true) 0, S) := by
  unfold Fn.run
  simp [fn_is_link_of, seqOf, flat, inD, LIM, inWs, inW, W.fz, binE, negE, cmpE, chainE, isNE, notNE, notBE, andE, orE, notE, iteE, tupE, lstE, idxE, slLE, slHE, callE, callKE, biE, isiE, isi2E, consE, ts1, exE, asgE, asgV, asgTE, asgPE, setIE, ifsE, seqE, retE, retV, useR_same, fzAll, tyIs, cmpop, binop, biop, idxop, ixD, datAll, dOf, isL, noneD, List.replicate, asgQ, setWs]
theorem r_is_link1 {n u l g : Int} (h1 : 0 ≤ u) (h2 : u ≤ n - 1) (h3 : 0 ≤ l) (h4 : l ≤ n - 1) (h5 : (u == l) = false) (h6 : -9999 ≤ g) (h7 : g ≤ 9999) : fn_is_link_of.run (FT tab gl (k + 2)) gl [.dat (.int n) m, .dat (.tuple [.int u, .int l, .int g]) m1] S = some (.dat (.bool true) 0, S) := by
  unfold Fn.run
  simp [fn_is_link_of, seqOf, flat, inD, LIM, c_is_within, h1, h2, h3, h4, h5, h6, h7, inWs, inW, W.fz, binE, negE, cmpE, chainE, isNE, notNE, notBE, andE, orE, notE, iteE, tupE, lstE, idxE, slLE, slHE, callE, callKE, biE, isiE, isi2E, consE, ts1, exE, asgE, asgV, asgTE, asgPE, setIE, ifsE, seqE, retE, retV, useR_same, fzAll, tyIs, cmpop, binop, biop, idxop, ixD, datAll, dOf, isL, noneD, List.replicate, asgQ, setWs]
theorem r_is_find0 (n : Int) : fn_is_find_of.run (FT tab gl (k + 3)) gl [.dat (.int n) m, .dat (.tuple []) m1] S = some (.dat (.bool true) 0, S) := by
  unfold Fn.run
  simp [fn_is_find_of, seqOf, flat, inD, LIM, inWs, inW, W.fz, binE, negE, cmpE, chainE, isNE, notNE, notBE, andE, orE, notE, iteE, tupE, lstE, idxE, slLE, slHE, callE, callKE, biE, isiE, isi2E, consE, ts1, exE, asgE, asgV, asgTE, asgPE, setIE, ifsE, seqE, retE, retV, useR_same, fzAll, tyIs, cmpop, binop, biop, idxop, ixD, datAll, dOf, isL, noneD, List.replicate, asgQ, setWs]
theorem r_is_find1 {n l y t : Int} {s : Str} (hs : s = "after" ∨ s = "before") (h1 : 0 ≤ l) (h2 : l ≤ n - 1) (h3 : -99999 ≤ y) (h4 : y ≤ 99999) (h5 : 1 ≤ t) (h6 : t ≤ 9999) : fn_is_find_of.run (FT tab gl (k + 3)) gl [.dat (.int n) m, .dat (.tuple [.str s, .int l, .int y, .int t]) m1] S = some (.dat (.bool true) 0, S) := by
  have e1 : ((Str.ofString "after") == (Str.ofString "after")) = true := by decide +kernel
  have e2 : ((Str.ofString "before") == (Str.ofString "before")) = true := by decide +kernel
  have e3 : ((Str.ofString "after") == (Str.ofString "before")) = false := by decide +kernel
  have hs : SeqAt.shaped (.tuple [.str s, .int l, .int y, .int t]) = true ∧ (PyData.eqv (.str "after") (.str s) || PyData.eqv (.str "before") (.str s)) = true := by
    rcases hs with rfl | rfl
    · exact ⟨by simp [SeqAt.shaped, PyData.canLay0, PyData.canLayAll0, PyData.depth, PyData.depthAll] <;> decide +kernel, by simp [PyData.eqv, e1]⟩
    · exact ⟨by simp [SeqAt.shaped, PyData.canLay0, PyData.canLayAll0, PyData.depth, PyData.depthAll] <;> decide +kernel, by simp [PyData.eqv, e2]⟩
  unfold Fn.run
  simp [fn_is_find_of, seqOf, flat, inD, LIM, c_is_within, c_is_year, h1, h2, h3, h4, h5, h6, hs.1, inWs, inW, W.fz, binE, negE, cmpE, chainE, isNE, notNE, notBE, andE, orE, notE, iteE, tupE, lstE, idxE, slLE, slHE, callE, callKE, biE, isiE, isi2E, consE, ts1, exE, asgE, asgV, asgTE, asgPE, setIE, ifsE, seqE, retE, retV, useR_same, fzAll, tyIs, cmpop, binop, biop, idxop, ixD, datAll, dOf, isL, noneD, List.replicate, asgQ, setWs]
  have h8 := hs.2
  rw [Bool.or_eq_true] at h8
  rcases h8 with h8 | h8 <;> simp [h8, c_is_within, c_is_year, h1, h2, h3, h4, h5, h6, inWs, inW, W.fz, binE, negE, cmpE, chainE, isNE, notNE, notBE, andE, orE, notE, iteE, tupE, lstE, idxE, slLE, slHE, callE, callKE, biE, isiE, isi2E, consE, ts1, exE, asgE, asgV, asgTE, asgPE, setIE, ifsE, seqE, retE, retV, useR_same, fzAll, tyIs, cmpop, binop, biop, idxop, ixD, datAll, dOf, isL, noneD, List.replicate, asgQ, setWs]
theorem r_is_span {b e : Int} (h1 : -99999 ≤ b) (h2 : b ≤ e) (h3 : e ≤ 99999) : fn_is_span.run (FT tab gl (k + 3)) gl [.dat (.tuple [.int b, .int e]) m] S = some (.dat (.bool true) 0, S) := by
  have h4 : b ≤ 99999 := by omega
  have h5 : -99999 ≤ e := by omega
  unfold Fn.run
  simp [fn_is_span, LIM, c_is_year, h1, h2, h3, h4, h5, inWs, inW, W.fz, binE, negE, cmpE, chainE, isNE, notNE, notBE, andE, orE, notE, iteE, tupE, lstE, idxE, slLE, slHE, callE, callKE, biE, isiE, isi2E, consE, ts1, exE, asgE, asgV, asgTE, asgPE, setIE, ifsE, seqE, retE, retV, useR_same, fzAll, tyIs, cmpop, binop, biop, idxop, ixD, datAll, dOf, isL, noneD, List.replicate, asgQ, setWs]
end K81
end

section
set_option maxRecDepth 100000
/-! K81B: a dig is well formed. -/
namespace K81
open PySem MP
variable {k : Nat} {S : Sto} {m m1 m2 m3 : Nat}

/-- a link of a dig of n layers -/
def LkOk (n : Int) : Option (Int × Int × Int) → Prop
  | none => True
  | some (u, l, g) => (0 ≤ u ∧ u ≤ n - 1) ∧ (0 ≤ l ∧ l ≤ n - 1) ∧ u ≠ l ∧ -9999 ≤ g ∧ g ≤ 9999
def FdOk (n : Int) (f : PyData) : Prop := f = .tuple [] ∨ ∃ (s : Str) (l y t : Int), f = .tuple [.str s, .int l, .int y, .int t] ∧ (s = "after" ∨ s = "before") ∧ (0 ≤ l ∧ l ≤ n - 1) ∧ (-99999 ≤ y ∧ y ≤ 99999) ∧ (1 ≤ t ∧ t ≤ 9999)
def prs : List (Option (Int × Int × Int)) → List (Int × Int)
  | [] => []
  | none :: r => prs r
  | some (u, l, _) :: r => (u, l) :: prs r
theorem r_is_link {n : Int} {x : Option (Int × Int × Int)} (h : LkOk n x) : fn_is_link_of.run (FT tab gl (k + 2)) gl [.dat (.int n) m, .dat (lkD x) m1] S = some (.dat (.bool true) 0, S) := by
  match x, h with
  | none, _ => exact r_is_link0 n
  | some (u, l, g), ⟨⟨a, b⟩, ⟨c, d⟩, e, f, g'⟩ => exact r_is_link1 a b c d (by simpa using e) f g'
theorem r_is_find {n : Int} {f : PyData} (h : FdOk n f) : fn_is_find_of.run (FT tab gl (k + 3)) gl [.dat (.int n) m, .dat f m1] S = some (.dat (.bool true) 0, S) := by
  rcases h with rfl | ⟨s, l, y, t, rfl, hs, h1, h2, h3⟩
  · exact r_is_find0 n
  · exact r_is_find1 hs h1.1 h1.2 h2.1 h2.2 h3.1 h3.2
theorem sh_lk (x : Option (Int × Int × Int)) : SeqAt.shaped (lkD x) = true := by
  cases x with
  | none => exact sh_nil
  | some p => exact sh_int3 _ _ _
theorem ne_lk (x : Option (Int × Int × Int)) : PyData.eqv (lkD x) (.tuple []) = x.isNone := by
  cases x with
  | none => exact eqv_t0
  | some p => exact eqv_t1 _ _
def cut2 : PyData → PyData
  | .tuple xs => .tuple (xs.take (clampD xs.length 2))
  | _ => .none
theorem prs_map : ∀ {ls : List (Option (Int × Int × Int))}, allPairs ((((ls.map lkD).filter fun x => !PyData.eqv x (.tuple [])).map fun x => cut2 x)) = some (prs ls)
  | [] => rfl
  | none :: r => by
    rw [List.map_cons, List.filter_cons_of_neg (by simp [lkD])]
    exact prs_map (ls := r)
  | some (u, l, g) :: r => by
    rw [List.map_cons, List.filter_cons_of_pos (by simp [lkD]), List.map_cons]
    have ih := prs_map (ls := r)
    show (match pairI (.tuple ([PyData.int u, .int l, .int g].take (clampD 3 2))), _ with
      | some p, some ps => some (p :: ps)
      | _, _ => none) = _
    rw [ih]
    rfl
theorem allPairs_len : ∀ {qs : List PyData} {ps : List (Int × Int)}, allPairs qs = some ps → qs.length = ps.length
  | [], ps, h => by
    cases h
    rfl
  | q :: qs, ps, h => by
    unfold allPairs at h
    split at h
    · rename_i p ps' h1 h2
      cases h
      rw [List.length_cons, List.length_cons, allPairs_len h2]
    · cases h
theorem dist_nd : ∀ {ps : List (Int × Int)}, ps.Nodup → (distinct ps).length = ps.length
  | [], _ => rfl
  | p :: ps, h => by
    have h' := List.nodup_cons.mp h
    have sub : ∀ (qs : List (Int × Int)) (x : Int × Int), x ∈ distinct qs → x ∈ qs := fun qs => by
      induction qs with
      | nil => exact fun _ z => z
      | cons q qs ih =>
        intro x hx
        unfold distinct at hx
        split at hx
        · exact List.mem_cons_of_mem _ (ih x hx)
        · rcases List.mem_cons.mp hx with e | hx
          · rw [e]
            simp
          · exact List.mem_cons_of_mem _ (ih x hx)
    unfold distinct
    rw [if_neg (fun z => h'.1 (sub _ _ (List.contains_iff_mem.mp z)))]
    rw [List.length_cons, List.length_cons, dist_nd h'.2]
theorem r_are_links {n : Int} {ls : List (Option (Int × Int × Int))} (h1 : ls.length ≤ 12) (h2 : ∀ x ∈ ls, LkOk n x) (h3 : (prs ls).Nodup) : fn_are_links.run (FT tab gl (k + 3)) gl [.dat (.int n) m, .dat (.tuple (ls.map lkD)) m1] S = some (.dat (.bool true) 0, S) := by
  have hl : (ls.map lkD).length ≤ LIM := by
    rw [List.length_map]
    exact Nat.le_trans h1 (by decide)
  have c1 : evE (FT tab gl (k + 3)) gl (.comp (.call "is_link_of" [.v 0, .v 2]) [2] true .seq [.v 1] []) [some (.dat (.int n) 0), some (.dat (.tuple (ls.map lkD)) 0), none, none, none] S = some (.dat (.list (ls.map fun _ => .bool true)) 2, S) := by
    have hg : compGo (stepE (evE (FT tab gl (k + 3)) gl (.call "is_link_of" [.v 0, .v 2])) (evTs (FT tab gl (k + 3)) gl []) [2] true [some (.dat (.int n) 0), some (.dat (.tuple (ls.map lkD)) 0), none, none, none]) (ls.map lkD) S = some ((ls.map lkD).map fun _ => (.bool true, 0), S) := compGo_map fun x hx => by
      obtain ⟨y, hy, rfl⟩ := List.mem_map.mp hx
      refine step_one ?_
      simp [c_is_link_of, r_is_link (h2 y hy), inWs, inW, W.fz, binE, negE, cmpE, chainE, isNE, notNE, notBE, andE, orE, notE, iteE, tupE, lstE, idxE, slLE, slHE, callE, callKE, biE, isiE, isi2E, consE, ts1, exE, asgE, asgV, asgTE, asgPE, setIE, ifsE, seqE, retE, retV, useR_same, fzAll, tyIs, cmpop, binop, biop, idxop, ixD, datAll, dOf, isL, noneD, List.replicate, asgQ, setWs]
    refine (comp_of (ws := [.dat (.tuple (ls.map lkD)) 0]) ?_ rfl hl hg).trans ?_
    · simp [inWs, inW, W.fz, binE, negE, cmpE, chainE, isNE, notNE, notBE, andE, orE, notE, iteE, tupE, lstE, idxE, slLE, slHE, callE, callKE, biE, isiE, isi2E, consE, ts1, exE, asgE, asgV, asgTE, asgPE, setIE, ifsE, seqE, retE, retV, useR_same, fzAll, tyIs, cmpop, binop, biop, idxop, ixD, datAll, dOf, isL, noneD, List.replicate, asgQ, setWs]
    · rw [List.map_map, List.map_map, dOf_flat fun _ => rfl]
      rfl
  have c2 : evE (FT tab gl (k + 3)) gl (.comp (.slH (.v 4) (.c (.int 2))) [4] true .seq [.v 1] [.cmp .ne (.v 4) (.tup [])]) [some (.dat (.int n) 0), some (.dat (.tuple (ls.map lkD)) 0), none, none, none] S = some (.dat (.list ((((ls.map lkD).filter fun x => !PyData.eqv x (.tuple [])).map fun x => cut2 x))) 2, S) := by
    have hg : compGo (stepE (evE (FT tab gl (k + 3)) gl (.slH (.v 4) (.c (.int 2)))) (evTs (FT tab gl (k + 3)) gl [.cmp .ne (.v 4) (.tup [])]) [4] true [some (.dat (.int n) 0), some (.dat (.tuple (ls.map lkD)) 0), none, none, none]) (ls.map lkD) S = some (((ls.map lkD).filter fun x => !PyData.eqv x (.tuple [])).map fun x => (cut2 x, 0), S) := compGo_pure fun x hx => by
      obtain ⟨y, hy, rfl⟩ := List.mem_map.mp hx
      refine step_if ?_ fun _ => ?_
      · simp [sh_lk, LIM, inWs, inW, W.fz, binE, negE, cmpE, chainE, isNE, notNE, notBE, andE, orE, notE, iteE, tupE, lstE, idxE, slLE, slHE, callE, callKE, biE, isiE, isi2E, consE, ts1, exE, asgE, asgV, asgTE, asgPE, setIE, ifsE, seqE, retE, retV, useR_same, fzAll, tyIs, cmpop, binop, biop, idxop, ixD, datAll, dOf, isL, noneD, List.replicate, asgQ, setWs]
      · cases y <;> simp [lkD, slHop, cut2, inWs, inW, W.fz, binE, negE, cmpE, chainE, isNE, notNE, notBE, andE, orE, notE, iteE, tupE, lstE, idxE, slLE, slHE, callE, callKE, biE, isiE, isi2E, consE, ts1, exE, asgE, asgV, asgTE, asgPE, setIE, ifsE, seqE, retE, retV, useR_same, fzAll, tyIs, cmpop, binop, biop, idxop, ixD, datAll, dOf, isL, noneD, List.replicate, asgQ, setWs]
    refine (comp_of (ws := [.dat (.tuple (ls.map lkD)) 0]) ?_ rfl hl hg).trans ?_
    · simp [inWs, inW, W.fz, binE, negE, cmpE, chainE, isNE, notNE, notBE, andE, orE, notE, iteE, tupE, lstE, idxE, slLE, slHE, callE, callKE, biE, isiE, isi2E, consE, ts1, exE, asgE, asgV, asgTE, asgPE, setIE, ifsE, seqE, retE, retV, useR_same, fzAll, tyIs, cmpop, binop, biop, idxop, ixD, datAll, dOf, isL, noneD, List.replicate, asgQ, setWs]
    · rw [List.map_map, dOf_flat]
      · rfl
      · intro x
        cases x <;> rfl
  have b1 : allBools (ls.map fun _ => PyData.bool true) = some (ls.map fun _ => true) := allBools_map (p := fun _ => true)
  have hlt : ls.length < 64 := by omega
  have hlen : ∀ xs : List PyData, xs.length ≤ ls.length → xs.length ≤ LIM := fun xs h => by
    have : LIM = 100000 := rfl
    omega
  have hA : ls.length ≤ 100000 := by omega
  have hB : ¬ ((120 : Int) < ls.length) := by omega
  generalize hq : (((ls.map lkD).filter fun x => !PyData.eqv x (.tuple [])).map fun x => cut2 x) = qs at c2
  have q1 : allPairs qs = some (prs ls) := by
    rw [← hq]
    exact prs_map
  have q2 : qs.length ≤ ls.length := by
    rw [← hq, List.length_map]
    refine Nat.le_trans (List.length_filter_le _ _) ?_
    rw [List.length_map]
    exact Nat.le_refl _
  have q3 : qs.length = (prs ls).length := allPairs_len q1
  have q4 : (distinct (prs ls)).length = (prs ls).length := dist_nd h3
  have q5 : (prs ls).length ≤ 100000 := by omega
  have q6 : (prs ls).length < 64 := by omega
  have b2 : (ls.all fun _ => true) = true := List.all_eq_true.mpr fun _ _ => rfl
  unfold Fn.run
  simp [fn_are_links, c1, c2, b1, b2, LIM, hA, hB, q1, q3, q4, q5, q6, inWs, inW, W.fz, binE, negE, cmpE, chainE, isNE, notNE, notBE, andE, orE, notE, iteE, tupE, lstE, idxE, slLE, slHE, callE, callKE, biE, isiE, isi2E, consE, ts1, exE, asgE, asgV, asgTE, asgPE, setIE, ifsE, seqE, retE, retV, useR_same, fzAll, tyIs, cmpop, binop, biop, idxop, ixD, datAll, dOf, isL, noneD, List.replicate, asgQ, setWs]
theorem r_are_finds {n : Int} {fs : List PyData} (h1 : fs.length ≤ 12) (h2 : ∀ x ∈ fs, FdOk n x) : fn_are_finds.run (FT tab gl (k + 4)) gl [.dat (.int n) m, .dat (.tuple fs) m1] S = some (.dat (.bool true) 0, S) := by
  have hl : fs.length ≤ LIM := Nat.le_trans h1 (by decide)
  have c1 : evE (FT tab gl (k + 4)) gl (.comp (.call "is_find_of" [.v 0, .v 2]) [2] true .seq [.v 1] []) [some (.dat (.int n) 0), some (.dat (.tuple fs) 0), none] S = some (.dat (.list (fs.map fun _ => .bool true)) 2, S) := by
    have hg : compGo (stepE (evE (FT tab gl (k + 4)) gl (.call "is_find_of" [.v 0, .v 2])) (evTs (FT tab gl (k + 4)) gl []) [2] true [some (.dat (.int n) 0), some (.dat (.tuple fs) 0), none]) fs S = some (fs.map fun _ => (.bool true, 0), S) := compGo_map fun x hx => by
      refine step_one ?_
      simp [c_is_find_of, r_is_find (h2 x hx), inWs, inW, W.fz, binE, negE, cmpE, chainE, isNE, notNE, notBE, andE, orE, notE, iteE, tupE, lstE, idxE, slLE, slHE, callE, callKE, biE, isiE, isi2E, consE, ts1, exE, asgE, asgV, asgTE, asgPE, setIE, ifsE, seqE, retE, retV, useR_same, fzAll, tyIs, cmpop, binop, biop, idxop, ixD, datAll, dOf, isL, noneD, List.replicate, asgQ, setWs]
    refine (comp_of (ws := [.dat (.tuple fs) 0]) ?_ rfl hl hg).trans ?_
    · simp [inWs, inW, W.fz, binE, negE, cmpE, chainE, isNE, notNE, notBE, andE, orE, notE, iteE, tupE, lstE, idxE, slLE, slHE, callE, callKE, biE, isiE, isi2E, consE, ts1, exE, asgE, asgV, asgTE, asgPE, setIE, ifsE, seqE, retE, retV, useR_same, fzAll, tyIs, cmpop, binop, biop, idxop, ixD, datAll, dOf, isL, noneD, List.replicate, asgQ, setWs]
    · rw [List.map_map, dOf_flat fun _ => rfl]
      rfl
  have b1 : allBools (fs.map fun _ => PyData.bool true) = some (fs.map fun _ => true) := allBools_map (p := fun _ => true)
  have b2 : (fs.all fun _ => true) = true := List.all_eq_true.mpr fun _ _ => rfl
  have hA : fs.length ≤ 100000 := by omega
  have hB : (fs.length : Int) ≤ 60 := by omega
  unfold Fn.run
  simp [fn_are_finds, c1, b1, b2, LIM, hA, hB, inWs, inW, W.fz, binE, negE, cmpE, chainE, isNE, notNE, notBE, andE, orE, notE, iteE, tupE, lstE, idxE, slLE, slHE, callE, callKE, biE, isiE, isi2E, consE, ts1, exE, asgE, asgV, asgTE, asgPE, setIE, ifsE, seqE, retE, retV, useR_same, fzAll, tyIs, cmpop, binop, biop, idxop, ixD, datAll, dOf, isL, noneD, List.replicate, asgQ, setWs]

/-- a dig -/
structure Dg where
  n : Int
  b : Int
  e : Int
  ls : List (Option (Int × Int × Int))
  fs : List PyData
def Dg.d (g : Dg) : PyData := .tuple [.str "dig", .int g.n, .tuple [.int g.b, .int g.e], .tuple (g.ls.map lkD), .tuple g.fs]
structure Dg.Ok (g : Dg) : Prop where
  n1 : 1 ≤ g.n
  n2 : g.n ≤ 4
  b1 : -20 ≤ g.b
  b2 : g.b ≤ 20
  e1 : g.b ≤ g.e
  e2 : g.e ≤ g.b + 4
  l1 : g.ls.length ≤ 12
  l2 : ∀ x ∈ g.ls, LkOk g.n x
  l3 : (prs g.ls).Nodup
  l4 : ∀ u l w, some (u, l, w) ∈ g.ls → -4 ≤ w ∧ w ≤ 4
  f1 : g.fs.length ≤ 12
  f2 : ∀ x ∈ g.fs, FdOk g.n x
theorem s_dig : ((Str.ofString "dig") == (Str.ofString "dig")) = true := by decide +kernel
theorem r_flaw {g : Dg} (h : g.Ok) : fn_flaw.run (FT tab gl (k + 5)) gl [.dat g.d m] S = some (.dat .none 0, S) := by
  have e1 : SeqAt.shaped (.str "dig") = true := by decide +kernel
  have e2 : PyData.eqv (.str "dig") (.str "dig") = true := by simp [PyData.eqv]
  have h1 := h.n1
  have h2 : g.n ≤ 40 := by have := h.n2; omega
  have h3 : -99999 ≤ g.b := by have := h.b1; omega
  have h4 : g.e ≤ 99999 := by have := h.b2; have := h.e2; omega
  unfold Fn.run Dg.d
  simp [fn_flaw, LIM, e1, e2, c_is_within, c_is_span, c_are_links, c_are_finds, h1, h2, r_is_span h3 h.e1 h4, r_are_links h.l1 h.l2 h.l3, r_are_finds h.f1 h.f2, inWs, inW, W.fz, binE, negE, cmpE, chainE, isNE, notNE, notBE, andE, orE, notE, iteE, tupE, lstE, idxE, slLE, slHE, callE, callKE, biE, isiE, isi2E, consE, ts1, exE, asgE, asgV, asgTE, asgPE, setIE, ifsE, seqE, retE, retV, useR_same, fzAll, tyIs, cmpop, binop, biop, idxop, ixD, datAll, dOf, isL, noneD, List.replicate, asgQ, setWs]
theorem r_check_dig {g : Dg} (h : g.Ok) : fn_check_dig.run (FT tab gl (k + 6)) gl [.dat g.d m] S = some (.dat .none 0, S) := by
  unfold Fn.run
  simp [fn_check_dig, c_flaw, r_flaw h, inWs, inW, W.fz, binE, negE, cmpE, chainE, isNE, notNE, notBE, andE, orE, notE, iteE, tupE, lstE, idxE, slLE, slHE, callE, callKE, biE, isiE, isi2E, consE, ts1, exE, asgE, asgV, asgTE, asgPE, setIE, ifsE, seqE, retE, retV, useR_same, fzAll, tyIs, cmpop, binop, biop, idxop, ixD, datAll, dOf, isL, noneD, List.replicate, asgQ, setWs]
end K81
end

section
set_option maxRecDepth 100000
/-! K81C: the legs of a dig. -/
namespace K81
open PySem MP
variable {k : Nat} {S : Sto} {m m1 m2 m3 : Nat}

structure Pot (g : Dg) (p : Int → Int) : Prop where
  z : p g.n = 0
  lay : ∀ i, 0 ≤ i → i < g.n → g.b ≤ p i ∧ p i ≤ g.e
  lk : ∀ u l w, some (u, l, w) ∈ g.ls → p l + w ≤ p u
/-- a leg's name -/
def LgP (g : Dg) (t : PyData) : Prop := (∃ i : Nat, (i : Int) < g.n ∧ t = .tuple [.str "begin", .int i]) ∨ (∃ i : Nat, (i : Int) < g.n ∧ t = .tuple [.str "end", .int i]) ∨ ∃ (i : Nat) (u l w : Int), g.ls[i]? = some (some (u, l, w)) ∧ t = .tuple [.str "link", .int i]
/-- a leg's nodes -/
def NdP (g : Dg) (p : Int → Int) (a b w : Int) : Prop := (0 ≤ a ∧ a ≤ g.n) ∧ (0 ≤ b ∧ b ≤ g.n) ∧ p a + w ≤ p b
theorem st1 : ((Str.ofString "begin") == (Str.ofString "begin")) = true := by decide +kernel
theorem st2 : ((Str.ofString "end") == (Str.ofString "begin")) = false := by decide +kernel
theorem st3 : ((Str.ofString "end") == (Str.ofString "end")) = true := by decide +kernel
theorem st4 : ((Str.ofString "link") == (Str.ofString "begin")) = false := by decide +kernel
theorem st5 : ((Str.ofString "link") == (Str.ofString "end")) = false := by decide +kernel
theorem st6 : ((Str.ofString "link") == (Str.ofString "link")) = true := by decide +kernel
theorem sh1 : SeqAt.shaped (.str "begin") = true := by decide +kernel
theorem sh2 : SeqAt.shaped (.str "end") = true := by decide +kernel
theorem sh3 : SeqAt.shaped (.str "link") = true := by decide +kernel
theorem eqv_str (a b : Str) : PyData.eqv (.str a) (.str b) = (a == b) := by simp [PyData.eqv]
theorem ix_nat {n i : Nat} (h : i < n) : ixD n (i : Int) = some i := by
  unfold ixD
  rw [if_pos (by omega), if_pos (by omega)]
  simp
theorem r_nodes {g : Dg} {p : Int → Int} (h : g.Ok) (hp : Pot g p) {t : PyData} (ht : LgP g t) : ∃ a b w, fn_nodes_of.run (FT tab gl k) gl [.dat g.d m, .dat t m1] S = some (.dat (.tuple [.int a, .int b, .int w]) 0, S) ∧ NdP g p a b w := by
  have n1 := h.n1
  rcases ht with ⟨i, hi, rfl⟩ | ⟨i, hi, rfl⟩ | ⟨i, u, l, w, hi, rfl⟩
  · refine ⟨g.n, i, g.b, ?_, ⟨by omega, by omega⟩, ⟨by omega, by omega⟩, by rw [hp.z]; have := (hp.lay i (by omega) hi).1; omega⟩
    unfold Fn.run Dg.d
    simp [fn_nodes_of, LIM, sh1, eqv_str, st1, inWs, inW, W.fz, binE, negE, cmpE, chainE, isNE, notNE, notBE, andE, orE, notE, iteE, tupE, lstE, idxE, slLE, slHE, callE, callKE, biE, isiE, isi2E, consE, ts1, exE, asgE, asgV, asgTE, asgPE, setIE, ifsE, seqE, retE, retV, useR_same, fzAll, tyIs, cmpop, binop, biop, idxop, ixD, datAll, dOf, isL, noneD, List.replicate, asgQ, setWs]
  · refine ⟨i, g.n, -g.e, ?_, ⟨by omega, by omega⟩, ⟨by omega, by omega⟩, by rw [hp.z]; have := (hp.lay i (by omega) hi).2; omega⟩
    unfold Fn.run Dg.d
    simp [fn_nodes_of, LIM, sh1, sh2, eqv_str, st1, st2, st3, inWs, inW, W.fz, binE, negE, cmpE, chainE, isNE, notNE, notBE, andE, orE, notE, iteE, tupE, lstE, idxE, slLE, slHE, callE, callKE, biE, isiE, isi2E, consE, ts1, exE, asgE, asgV, asgTE, asgPE, setIE, ifsE, seqE, retE, retV, useR_same, fzAll, tyIs, cmpop, binop, biop, idxop, ixD, datAll, dOf, isL, noneD, List.replicate, asgQ, setWs]
  · have hm : some (u, l, w) ∈ g.ls := List.mem_of_getElem? hi
    obtain ⟨⟨a1, a2⟩, ⟨b1, b2⟩, _⟩ := h.l2 _ hm
    refine ⟨l, u, w, ?_, ⟨by omega, by omega⟩, ⟨by omega, by omega⟩, hp.lk u l w hm⟩
    have hl : i < g.ls.length := (List.getElem?_eq_some_iff.mp hi).1
    have hix := ix_nat hl
    have hget : (g.ls.map lkD)[i]? = some (.tuple [.int u, .int l, .int w]) := by
      rw [List.getElem?_map, hi]
      rfl
    unfold Fn.run Dg.d
    simp [fn_nodes_of, LIM, sh1, sh2, sh3, eqv_str, st1, st2, st3, st4, st5, st6, inWs, inW, W.fz, binE, negE, cmpE, chainE, isNE, notNE, notBE, andE, orE, notE, iteE, tupE, lstE, idxE, slLE, slHE, callE, callKE, biE, isiE, isi2E, consE, ts1, exE, asgE, asgV, asgTE, asgPE, setIE, ifsE, seqE, retE, retV, useR_same, fzAll, tyIs, cmpop, binop, biop, idxop, ixD, datAll, dOf, isL, noneD, List.replicate, asgQ, setWs]
    have hi0 : g.ls[i] = some (u, l, w) := by
      have := (List.getElem?_eq_some_iff.mp hi).2
      exact this
    simp [hl, hi0, hi, lkD, inWs, inW, W.fz, binE, negE, cmpE, chainE, isNE, notNE, notBE, andE, orE, notE, iteE, tupE, lstE, idxE, slLE, slHE, callE, callKE, biE, isiE, isi2E, consE, ts1, exE, asgE, asgV, asgTE, asgPE, setIE, ifsE, seqE, retE, retV, useR_same, fzAll, tyIs, cmpop, binop, biop, idxop, ixD, datAll, dOf, isL, noneD, List.replicate, asgQ, setWs]
def LegP (g : Dg) (p : Int → Int) (t : PyData) : Prop := ∃ x a b w, t = .tuple [x, .int a, .int b, .int w] ∧ NdP g p a b w
theorem r_told {g : Dg} {p : Int → Int} (h : g.Ok) (hp : Pot g p) {ts : List PyData} (hl : ts.length ≤ 1000) (ht : ∀ t ∈ ts, LgP g t) : ∃ us m', fn_told_legs.run (FT tab gl (k + 1)) gl [.dat g.d m, .dat (.list ts) m1] S = some (.dat (.list us) m', S) ∧ (∀ u ∈ us, LegP g p u) ∧ us.length ≤ 1000 := by
  obtain ⟨ds, m', e1, e2, e3⟩ := comp_ex (F := FT tab gl (k + 1)) (G := gl) (elt := .bin .add (.tup [.v 2]) (.call "nodes_of" [.v 0, .v 2])) (tg := [2]) (one := true) (k := .seq) (its := [.v 1]) (ifs := []) (r := [some (.dat g.d 0), some (.dat (.list ts) 0), none]) (S := S) (ws := [.dat (.list ts) 0]) (xs := ts) (P := LegP g p)
    (by simp [inWs, inW, W.fz, binE, negE, cmpE, chainE, isNE, notNE, notBE, andE, orE, notE, iteE, tupE, lstE, idxE, slLE, slHE, callE, callKE, biE, isiE, isi2E, consE, ts1, exE, asgE, asgV, asgTE, asgPE, setIE, ifsE, seqE, retE, retV, useR_same, fzAll, tyIs, cmpop, binop, biop, idxop, ixD, datAll, dOf, isL, noneD, List.replicate, asgQ, setWs]) rfl (Nat.le_trans hl (by decide)) fun x hx => by
      obtain ⟨a, b, w, q1, q2⟩ := r_nodes (k := k) (S := S) (m := 0) (m1 := 0) h hp (ht x hx)
      refine ⟨some (.tuple [x, .int a, .int b, .int w], 0), step_one ?_, fun y hy => ?_⟩
      · simp [c_nodes_of, q1, LIM, inWs, inW, W.fz, binE, negE, cmpE, chainE, isNE, notNE, notBE, andE, orE, notE, iteE, tupE, lstE, idxE, slLE, slHE, callE, callKE, biE, isiE, isi2E, consE, ts1, exE, asgE, asgV, asgTE, asgPE, setIE, ifsE, seqE, retE, retV, useR_same, fzAll, tyIs, cmpop, binop, biop, idxop, ixD, datAll, dOf, isL, noneD, List.replicate, asgQ, setWs]
      · cases hy
        exact ⟨x, a, b, w, rfl, q2⟩
  refine ⟨ds, m', ?_, e2, Nat.le_trans e3 hl⟩
  unfold Fn.run
  simp [fn_told_legs, e1, inWs, inW, W.fz, binE, negE, cmpE, chainE, isNE, notNE, notBE, andE, orE, notE, iteE, tupE, lstE, idxE, slLE, slHE, callE, callKE, biE, isiE, isi2E, consE, ts1, exE, asgE, asgV, asgTE, asgPE, setIE, ifsE, seqE, retE, retV, useR_same, fzAll, tyIs, cmpop, binop, biop, idxop, ixD, datAll, dOf, isL, noneD, List.replicate, asgQ, setWs]
end K81
end

section
/-! BF: rounds of relaxing reach the least solution in as many rounds as there are nodes. -/
namespace BF
/-- a solution over the nodes below N -/
structure Sol (N : Nat) (L : Nat → Nat → Int → Prop) (x : Nat → Int) : Prop where
  pos : ∀ i, i < N → 0 ≤ x i
  leg : ∀ a c w, L a c w → x a + w ≤ x c
variable {N : Nat} {L : Nat → Nat → Int → Prop}

theorem least_nat {P : Nat → Prop} : ∀ n, P n → ∃ m, P m ∧ ∀ k, P k → m ≤ k := fun n => by
  induction n using Nat.strongRecOn with
  | ind n ih =>
    intro h
    by_cases q : ∃ k, k < n ∧ P k
    · obtain ⟨k, h1, h2⟩ := q
      exact ih k h1 h2
    · exact ⟨n, h, fun k hk => Nat.le_of_not_lt fun z => q ⟨k, z, hk⟩⟩
/-- the least solution -/
theorem least (h : ∃ x, Sol N L x) (hL : ∀ a c w, L a c w → a < N ∧ c < N) : ∃ x, Sol N L x ∧ ∀ y, Sol N L y → ∀ i, i < N → x i ≤ y i := by
  obtain ⟨x0, s0⟩ := h
  have ex : ∀ i, i < N → ∃ m : Nat, (∃ y, Sol N L y ∧ y i = (m : Int)) ∧ ∀ y, Sol N L y → (m : Int) ≤ y i := fun i hi => by
    obtain ⟨m, ⟨y, sy, ey⟩, hm⟩ := least_nat (P := fun m => ∃ y, Sol N L y ∧ y i = (m : Int)) (x0 i).toNat ⟨x0, s0, by have := s0.pos i hi; omega⟩
    refine ⟨m, ⟨y, sy, ey⟩, fun z sz => ?_⟩
    have := hm (z i).toNat ⟨z, sz, by have := sz.pos i hi; omega⟩
    have := sz.pos i hi
    omega
  let x : Nat → Int := fun i => if hi : i < N then ((Classical.choose (ex i hi) : Nat) : Int) else 0
  have hx : ∀ i (hi : i < N), (∃ y, Sol N L y ∧ y i = x i) ∧ ∀ y, Sol N L y → x i ≤ y i := fun i hi => by
    have e : x i = ((Classical.choose (ex i hi) : Nat) : Int) := dif_pos hi
    rw [e]
    exact Classical.choose_spec (ex i hi)
  refine ⟨x, ⟨fun i hi => ?_, fun a c w l => ?_⟩, fun y sy i hi => (hx i hi).2 y sy⟩
  · obtain ⟨⟨y, sy, e⟩, _⟩ := hx i hi
    rw [← e]
    exact sy.pos i hi
  · obtain ⟨ha, hc⟩ := hL a c w l
    obtain ⟨⟨y, sy, e⟩, _⟩ := hx c hc
    have h1 := sy.leg a c w l
    have h2 := (hx a ha).2 y sy
    omega
/-- how many nodes below n are final -/
def cnt (b x : Nat → Int) : Nat → Nat
  | 0 => 0
  | n + 1 => cnt b x n + if b n = x n then 1 else 0
theorem cnt_le (b x : Nat → Int) : ∀ n, cnt b x n ≤ n
  | 0 => Nat.le_refl _
  | n + 1 => by
    have := cnt_le b x n
    unfold cnt
    split <;> omega
theorem cnt_mono {b b' x : Nat → Int} : ∀ {n : Nat}, (∀ i, i < n → b i = x i → b' i = x i) → cnt b x n ≤ cnt b' x n
  | 0, _ => Nat.le_refl _
  | n + 1, h => by
    have ih := cnt_mono (n := n) fun i hi => h i (by omega)
    have := h n (by omega)
    unfold cnt
    split
    · rename_i e
      rw [if_pos (this e)]
      omega
    · split <;> omega
theorem cnt_lt {b b' x : Nat → Int} : ∀ {n : Nat}, (∀ i, i < n → b i = x i → b' i = x i) → (∃ i, i < n ∧ b i ≠ x i ∧ b' i = x i) → cnt b x n < cnt b' x n
  | 0, _, ⟨i, hi, _⟩ => absurd hi (Nat.not_lt_zero _)
  | n + 1, h, ⟨i, hi, h1, h2⟩ => by
    by_cases e : i = n
    · subst e
      have := cnt_mono (n := i) (b := b) (b' := b') (x := x) fun j hj => h j (by omega)
      unfold cnt
      rw [if_neg h1, if_pos h2]
      omega
    · have := cnt_lt (n := n) (fun j hj => h j (by omega)) ⟨i, by omega, h1, h2⟩
      have := h n (by omega)
      unfold cnt
      split
      · rename_i e
        rw [if_pos (this e)]
        omega
      · split <;> omega
theorem cnt_all {b x : Nat → Int} : ∀ {n : Nat}, n ≤ cnt b x n → ∀ i, i < n → b i = x i
  | 0, _, i, hi => absurd hi (Nat.not_lt_zero _)
  | n + 1, h, i, hi => by
    have := cnt_le b x n
    unfold cnt at h
    split at h
    · rename_i e
      by_cases q : i = n
      · rw [q]
        exact e
      · exact cnt_all (n := n) (by omega) i (by omega)
    · omega
variable {x : Nat → Int} (sx : Sol N L x) (mx : ∀ y, Sol N L y → ∀ i, i < N → x i ≤ y i) (hL : ∀ a c w, L a c w → a < N ∧ c < N)
include sx mx hL
/-- from outside in: some leg is tight -/
theorem crossing {b : Nat → Int} (h0 : ∀ i, i < N → 0 ≤ b i) (h1 : ∀ i, i < N → b i ≤ x i) (out : ∃ i, i < N ∧ b i ≠ x i) : ∃ a c w, L a c w ∧ b a = x a ∧ b c ≠ x c ∧ x a + w = x c := by
  apply Classical.byContradiction
  intro no
  have tight : ∀ a c w, L a c w → b a = x a → b c ≠ x c → x a + w < x c := fun a c w l e1 e2 => by
    have := sx.leg a c w l
    have : x a + w ≠ x c := fun z => no ⟨a, c, w, l, e1, e2, z⟩
    omega
  obtain ⟨i, hi, ne⟩ := out
  let y : Nat → Int := fun j => if b j = x j then x j else x j - 1
  have sy : Sol N L y := by
    refine ⟨fun j hj => ?_, fun a c w l => ?_⟩
    · show 0 ≤ (if b j = x j then x j else x j - 1)
      split
      · exact sx.pos j hj
      · have := h0 j hj
        have := h1 j hj
        omega
    · show (if b a = x a then x a else x a - 1) + w ≤ if b c = x c then x c else x c - 1
      have := sx.leg a c w l
      split
      · rename_i e1
        split
        · omega
        · rename_i e2
          have := tight a c w l e1 e2
          omega
      · split <;> omega
  have := mx y sy i hi
  have e : y i = x i - 1 := if_neg ne
  omega
theorem first {b : Nat → Int} (hN : 0 < N) (h0 : ∀ i, i < N → b i = 0) : 1 ≤ cnt b x N := by
  apply Classical.byContradiction
  intro no
  have none_ : ∀ i, i < N → b i ≠ x i := fun i hi e => by
    have : cnt (fun _ => x i - 1 - x i * 0) x 0 = 0 := rfl
    have := cnt_lt (b := fun j => x j - 1) (b' := b) (x := x) (n := N) (fun j _ z => by have : x j - 1 = x j := z; omega) ⟨i, hi, by show x i - 1 ≠ x i; omega, e⟩
    omega
  obtain ⟨a, c, w, l, e, _⟩ := crossing sx mx hL (b := b) (fun i hi => by rw [h0 i hi]; omega) (fun i hi => by rw [h0 i hi]; exact sx.pos i hi) ⟨0, hN, none_ 0 hN⟩
  exact none_ a (hL a c w l).1 e
/-- a round makes one more node final -/
theorem round {b b' : Nat → Int} (h0 : ∀ i, i < N → 0 ≤ b i) (h1 : ∀ i, i < N → b i ≤ b' i) (h2 : ∀ i, i < N → b' i ≤ x i) (h3 : ∀ a c w, L a c w → b a + w ≤ b' c) (out : ∃ i, i < N ∧ b i ≠ x i) : cnt b x N < cnt b' x N := by
  obtain ⟨a, c, w, l, e1, e2, e3⟩ := crossing sx mx hL h0 (fun i hi => by have := h1 i hi; have := h2 i hi; omega) out
  obtain ⟨ha, hc⟩ := hL a c w l
  refine cnt_lt (fun i hi e => ?_) ⟨c, hc, e2, ?_⟩
  · have := h1 i hi
    have := h2 i hi
    omega
  · have := h3 a c w l
    have := h2 c hc
    omega
end BF
end

section
set_option maxRecDepth 100000
/-! K81D: no ring. -/
namespace K81
open PySem MP
variable {k : Nat} {S : Sto} {m m1 m2 m3 : Nat} {F : Fns}

/-- the slots of has_ring -/
def rr (ts : List PyData) (N : Nat) (bs : List Int) (tn : Option W) (fl : Bool) (o5 o6 o7 o8 : Option W) : Rho :=
  [some (.dat (.list ts) 0), some (.dat (.int N) 0), some (.dat (.list (bs.map .int)) 1), tn, some (.dat (.bool fl) 0), o5, o6, o7, o8]
def bodyI : List Sm := [.ifs (.cmp .gt (.bin .add (.idx (.v 2) (.v 6)) (.v 8)) (.idx (.v 2) (.v 7))) [.setI 2 (.v 7) (.bin .add (.idx (.v 2) (.v 6)) (.v 8)),
         .asg 4 (.c (.bool false))] []]
def val (bs : List Int) (i : Nat) : Int := bs.getD i 0
theorem val_get {bs : List Int} {i : Nat} (h : i < bs.length) : (bs.map PyData.int)[i]? = some (.int (val bs i)) := by
  rw [List.getElem?_map, List.getElem?_eq_getElem h]
  simp [val, List.getD, h]
theorem val_set {bs : List Int} {i j : Nat} {v : Int} (h : i < bs.length) : val (bs.set i v) j = if j = i then v else val bs j := by
  unfold val
  by_cases e : j = i
  · subst e
    simp [List.getD, h]
  · rw [if_neg e]
    simp [List.getD, List.getElem?_set_ne (Ne.symm e)]
theorem leg_step {ts : List PyData} {N a c : Nat} {bs : List Int} {tn : Option W} {fl : Bool} {x : PyData} {w : Int} (hl : bs.length = N) (ha : a < N) (hc : c < N) :
    exSs F gl bodyI (rr ts N bs tn fl (some (.dat x 0)) (some (.dat (.int a) 0)) (some (.dat (.int c) 0)) (some (.dat (.int w) 0))) S =
      some (.nx (if val bs c < val bs a + w then rr ts N (bs.set c (val bs a + w)) tn false (some (.dat x 0)) (some (.dat (.int a) 0)) (some (.dat (.int c) 0)) (some (.dat (.int w) 0))
        else rr ts N bs tn fl (some (.dat x 0)) (some (.dat (.int a) 0)) (some (.dat (.int c) 0)) (some (.dat (.int w) 0))) S) := by
  have ea := ix_nat (n := bs.length) (by omega : a < bs.length)
  have ec := ix_nat (n := bs.length) (by omega : c < bs.length)
  have ga := val_get (by omega : a < bs.length)
  have gc := val_get (by omega : c < bs.length)
  have e1 : idxop S (.dat (.list (bs.map .int)) 0) (.int a) = some (.int (val bs a)) := by
    simp only [idxop, List.length_map]
    rw [ea]
    exact ga
  have e2 : idxop S (.dat (.list (bs.map .int)) 0) (.int c) = some (.int (val bs c)) := by
    simp only [idxop, List.length_map]
    rw [ec]
    exact gc
  unfold bodyI rr
  by_cases h : val bs c < val bs a + w
  · simp [idxE, binE, cmpE, ifsE, seqE, W.fz, e1, e2, binop, cmpop, h, setIE, nol, ec, asgE, useR, W.keep, full]
  · simp [idxE, binE, cmpE, ifsE, seqE, W.fz, e1, e2, binop, cmpop, h]
/-- the legs as a relation -/
def Lr (ts : List PyData) (a c : Nat) (w : Int) : Prop := ∃ t ∈ ts, ∃ x, t = .tuple [x, .int a, .int c, .int w]
structure Pass (ts rest : List PyData) (N : Nat) (b0 bs : List Int) (fl : Bool) (x : Nat → Int) : Prop where
  len : bs.length = N
  up : ∀ i, i < N → val b0 i ≤ val bs i
  le : ∀ i, i < N → val bs i ≤ x i
  done : ∀ a c w, Lr ts a c w → Lr rest a c w ∨ val b0 a + w ≤ val bs c
  flag : fl = true → bs = b0
  stay : (∀ i, i < N → val b0 i = x i) → fl = true
theorem inner {ts : List PyData} {N : Nat} {b0 : List Int} {tn : Option W} {x : Nat → Int} (sx : BF.Sol N (Lr ts) x) (hN : ∀ t ∈ ts, ∃ z a c w, t = .tuple [z, .int (a : Nat), .int (c : Nat), .int w] ∧ a < N ∧ c < N) (hb : b0.length = N) (hle : ∀ i, i < N → val b0 i ≤ x i) {o5 o6 o7 o8 : Option W} :
    ∃ bs fl o5' o6' o7' o8', forGo [5, 6, 7, 8] false (exSs F gl bodyI) ts (rr ts N b0 tn true o5 o6 o7 o8) S = some (.nx (rr ts N bs tn fl o5' o6' o7' o8') S) ∧ Pass ts [] N b0 bs fl x := by
  obtain ⟨r', S', h1, ⟨bs, fl, p5, p6, p7, p8, rfl, rfl, hp, _⟩⟩ := forGo_all (tg := [5, 6, 7, 8]) (one := false) (body := exSs F gl bodyI) (xs := ts) (r := rr ts N b0 tn true o5 o6 o7 o8) (S := S)
    (P := fun rest r S' => ∃ bs fl o5 o6 o7 o8, r = rr ts N bs tn fl o5 o6 o7 o8 ∧ S' = S ∧ Pass ts rest N b0 bs fl x ∧ ∀ t ∈ rest, t ∈ ts)
    ⟨b0, true, o5, o6, o7, o8, rfl, rfl, ⟨hb, fun _ _ => Int.le_refl _, hle, fun a c w h => .inl h, fun _ => rfl, fun _ => rfl⟩, fun _ h => h⟩ fun t rest r S' ⟨bs, fl, q5, q6, q7, q8, e1, e2, hp, hm⟩ => by
      subst e1
      subst e2
      obtain ⟨z, a, c, w, rfl, ha, hc⟩ := hN t (hm t (by simp))
      refine ⟨rr ts N bs tn fl (some (.dat z 0)) (some (.dat (.int a) 0)) (some (.dat (.int c) 0)) (some (.dat (.int w) 0)), rfl, ?_⟩
      have st := leg_step (F := F) (S := S') (ts := ts) (tn := tn) (fl := fl) (x := z) (w := w) hp.len ha hc
      have lw : x a + w ≤ x c := sx.leg a c w ⟨_, hm _ (by simp), z, rfl⟩
      have va := hp.le a ha
      refine ⟨_, _, .inl st, ?_⟩
      by_cases q : val bs c < val bs a + w
      · rw [if_pos q]
        have vs := fun j => val_set (bs := bs) (i := c) (j := j) (v := val bs a + w) (by rw [hp.len]; exact hc)
        refine ⟨_, false, _, _, _, _, rfl, rfl, ⟨by rw [List.length_set]; exact hp.len, fun i hi => ?_, fun i hi => ?_, fun a' c' w' hl => ?_, fun z => (by cases z), fun hx => ?_⟩, fun t ht => hm t (by simp [ht])⟩
        · rw [vs]
          have := hp.up i hi
          split
          · rename_i e
            subst e
            omega
          · exact this
        · rw [vs]
          have := hp.le i hi
          split
          · rename_i e
            subst e
            omega
          · exact this
        · rw [vs]
          rcases hp.done a' c' w' hl with ⟨t, ht, z', e⟩ | h
          · rcases List.mem_cons.mp ht with e2 | ht
            · rw [e2] at e
              have e3 : z = z' ∧ (a : Int) = a' ∧ (c : Int) = c' ∧ w = w' := by simpa using e
              obtain ⟨_, e3, e4, e5⟩ := e3
              have e3 : a = a' := by omega
              have e4 : c = c' := by omega
              subst e3
              subst e4
              subst e5
              right
              rw [if_pos rfl]
              have := hp.up a ha
              omega
            · exact .inl ⟨t, ht, z', e⟩
          · right
            split
            · rename_i e
              subst e
              omega
            · exact h
        · have h1 := hp.stay hx
          have h2 := hp.flag h1
          subst h2
          have := hx a ha
          have := hx c hc
          omega
      · rw [if_neg q]
        refine ⟨_, fl, _, _, _, _, rfl, rfl, ⟨hp.len, hp.up, hp.le, fun a' c' w' hl => ?_, hp.flag, hp.stay⟩, fun t ht => hm t (by simp [ht])⟩
        rcases hp.done a' c' w' hl with ⟨t, ht, z', e⟩ | h
        · rcases List.mem_cons.mp ht with e2 | ht
          · rw [e2] at e
            have e3 : z = z' ∧ (a : Int) = a' ∧ (c : Int) = c' ∧ w = w' := by simpa using e
            obtain ⟨_, e3, e4, e5⟩ := e3
            have e3 : a = a' := by omega
            have e4 : c = c' := by omega
            subst e3
            subst e4
            subst e5
            right
            have := hp.up a ha
            omega
          · exact .inl ⟨t, ht, z', e⟩
        · exact .inr h
  exact ⟨bs, fl, p5, p6, p7, p8, h1, hp⟩
end K81
end

section
set_option maxRecDepth 100000
/-! K81E: a dig with potentials is sound. -/
namespace K81
open PySem MP
variable {k : Nat} {S : Sto} {m m1 m2 m3 : Nat}

theorem val_rep {N i : Nat} : val (List.replicate N (0 : Int)) i = 0 := by
  unfold val
  simp [List.getD, List.getElem?_replicate]
  split <;> rfl
theorem ring_loop {F : Fns} {ts : List PyData} {N : Nat} (h0 : 0 < N) (h9 : N < 1000) (ht : ts.length ≤ LIM) (hN : ∀ t ∈ ts, ∃ z a c w, t = .tuple [z, .int (a : Nat), .int (c : Nat), .int w] ∧ a < N ∧ c < N) (hs : ∃ x, BF.Sol N (Lr ts) x) :
    forGo [3] true (exSs F gl [.asg 4 (.c (.bool true)), .loopV [5, 6, 7, 8] false .seq 0 bodyI, .ifs (.v 4) [.ret (.c (.bool false))] []]) ((List.range N).map fun i => PyData.int (i : Nat)) [some (.dat (.list ts) 0), some (.dat (.int N) 0), some (.dat (.list ((List.replicate N (0 : Int)).map .int)) 1), none, none, none, none, none, none] S = some (.rt (.dat (.bool false) 0) S) := by
  have hL : ∀ a c w, Lr ts a c w → a < N ∧ c < N := fun a c w ⟨t, ht, x, e⟩ => by
    obtain ⟨z, a', c', w', e', q1, q2⟩ := hN t ht
    rw [e] at e'
    have e3 : x = z ∧ (a : Int) = a' ∧ (c : Int) = c' ∧ w = w' := by simpa using e'
    omega
  obtain ⟨x, sx, mx⟩ := BF.least hs hL
  obtain ⟨R, e, rfl⟩ := forGo_ret (tg := [3]) (one := true) (body := exSs F gl [.asg 4 (.c (.bool true)), .loopV [5, 6, 7, 8] false .seq 0 bodyI, .ifs (.v 4) [.ret (.c (.bool false))] []])
    (xs := (List.range N).map fun i => PyData.int (i : Nat)) (r := [some (.dat (.list ts) 0), some (.dat (.int N) 0), some (.dat (.list ((List.replicate N (0 : Int)).map .int)) 1), none, none, none, none, none, none]) (S := S)
    (P := fun rest r S' => S' = S ∧ ∃ bs tn fl o5 o6 o7 o8 n, rest.length + n = N ∧ r = [some (.dat (.list ts) 0), some (.dat (.int N) 0), some (.dat (.list (List.map PyData.int bs)) 1), tn, fl, o5, o6, o7, o8] ∧ bs.length = N ∧ (∀ i, i < N → 0 ≤ val bs i) ∧ (∀ i, i < N → val bs i ≤ x i) ∧ n + 1 ≤ BF.cnt (val bs) x N)
    (Q := fun R => R = .rt (.dat (.bool false) 0) S)
    ⟨rfl, List.replicate N 0, none, none, none, none, none, none, 0, by simp, rfl, by simp, fun i _ => by rw [val_rep]; exact Int.le_refl _, fun i hi => by rw [val_rep]; exact sx.pos i hi, BF.first sx mx hL h0 fun i _ => val_rep⟩
    (fun r S' ⟨_, bs, tn, fl, o5, o6, o7, o8, n, hn, _, _, _, _, hc⟩ => by
      have := BF.cnt_le (val bs) x N
      rw [List.length_nil] at hn
      omega)
    fun t rest r S' ⟨e1, bs, tn, fl, o5, o6, o7, o8, n, hn, e2, hb, hp, hx, hc⟩ => by
      subst e1
      subst e2
      refine ⟨_, rfl, ?_⟩
      obtain ⟨bs', fl', p5, p6, p7, p8, h1, hps⟩ := inner (F := F) (S := S') (tn := some (.dat t 0)) (o5 := o5) (o6 := o6) (o7 := o7) (o8 := o8) sx hN hb hx
      unfold rr at h1
      have h1' : forGo [5, 6, 7, 8] false (fun r S => exSs F gl bodyI r S) ts [some (.dat (.list ts) 0), some (.dat (.int N) 0), some (.dat (.list (List.map PyData.int bs)) 1), some (.dat t 0), some (.dat (.bool true) 0), o5, o6, o7, o8] S' = _ := h1
      cases fl' with
      | true =>
        right
        refine ⟨.dat (.bool false) 0, S', ?_, rfl⟩
        simp [seqE, asgE, useR, W.keep, full, loopVE, items_sl, W.fz, ht, h1', ifsE, retE]
      | false =>
        left
        refine ⟨[some (.dat (.list ts) 0), some (.dat (.int N) 0), some (.dat (.list (List.map PyData.int bs')) 1), some (.dat t 0), some (.dat (.bool false) 0), p5, p6, p7, p8], S', ?_, rfl, bs', _, _, _, _, _, _, n + 1, by rw [List.length_cons] at hn; omega, rfl, hps.len, fun i hi => ?_, hps.le, ?_⟩
        · simp [seqE, asgE, useR, W.keep, full, loopVE, items_sl, W.fz, ht, h1', ifsE, retE]
        · have := hp i hi
          have := hps.up i hi
          omega
        · have := BF.round sx mx hL hp hps.up hps.le (fun a c w l => by
            rcases hps.done a c w l with ⟨_, z, _⟩ | z
            · cases z
            · exact z) (by
            apply Classical.byContradiction
            intro no
            have := hps.stay fun i hi => by
              apply Classical.byContradiction
              intro z
              exact no ⟨i, hi, z⟩
            cases this)
          omega
  exact e
section
variable {F : Fns} {ts : List PyData} {N : Nat}
theorem rg1 (h9 : N < 1000) : evE F gl (.bin .mul (.lst [.c (.int 0)]) (.v 1)) [some (.dat (.list ts) 0), some (.dat (.int N) 0), none, none, none, none, none, none, none] S = some (.dat (.list (List.replicate N (.int 0))) 1, S) := by
  simp [binE, lstE, consE, datAll, lim1, dOf, isL, W.fz, rep_int h9]
theorem rg2 (h9 : N < 1000) : exS F gl (.asg 2 (.bin .mul (.lst [.c (.int 0)]) (.v 1))) [some (.dat (.list ts) 0), some (.dat (.int N) 0), none, none, none, none, none, none, none] S = some (.nx [some (.dat (.list ts) 0), some (.dat (.int N) 0), some (.dat (.list (List.replicate N (.int 0))) 1), none, none, none, none, none, none] S) := by
  rw [x_asg]
  unfold asgE
  rw [rg1 h9]
  dsimp only
  rw [useR_same rfl]
  rfl
theorem rg3 (h9 : N < 1000) (e : forGo [3] true (exSs F gl [.asg 4 (.c (.bool true)), .loopV [5, 6, 7, 8] false .seq 0 bodyI, .ifs (.v 4) [.ret (.c (.bool false))] []]) ((List.range N).map fun i => PyData.int (i : Nat)) [some (.dat (.list ts) 0), some (.dat (.int N) 0), some (.dat (.list (List.replicate N (.int 0))) 1), none, none, none, none, none, none] S = some (.rt (.dat (.bool false) 0) S)) :
    exS F gl (.loopV [3] true .range1 1 [.asg 4 (.c (.bool true)), .loopV [5, 6, 7, 8] false .seq 0 bodyI, .ifs (.v 4) [.ret (.c (.bool false))] []]) [some (.dat (.list ts) 0), some (.dat (.int N) 0), some (.dat (.list (List.replicate N (.int 0))) 1), none, none, none, none, none, none] S = some (.rt (.dat (.bool false) 0) S) := by
  have hN3 : ((List.range N).map fun i => PyData.int (i : Nat)).length ≤ LIM := by
    rw [List.length_map, List.length_range]
    have : LIM = 100000 := rfl
    omega
  rw [x_loopV]
  exact (loopV_of (w := .dat (.int N) 0) rfl (items_r1 (by omega)) hN3).trans e
theorem rg4 (h9 : N < 1000) (e : exS F gl (.loopV [3] true .range1 1 [.asg 4 (.c (.bool true)), .loopV [5, 6, 7, 8] false .seq 0 bodyI, .ifs (.v 4) [.ret (.c (.bool false))] []]) [some (.dat (.list ts) 0), some (.dat (.int N) 0), some (.dat (.list (List.replicate N (.int 0))) 1), none, none, none, none, none, none] S = some (.rt (.dat (.bool false) 0) S)) : exSs F gl fn_has_ring.body [some (.dat (.list ts) 0), some (.dat (.int N) 0), none, none, none, none, none, none, none] S = some (.rt (.dat (.bool false) 0) S) := by
  have hb : fn_has_ring.body = [.asg 2 (.bin .mul (.lst [.c (.int 0)]) (.v 1)), .loopV [3] true .range1 1 [.asg 4 (.c (.bool true)), .loopV [5, 6, 7, 8] false .seq 0 bodyI, .ifs (.v 4) [.ret (.c (.bool false))] []], .ret (.c (.bool true))] := rfl
  rw [hb, x_cons]
  refine (seq_nx (rg2 h9)).trans ?_
  rw [x_cons]
  exact seq_rt e
theorem r_has_ring (h0 : 0 < N) (h9 : N < 1000) (ht : ts.length ≤ LIM) (hN : ∀ t ∈ ts, ∃ z a c w, t = .tuple [z, .int (a : Nat), .int (c : Nat), .int w] ∧ a < N ∧ c < N) (hs : ∃ x, BF.Sol N (Lr ts) x) : fn_has_ring.run F gl [.dat (.list ts) m, .dat (.int N) m1] S = some (.dat (.bool false) 0, S) := by
  have e := ring_loop (F := F) (S := S) h0 h9 ht hN hs
  rw [List.map_replicate] at e
  exact run_rt (us := [.dat (.list ts) 0, .dat (.int N) 0]) (by simp [fn_has_ring, inWs, inW, W.fz]) (rg4 h9 (rg3 h9 e))
end
end K81
end

section
set_option maxRecDepth 100000
/-! K81F: a dig with potentials is sound. -/
namespace K81
open PySem MP
variable {k : Nat} {S : Sto} {m m1 m2 m3 : Nat}

theorem items_rng {n : Int} (h0 : 0 ≤ n) (h1 : n < 1000000) : items .seq [.rng 0 n] = some ((List.range n.toNat).map fun i => PyData.int (i : Nat)) := by
  show (if (0 : Int) = 0 ∧ 0 ≤ n ∧ n < 1000000 then some ((List.range n.toNat).map fun i => PyData.int (i : Nat)) else none) = _
  rw [if_pos ⟨rfl, h0, h1⟩]
theorem rng_small {n : Int} (h1 : n ≤ 40) : ((List.range n.toNat).map fun i => PyData.int (i : Nat)).length ≤ LIM := by
  rw [List.length_map, List.length_range]
  have : LIM = 100000 := rfl
  omega
theorem nt_pos {x : Option (Int × Int × Int)} (h : (!PyData.eqv (lkD x) (.tuple [])) = true) : ∃ u l w, x = some (u, l, w) := by
  rw [ne_lk] at h
  match x, h with
  | some (u, l, w), _ => exact ⟨u, l, w, rfl⟩
theorem cat_list {a b : List PyData} (h : a.length + b.length ≤ LIM) : binop .add (.list a) (.list b) = some (.dat (.list (a ++ b)) 1) := by
  show (if a.length + b.length ≤ LIM then some (W.dat (.list (a ++ b)) 1) else none) = _
  rw [if_pos h]
theorem r_hard_legs {F : Fns} {g : Dg} (h : g.Ok) : ∃ ts m', fn_hard_legs.run F gl [.dat g.d m] S = some (.dat (.list ts) m', S) ∧ (∀ t ∈ ts, LgP g t) ∧ ts.length ≤ 1000 := by
  have n1 := h.n1
  have n2 := h.n2
  have l1 := h.l1
  have LIMv : LIM = 100000 := rfl
  have hr := items_rng (n := g.n) (by omega) (by omega)
  have hrl := rng_small (n := g.n) (by omega)
  have rl : ((List.range g.n.toNat).map fun i => PyData.int (i : Nat)).length ≤ 4 := by
    rw [List.length_map, List.length_range]
    omega
  -- the first two
  obtain ⟨A, mA, a1, a2, a3⟩ := comp_ex (F := F) (G := gl) (elt := .tup [.c (.str "begin"), .v 3]) (tg := [3]) (one := true) (k := .seq) (its := [.v 1]) (ifs := []) (r := [some (.dat g.d 0), some (.rng 0 g.n), none, none, none, none]) (S := S) (ws := [.rng 0 g.n]) (P := LgP g)
    (by simp [consE, W.fz]) hr hrl fun x hx => by
      obtain ⟨i, hi, rfl⟩ := mem_rng hx
      refine ⟨some (.tuple [.str "begin", .int i], 0), step_one ?_, fun y hy => ?_⟩
      · simp [tupE, consE, W.fz, datAll, LIM]
      · cases hy
        exact .inl ⟨i, by omega, rfl⟩
  obtain ⟨B, mB, b1, b2, b3⟩ := comp_ex (F := F) (G := gl) (elt := .tup [.c (.str "end"), .v 3]) (tg := [3]) (one := true) (k := .seq) (its := [.v 1]) (ifs := []) (r := [some (.dat g.d 0), some (.rng 0 g.n), none, none, none, none]) (S := S) (ws := [.rng 0 g.n]) (P := LgP g)
    (by simp [consE, W.fz]) hr hrl fun x hx => by
      obtain ⟨i, hi, rfl⟩ := mem_rng hx
      refine ⟨some (.tuple [.str "end", .int i], 0), step_one ?_, fun y hy => ?_⟩
      · simp [tupE, consE, W.fz, datAll, LIM]
      · cases hy
        exact .inr (.inl ⟨i, by omega, rfl⟩)
  have hAB : A.length + B.length ≤ LIM := by omega
  have ab : binop .add (.list A) (.list B) = some (.dat (.list (A ++ B)) 1) := cat_list hAB
  -- the links
  have en : items .enum [.dat (.tuple (g.ls.map lkD)) 0] = some ((g.ls.map lkD).mapIdx fun i x => .tuple [.int (i : Nat), x]) := by
    show (if (g.ls.map lkD).length ≤ LIM then some ((g.ls.map lkD).mapIdx fun i x => PyData.tuple [.int (i : Nat), x]) else none) = _
    rw [if_pos (by rw [List.length_map]; omega)]
  obtain ⟨C, mC, c1, c2, c3⟩ := comp_ex (F := F) (G := gl) (elt := .tup [.c (.str "link"), .v 4]) (tg := [4, 5]) (one := false) (k := .enum) (its := [.idx (.v 0) (.c (.int 3))]) (ifs := [.cmp .ne (.v 5) (.tup [])]) (r := [some (.dat g.d 0), some (.rng 0 g.n), some (.dat (.list (A ++ B)) 1), none, none, none]) (S := S) (ws := [.dat (.tuple (g.ls.map lkD)) 0]) (P := LgP g)
    (by simp [consE, W.fz, Dg.d, idxE, idxop, ixD]) en (by rw [List.length_mapIdx, List.length_map]; omega) fun x hx => by
      obtain ⟨i, y, hy, rfl⟩ := mem_mapIdx hx
      rw [List.getElem?_map] at hy
      obtain ⟨z, hz, rfl⟩ := Option.map_eq_some_iff.mp hy
      refine ⟨_, step_twoif (b := !PyData.eqv (lkD z) (.tuple [])) (d := .tuple [.str "link", .int i]) (m := 0) ?_ fun _ => ?_, fun y hy => ?_⟩
      · simp [cmpE, tupE, cmpop, datAll, LIM, W.fz, sh_lk]
      · simp [tupE, consE, W.fz, datAll, LIM]
      · split at hy
        · rename_i hb
          cases hy
          obtain ⟨u, l, w, rfl⟩ := nt_pos hb
          exact .inr (.inr ⟨i, u, l, w, hz, rfl⟩)
        · cases hy
  rw [List.length_mapIdx, List.length_map] at c3
  have hABC : (A ++ B).length + C.length ≤ LIM := by
    rw [List.length_append]
    omega
  have abc : binop .add (.list (A ++ B)) (.list C) = some (.dat (.list (A ++ B ++ C)) 1) := cat_list hABC
  refine ⟨A ++ B ++ C, 1, ?_, fun t ht => ?_, by rw [List.length_append, List.length_append]; omega⟩
  · refine run_rt (S1 := S) (us := [.dat g.d 0]) (by simp [fn_hard_legs, inWs, inW, W.fz]) ?_
    have hb : fn_hard_legs.body = [.asg 1 (.bi .rangeV [.idx (.v 0) (.c (.int 1))]), .asg 2 (.bin .add (.comp (.tup [.c (.str "begin"), .v 3]) [3] true .seq [.v 1] []) (.comp (.tup [.c (.str "end"), .v 3]) [3] true .seq [.v 1] [])),
      .ret (.bin .add (.v 2) (.comp (.tup [.c (.str "link"), .v 4]) [4, 5] false .enum [.idx (.v 0) (.c (.int 3))] [.cmp .ne (.v 5) (.tup [])]))] := rfl
    have s1 : exS F gl (.asg 1 (.bi .rangeV [.idx (.v 0) (.c (.int 1))])) [some (.dat g.d 0), none, none, none, none, none] S = some (.nx [some (.dat g.d 0), some (.rng 0 g.n), none, none, none, none] S) := by
      rw [x_asg]
      have q : (0 ≤ g.n ∧ g.n < 1000000) := ⟨by omega, by omega⟩
      have e1 : evE F gl (.bi .rangeV [.idx (.v 0) (.c (.int 1))]) [some (.dat g.d 0), none, none, none, none, none] S = some (.rng 0 g.n, S) := by
        have q1 : biop S .rangeV [.dat (.int g.n) 0] = some (.rng 0 g.n) := by
          show (if 0 ≤ g.n ∧ g.n < 1000000 then some (W.rng 0 g.n) else none) = _
          rw [if_pos q]
        simp [biE, consE, idxE, W.fz, Dg.d, idxop, ixD, q1]
      exact (asg_of e1).trans (by rw [useR_same rfl]; rfl)
    have s2 : exS F gl (.asg 2 (.bin .add (.comp (.tup [.c (.str "begin"), .v 3]) [3] true .seq [.v 1] []) (.comp (.tup [.c (.str "end"), .v 3]) [3] true .seq [.v 1] []))) [some (.dat g.d 0), some (.rng 0 g.n), none, none, none, none] S = some (.nx [some (.dat g.d 0), some (.rng 0 g.n), some (.dat (.list (A ++ B)) 1), none, none, none] S) := by
      rw [x_asg]
      have e1 : evE F gl (.bin .add (.comp (.tup [.c (.str "begin"), .v 3]) [3] true .seq [.v 1] []) (.comp (.tup [.c (.str "end"), .v 3]) [3] true .seq [.v 1] [])) [some (.dat g.d 0), some (.rng 0 g.n), none, none, none, none] S = some (.dat (.list (A ++ B)) 1, S) := by
        rw [e_bin]
        exact bin_of a1 b1 ab
      exact (asg_of e1).trans (by rw [useR_same rfl]; rfl)
    rw [hb, x_cons]
    refine (seq_nx s1).trans ?_
    rw [x_cons]
    refine (seq_nx s2).trans ?_
    rw [x_cons]
    refine seq_rt ?_
    rw [x_ret]
    refine ret_of ?_
    rw [e_bin]
    refine bin_of (d := .list (A ++ B)) (m := 0) ?_ c1 abc
    simp [W.fz]
  · rcases List.mem_append.mp ht with ht | ht
    · rcases List.mem_append.mp ht with ht | ht
      · exact a2 t ht
      · exact b2 t ht
    · exact c2 t ht
end K81
end

section
set_option maxRecDepth 100000
/-! K81G: check_sound goes through. -/
namespace K81
open PySem MP
variable {k : Nat} {S : Sto} {m m1 m2 m3 : Nat}

theorem call_of {F : Fns} {f : Str} {es : Evs} {r : Rho} {S1 S2 : Sto} {ws : List W} {w : W} (h1 : es r S = some (ws, S1)) (h2 : F f ws [] S1 = some (w, S2)) : callE F f es r S = some (w, S2) := by
  unfold callE
  rw [h1]
  exact h2
theorem cons_of {ea : Ev} {es : Evs} {r : Rho} {S1 S2 : Sto} {w : W} {ws : List W} (h1 : ea r S = some (w, S1)) (h2 : es r S1 = some (ws, S2)) : consE ea es r S = some (w :: ws, S2) := by
  unfold consE
  rw [h1]
  dsimp only
  rw [h2]
theorem nil_of {F : Fns} {r : Rho} : evEs F gl [] r S = some ([], S) := e_nil
theorem not_of {ea : Ev} {r : Rho} {S1 : Sto} {b : Bool} (h : ea r S = some (.dat (.bool b) m, S1)) : notE ea r S = some (.dat (.bool (!b)) 0, S1) := by
  unfold notE
  rw [h]
theorem r_first_ring {g : Dg} {p : Int → Int} (h : g.Ok) (hp : Pot g p) {ts : List PyData} (hl : ts.length ≤ 1000) (ht : ∀ t ∈ ts, LegP g p t) : fn_first_ring.run (FT tab gl (k + 1)) gl [.dat (.list ts) m, .dat (.int (g.n + 1)) m1] S = some (.dat .none 0, S) := by
  have n1 := h.n1
  have n2 := h.n2
  have b1 := h.b1
  obtain ⟨N, hN⟩ : ∃ N : Nat, (N : Int) = g.n + 1 := ⟨(g.n + 1).toNat, by omega⟩
  have hc : fn_has_ring.run (FT tab gl k) gl [.dat (.list ts) 0, .dat (.int (g.n + 1)) 0] S = some (.dat (.bool false) 0, S) := by
    rw [← hN]
    refine r_has_ring (by omega) (by omega) (Nat.le_trans hl (by decide)) (fun t htt => ?_) ⟨fun i => p i + 100, ⟨fun i hi => ?_, fun a c w ⟨t, htt, x, e⟩ => ?_⟩⟩
    · obtain ⟨x, a, b, w, rfl, ⟨q1, q2⟩, ⟨q3, q4⟩, _⟩ := ht t htt
      refine ⟨x, a.toNat, b.toNat, w, ?_, by omega, by omega⟩
      rw [Int.toNat_of_nonneg q1, Int.toNat_of_nonneg q3]
    · by_cases hi2 : (i : Int) < g.n
      · have := (hp.lay i (by omega) hi2).1
        omega
      · have e : (i : Int) = g.n := by omega
        rw [e, hp.z]
        omega
    · obtain ⟨x', a', b', w', e', _, _, q⟩ := ht t htt
      rw [e] at e'
      have e3 : x = x' ∧ (a : Int) = a' ∧ (c : Int) = b' ∧ w = w' := by simpa using e'
      obtain ⟨_, e4, e5, e6⟩ := e3
      subst e4
      subst e5
      subst e6
      show p a + 100 + w ≤ p c + 100
      omega
  refine run_rt (S1 := S) (us := [.dat (.list ts) 0, .dat (.int (g.n + 1)) 0]) (by simp [fn_first_ring, inWs, inW, W.fz]) ?_
  have hb : ∃ r, fn_first_ring.body = .ifs (.not (.call "has_ring" [.v 0, .v 1])) [.ret (.c .none)] [] :: r := ⟨_, rfl⟩
  obtain ⟨rest, hb⟩ := hb
  rw [hb, x_cons]
  refine seq_rt ?_
  rw [x_ifs]
  have e1 : evE (FT tab gl (k + 1)) gl (.not (.call "has_ring" [.v 0, .v 1])) [some (.dat (.list ts) 0), some (.dat (.int (g.n + 1)) 0), none, none, none, none, none, none, none, none] S = some (.dat (.bool true) 0, S) := by
    rw [e_not]
    refine not_of (b := false) (m := 0) ?_
    rw [e_call]
    refine call_of (S1 := S) (ws := [.dat (.list ts) 0, .dat (.int (g.n + 1)) 0]) (by simp [consE, W.fz]) ?_
    rw [c_has_ring]
    exact hc
  refine (if_t e1).trans ?_
  rw [x_cons]
  refine seq_rt ?_
  rw [x_ret]
  exact ret_of e_c
theorem r_fault_of {g : Dg} {p : Int → Int} (h : g.Ok) (hp : Pot g p) : fn_fault_of.run (FT tab gl (k + 2)) gl [.dat g.d m] S = some (.dat .none 0, S) := by
  obtain ⟨ts, m4, h1, h2, h3⟩ := r_hard_legs (F := FT tab gl (k + 1)) (m := 0) (S := S) h
  obtain ⟨us, m5, h4, h5, h6⟩ := r_told (k := k) (m := 0) (m1 := m4) (S := S) h hp h3 h2
  have h7 := r_first_ring (k := k) (m := m5) (m1 := 0) (S := S) h hp h6 h5
  refine run_rt (S1 := S) (us := [.dat g.d 0]) (by simp [fn_fault_of, inWs, inW, W.fz]) ?_
  have hb : fn_fault_of.body = [.ret (.call "first_ring" [.call "told_legs" [.v 0, .call "hard_legs" [.v 0]], .bin .add (.idx (.v 0) (.c (.int 1))) (.c (.int 1))])] := rfl
  rw [hb, x_cons]
  refine seq_rt ?_
  rw [x_ret]
  refine ret_of ?_
  have e0 : evE (FT tab gl (k + 2)) gl (.v 0) [some (.dat g.d 0)] S = some (.dat g.d 0, S) := by simp [W.fz]
  have e1 : evE (FT tab gl (k + 2)) gl (.call "hard_legs" [.v 0]) [some (.dat g.d 0)] S = some (.dat (.list ts) m4, S) := by
    rw [e_call]
    refine call_of (S1 := S) (ws := [.dat g.d 0]) (by rw [e_cons]; exact cons_of e0 e_nil) ?_
    rw [c_hard_legs]
    exact h1
  have e2 : evE (FT tab gl (k + 2)) gl (.call "told_legs" [.v 0, .call "hard_legs" [.v 0]]) [some (.dat g.d 0)] S = some (.dat (.list us) m5, S) := by
    rw [e_call]
    refine call_of (S1 := S) (ws := [.dat g.d 0, .dat (.list ts) m4]) (by rw [e_cons]; refine cons_of e0 ?_; rw [e_cons]; exact cons_of e1 e_nil) ?_
    rw [c_told_legs]
    exact h4
  have e3 : evE (FT tab gl (k + 2)) gl (.bin .add (.idx (.v 0) (.c (.int 1))) (.c (.int 1))) [some (.dat g.d 0)] S = some (.dat (.int (g.n + 1)) 0, S) := by
    simp [binE, idxE, W.fz, Dg.d, idxop, ixD, binop]
  rw [e_call]
  refine call_of (S1 := S) (ws := [.dat (.list us) m5, .dat (.int (g.n + 1)) 0]) (by rw [e_cons]; refine cons_of e2 ?_; rw [e_cons]; exact cons_of e3 e_nil) ?_
  rw [c_first_ring]
  exact h7
theorem r_check_sound {g : Dg} {p : Int → Int} (h : g.Ok) (hp : Pot g p) : fn_check_sound.run (FT tab gl (k + 7)) gl [.dat g.d m] S = some (.dat .none 0, S) := by
  have h1 := r_check_dig (k := k) (m := 0) (S := S) h
  have h2 := r_fault_of (k := k + 4) (m := 0) (S := S) h hp
  unfold Fn.run
  simp [fn_check_sound, c_check_dig, c_fault_of, h1, h2, inWs, inW, W.fz, binE, negE, cmpE, chainE, isNE, notNE, notBE, andE, orE, notE, iteE, tupE, lstE, idxE, slLE, slHE, callE, callKE, biE, isiE, isi2E, consE, ts1, exE, asgE, asgV, asgTE, asgPE, setIE, ifsE, seqE, retE, retV, useR_same, fzAll, tyIs, cmpop, binop, biop, idxop, ixD, datAll, dOf, isL, noneD, List.replicate, asgQ, setWs]
end K81
end

section
set_option maxRecDepth 100000
/-! K81H: formulas. -/
namespace K81
open PySem MP
variable {k : Nat} {S : Sto} {m m1 m2 m3 : Nat}

theorem sa1 : ((Str.ofString "apart") == (Str.ofString "apart")) = true := by decide +kernel
theorem sa2 : ((Str.ofString "since") == (Str.ofString "apart")) = false := by decide +kernel
theorem sa3 : ((Str.ofString "until") == (Str.ofString "apart")) = false := by decide +kernel
theorem sa4 : ((Str.ofString "since") == (Str.ofString "since")) = true := by decide +kernel
theorem sa5 : ((Str.ofString "until") == (Str.ofString "since")) = false := by decide +kernel
theorem sa6 : ((Str.ofString "until") == (Str.ofString "until")) = true := by decide +kernel
theorem sa7 : ((Str.ofString "since") == (Str.ofString "until")) = false := by decide +kernel
theorem sb1 : SeqAt.shaped (.str "apart") = true := by decide +kernel
theorem sb2 : SeqAt.shaped (.str "since") = true := by decide +kernel
theorem sb3 : SeqAt.shaped (.str "until") = true := by decide +kernel
/-- a claim over layers below n -/
inductive Cl where
  | apart (i j : Nat) (y : Int)
  | since (i : Nat) (y : Int)
  | till (i : Nat) (y : Int)
def Cl.d : Cl → PyData
  | .apart i j y => .tuple [.str "apart", .int i, .int j, .int y]
  | .since i y => .tuple [.str "since", .int i, .int y]
  | .till i y => .tuple [.str "until", .int i, .int y]
def Cl.Ok (n : Int) : Cl → Prop
  | .apart i j y => (i : Int) < n ∧ (j : Int) < n ∧ i ≠ j ∧ -199998 ≤ y ∧ y ≤ 199998
  | .since i y => (i : Int) < n ∧ -199998 ≤ y ∧ y ≤ 199998
  | .till i y => (i : Int) < n ∧ -199998 ≤ y ∧ y ≤ 199998
theorem r_are_two {g : Dg} {i j : Nat} (hi : (i : Int) < g.n) (hj : (j : Int) < g.n) (hij : i ≠ j) : fn_are_two.run (FT tab gl (k + 2)) gl [.dat g.d m, .dat (.int i) m1, .dat (.int j) m2] S = some (.dat (.bool true) 0, S) := by
  have h1 : (i : Int) ≤ g.n - 1 := by omega
  have h2 : (j : Int) ≤ g.n - 1 := by omega
  have h3 : ((i : Int) == (j : Int)) = false := by
    rw [beq_eq_false_iff_ne]
    omega
  unfold Fn.run Dg.d
  simp [fn_are_two, c_is_within, h1, h2, h3, inWs, inW, W.fz, binE, negE, cmpE, chainE, isNE, notNE, notBE, andE, orE, notE, iteE, tupE, lstE, idxE, slLE, slHE, callE, callKE, biE, isiE, isi2E, consE, ts1, exE, asgE, asgV, asgTE, asgPE, setIE, ifsE, seqE, retE, retV, useR_same, fzAll, tyIs, cmpop, binop, biop, idxop, ixD, datAll, dOf, isL, noneD, List.replicate, asgQ, setWs]
theorem r_is_claim {g : Dg} {c : Cl} (h : c.Ok g.n) : fn_is_claim_of.run (FT tab gl (k + 3)) gl [.dat g.d m, .dat c.d m1] S = some (.dat (.bool true) 0, S) := by
  cases c with
  | apart i j y =>
    obtain ⟨h1, h2, h3, h4, h5⟩ := h
    have two := r_are_two (k := k) (S := S) (m := 0) (m1 := 0) (m2 := 0) h1 h2 h3
    unfold Fn.run
    simp [fn_is_claim_of, Cl.d, LIM, c_is_within, c_are_two, two, h4, h5, eqv_str, sa1, sb1, inWs, inW, W.fz, binE, negE, cmpE, chainE, isNE, notNE, notBE, andE, orE, notE, iteE, tupE, lstE, idxE, slLE, slHE, callE, callKE, biE, isiE, isi2E, consE, ts1, exE, asgE, asgV, asgTE, asgPE, setIE, ifsE, seqE, retE, retV, useR_same, fzAll, tyIs, cmpop, binop, biop, idxop, ixD, datAll, dOf, isL, noneD, List.replicate, asgQ, setWs]
  | since i y =>
    obtain ⟨h1, h4, h5⟩ := h
    have h1 : (i : Int) ≤ g.n - 1 := by omega
    unfold Fn.run Dg.d
    simp [fn_is_claim_of, Cl.d, LIM, c_is_within, h1, h4, h5, eqv_str, sa1, sa2, sa4, sa7, sb1, sb2, seqOf, flat, inD, inWs, inW, W.fz, binE, negE, cmpE, chainE, isNE, notNE, notBE, andE, orE, notE, iteE, tupE, lstE, idxE, slLE, slHE, callE, callKE, biE, isiE, isi2E, consE, ts1, exE, asgE, asgV, asgTE, asgPE, setIE, ifsE, seqE, retE, retV, useR_same, fzAll, tyIs, cmpop, binop, biop, idxop, ixD, datAll, dOf, isL, noneD, List.replicate, asgQ, setWs]
  | till i y =>
    obtain ⟨h1, h4, h5⟩ := h
    have h1 : (i : Int) ≤ g.n - 1 := by omega
    unfold Fn.run Dg.d
    simp [fn_is_claim_of, Cl.d, LIM, c_is_within, h1, h4, h5, eqv_str, sa1, sa3, sa5, sa6, sb1, sb3, seqOf, flat, inD, inWs, inW, W.fz, binE, negE, cmpE, chainE, isNE, notNE, notBE, andE, orE, notE, iteE, tupE, lstE, idxE, slLE, slHE, callE, callKE, biE, isiE, isi2E, consE, ts1, exE, asgE, asgV, asgTE, asgPE, setIE, ifsE, seqE, retE, retV, useR_same, fzAll, tyIs, cmpop, binop, biop, idxop, ixD, datAll, dOf, isL, noneD, List.replicate, asgQ, setWs]
/-- a comprehension of trues -/
theorem comp_true {F : Fns} {elt : E} {i : Nat} {its : List E} {r : Rho} {xs : List PyData} {ws : List W} (h1 : evEs F gl its r S = some (ws, S)) (h2 : items .seq ws = some xs) (h3 : xs.length ≤ LIM) (h4 : ∀ x ∈ xs, evE F gl elt (r.set i (some (.dat x 0))) S = some (.dat (.bool true) 0, S)) :
    evE F gl (.bi .all [.comp elt [i] true .seq its []]) r S = some (.dat (.bool true) 0, S) := by
  have hg : compGo (stepE (evE F gl elt) (evTs F gl []) [i] true r) xs S = some (xs.map fun _ => (.bool true, 0), S) := compGo_map fun x hx => step_one (h4 x hx)
  have e := comp_of h1 h2 h3 hg
  rw [List.map_map, dOf_flat fun _ => rfl] at e
  have b1 : allBools (xs.map ((fun x : PyData × Nat => x.1) ∘ fun _ => (PyData.bool true, 0))) = some (xs.map fun _ => true) := allBools_map (p := fun _ => true)
  have b2 : ((xs.map fun _ => true).all id) = true := by simp
  rw [e_bi]
  unfold biE
  rw [show evEs F gl [.comp elt [i] true .seq its []] r S = some ([_], S) by rw [e_cons]; exact cons_of e e_nil]
  dsimp only
  rw [show biop S .all [.dat (.list (xs.map ((fun x : PyData × Nat => x.1) ∘ fun _ => (PyData.bool true, 0)))) 2] = some (.dat (.bool true) 0) by
    show (allBools _).map _ = _
    rw [b1]
    show some (W.dat (.bool _) 0) = _
    rw [b2]]
theorem r_are_claims {g : Dg} {cs : List Cl} (hl : cs.length ≤ 64) (h : ∀ c ∈ cs, c.Ok g.n) : fn_are_claims_of.run (FT tab gl (k + 4)) gl [.dat g.d m, .dat (.list (cs.map Cl.d)) m1] S = some (.dat (.bool true) 0, S) := by
  have hA : cs.length ≤ 100000 := by omega
  have hB : (cs.length : Int) ≤ 64 := by omega
  have c1 := comp_true (F := FT tab gl (k + 4)) (S := S) (elt := .call "is_claim_of" [.v 0, .v 2]) (i := 2) (its := [.v 1]) (r := [some (.dat g.d 0), some (.dat (.list (cs.map Cl.d)) 0), none]) (ws := [.dat (.list (cs.map Cl.d)) 0]) (xs := cs.map Cl.d) (by simp [consE, W.fz]) rfl
    (by rw [List.length_map]; exact Nat.le_trans hl (by decide)) fun x hx => by
      obtain ⟨c, hc, rfl⟩ := List.mem_map.mp hx
      simp [callE, consE, W.fz, c_is_claim_of, r_is_claim (h c hc)]
  refine run_rt (S1 := S) (us := [.dat g.d 0, .dat (.list (cs.map Cl.d)) 0]) (by simp [fn_are_claims_of, inWs, inW, W.fz]) ?_
  have hb : fn_are_claims_of.body = [.ret (.and (.call "is_list" [.v 1]) (.and (.cmp .le (.bi .len [.v 1]) (.g "MOST_CLAIMS")) (.bi .all [.comp (.call "is_claim_of" [.v 0, .v 2]) [2] true .seq [.v 1] []])))] := rfl
  rw [hb, x_cons]
  refine seq_rt ?_
  rw [x_ret]
  refine ret_of ?_
  rw [e_and]
  refine (and_t (m := 0) (S1 := S) (by simp [callE, consE, W.fz, c_is_list, r_is_list])).trans ?_
  rw [e_and]
  exact (and_t (m := 0) (S1 := S) (by simp [cmpE, biE, consE, W.fz, biop, LIM, hA, cmpop, hB])).trans c1
theorem r_is_claims {g : Dg} {p : Int → Int} {cs : List Cl} (hg : g.Ok) (hp : Pot g p) (hl : cs.length ≤ 64) (h : ∀ c ∈ cs, c.Ok g.n) : fn_is_claims.run (FT tab gl (k + 8)) gl [.dat g.d m, .dat (.list (cs.map Cl.d)) m1] S = some (.dat (.bool true) 0, S) := by
  have h1 := r_check_sound (k := k) (m := 0) (S := S) hg hp
  have h2 := r_are_claims (k := k + 3) (m := 0) (m1 := 0) (S := S) hl h
  unfold Fn.run
  simp [fn_is_claims, c_check_sound, c_are_claims_of, h1, h2, inWs, inW, W.fz, binE, negE, cmpE, chainE, isNE, notNE, notBE, andE, orE, notE, iteE, tupE, lstE, idxE, slLE, slHE, callE, callKE, biE, isiE, isi2E, consE, ts1, exE, asgE, asgV, asgTE, asgPE, setIE, ifsE, seqE, retE, retV, useR_same, fzAll, tyIs, cmpop, binop, biop, idxop, ixD, datAll, dOf, isL, noneD, List.replicate, asgQ, setWs]
def fD (f : List (List Cl)) : PyData := .list (f.map fun c => .list (c.map Cl.d))
theorem r_is_formula {g : Dg} {p : Int → Int} {f : List (List Cl)} (hg : g.Ok) (hp : Pot g p) (l1 : 1 ≤ f.length) (l2 : f.length ≤ 64) (l3 : ∀ c ∈ f, c.length ≤ 64) (h : ∀ c ∈ f, ∀ x ∈ c, x.Ok g.n) : fn_is_formula.run (FT tab gl (k + 9)) gl [.dat g.d m, .dat (fD f) m1] S = some (.dat (.bool true) 0, S) := by
  have h1 := r_check_sound (k := k + 1) (m := 0) (S := S) hg hp
  have hA : f.length ≤ 100000 := by omega
  have hB : (f.length : Int) ≤ 64 := by omega
  have hC : (1 : Int) ≤ f.length := by omega
  have c1 := comp_true (F := FT tab gl (k + 9)) (S := S) (elt := .call "is_claims" [.v 0, .v 2]) (i := 2) (its := [.v 1]) (r := [some (.dat g.d 0), some (.dat (fD f) 0), none]) (ws := [.dat (fD f) 0]) (xs := f.map fun c => .list (c.map Cl.d)) (by simp [consE, W.fz]) rfl
    (by rw [List.length_map]; exact Nat.le_trans l2 (by decide)) fun x hx => by
      obtain ⟨c, hc, rfl⟩ := List.mem_map.mp hx
      simp [callE, consE, W.fz, c_is_claims, r_is_claims hg hp (l3 c hc) (h c hc)]
  refine run_rt (S1 := S) (us := [.dat g.d 0, .dat (fD f) 0]) (by simp [fn_is_formula, inWs, inW, W.fz]) ?_
  have hb : fn_is_formula.body = [.ex (.call "check_sound" [.v 0]), .ifs (.or (.not (.isi2 (.v 1) .list .tuple)) (.not (.chain .le .le (.c (.int 1)) (.bi .len [.v 1]) (.g "MOST_CLAUSES")))) [.ret (.c (.bool false))] [],
    .ret (.bi .all [.comp (.call "is_claims" [.v 0, .v 2]) [2] true .seq [.v 1] []])] := rfl
  rw [hb, x_cons]
  refine (seq_nx (r1 := [some (.dat g.d 0), some (.dat (fD f) 0), none]) (S1 := S) ?_).trans ?_
  · simp [exE, callE, consE, W.fz, c_check_sound, h1, fn_is_formula, useR_same, fzAll]
  rw [x_cons]
  refine (seq_nx (r1 := [some (.dat g.d 0), some (.dat (fD f) 0), none]) (S1 := S) ?_).trans ?_
  · simp [fD, ifsE, orE, notE, isi2E, chainE, biE, consE, W.fz, tyIs, biop, LIM, hA, hB, hC, cmpop]
  rw [x_cons]
  refine seq_rt ?_
  rw [x_ret]
  exact ret_of c1
end K81
end

section
set_option maxRecDepth 100000
/-! K81I: phases. -/
namespace K81
open PySem MP
variable {k : Nat} {S : Sto} {m m1 m2 m3 : Nat}

def phD (ph : List Nat) : PyData := .tuple (ph.map fun i => .int (i : Nat))
/-- layers told upwards -/
def Up : List Nat → Prop
  | a :: b :: r => a < b ∧ Up (b :: r)
  | _ => True
structure PhOk (n : Int) (ph : List Nat) : Prop where
  l1 : 1 ≤ ph.length
  l2 : ph.length ≤ 4
  lt : ∀ i ∈ ph, (i : Int) < n
  up : Up ph
theorem all_of {F : Fns} {e : E} {r : Rho} {xs : List PyData} (h : evE F gl e r S = some (.dat (.list (xs.map fun _ => .bool true)) m, S)) : evE F gl (.bi .all [e]) r S = some (.dat (.bool true) 0, S) := by
  have b1 : allBools (xs.map fun _ => PyData.bool true) = some (xs.map fun _ => true) := allBools_map (p := fun _ => true)
  have b2 : ((xs.map fun _ => true).all id) = true := by simp
  rw [e_bi]
  unfold biE
  rw [show evEs F gl [e] r S = some ([_], S) by rw [e_cons]; exact cons_of h e_nil]
  dsimp only
  rw [show biop S .all [.dat (.list (xs.map fun _ => .bool true)) m] = some (.dat (.bool true) 0) by
    show (allBools _).map _ = _
    rw [b1]
    show some (W.dat (.bool _) 0) = _
    rw [b2]]
theorem zip_up {ph : List Nat} (h : Up ph) : ∀ t ∈ List.zipWith (fun x y => PyData.tuple [x, y]) (ph.map fun i => PyData.int (i : Nat)) ((ph.map fun i => PyData.int (i : Nat)).drop 1), ∃ a b : Nat, t = .tuple [.int a, .int b] ∧ a < b := by
  match ph, h with
  | [], _ => intro t ht; cases ht
  | [a], _ => intro t ht; cases ht
  | a :: b :: r, ⟨h1, h2⟩ =>
    intro t ht
    have ih := zip_up h2
    rcases List.mem_cons.mp ht with e | ht
    · exact ⟨a, b, e, h1⟩
    · exact ih t ht
theorem r_is_phase {g : Dg} {p : Int → Int} {ph : List Nat} (hg : g.Ok) (hp : Pot g p) (h : PhOk g.n ph) : fn_is_phase.run (FT tab gl (k + 8)) gl [.dat g.d m, .dat (phD ph) m1] S = some (.dat (.bool true) 0, S) := by
  have h1 := r_check_sound (k := k) (m := 0) (S := S) hg hp
  have l1 := h.l1
  have l2 := h.l2
  have hA : ph.length ≤ 100000 := by omega
  have hB : (ph.length : Int) ≤ 8 := by omega
  have hC : (1 : Int) ≤ ph.length := by omega
  have hxl : (ph.map fun i => PyData.int (i : Nat)).length ≤ LIM := by
    rw [List.length_map]
    exact Nat.le_trans l2 (by decide)
  have c1 := comp_true (F := FT tab gl (k + 8)) (S := S) (elt := .and (.call "is_count" [.v 2]) (.cmp .lt (.v 2) (.idx (.v 0) (.c (.int 1))))) (i := 2) (its := [.v 1]) (r := [some (.dat g.d 0), some (.dat (phD ph) 0), none, none, none]) (ws := [.dat (phD ph) 0]) (xs := ph.map fun i => .int (i : Nat)) (by simp [consE, W.fz]) rfl hxl fun x hx => by
      obtain ⟨i, hi, rfl⟩ := List.mem_map.mp hx
      have := h.lt i hi
      simp [andE, callE, consE, W.fz, c_is_count, cmpE, idxE, idxop, ixD, Dg.d, cmpop, this]
  have c2 : evE (FT tab gl (k + 8)) gl (.bi .all [.comp (.cmp .lt (.v 3) (.v 4)) [3, 4] false .zip [.v 1, .slL (.v 1) (.c (.int 1))] []]) [some (.dat g.d 0), some (.dat (phD ph) 0), none, none, none] S = some (.dat (.bool true) 0, S) := by
    have hg2 : compGo (stepE (evE (FT tab gl (k + 8)) gl (.cmp .lt (.v 3) (.v 4))) (evTs (FT tab gl (k + 8)) gl []) [3, 4] false [some (.dat g.d 0), some (.dat (phD ph) 0), none, none, none]) (List.zipWith (fun x y => PyData.tuple [x, y]) (ph.map fun i => PyData.int (i : Nat)) ((ph.map fun i => PyData.int (i : Nat)).drop 1)) S = some ((List.zipWith (fun x y => PyData.tuple [x, y]) (ph.map fun i => PyData.int (i : Nat)) ((ph.map fun i => PyData.int (i : Nat)).drop 1)).map fun _ => (.bool true, 0), S) := compGo_map fun t ht => by
      obtain ⟨a, b, rfl, hab⟩ := zip_up h.up t ht
      refine step_two ?_
      have : (a : Int) < b := by omega
      simp [cmpE, W.fz, cmpop, this]
    have cl : clampD (ph.map fun i => PyData.int (i : Nat)).length 1 = 1 := by
      rw [List.length_map]
      unfold clampD
      rw [if_neg (by decide)]
      show min 1 ph.length = 1
      omega
    have es : evEs (FT tab gl (k + 8)) gl [.v 1, .slL (.v 1) (.c (.int 1))] [some (.dat g.d 0), some (.dat (phD ph) 0), none, none, none] S = some ([.dat (phD ph) 0, .dat (.tuple ((ph.map fun i => PyData.int (i : Nat)).drop 1)) 0], S) := by
      have e0 : slLop (phD ph) (.int 1) = some (.dat (.tuple ((ph.map fun i => PyData.int (i : Nat)).drop 1)) 0) := by
        show some (W.dat (.tuple ((ph.map fun i => PyData.int (i : Nat)).drop (clampD (ph.map fun i => PyData.int (i : Nat)).length 1))) 0) = _
        rw [cl]
      simp only [e_cons, consE, e_v, e_nil, W.fz, e_slL, slLE, e_c, e0, List.getElem?_cons_succ, List.getElem?_cons_zero]
    have e := comp_of (k := .zip) es rfl (by
      rw [List.length_zipWith]
      exact Nat.le_trans (Nat.min_le_left _ _) hxl) hg2
    rw [List.map_map, dOf_flat fun _ => rfl] at e
    exact all_of (xs := List.zipWith (fun x y => PyData.tuple [x, y]) (ph.map fun i => PyData.int (i : Nat)) ((ph.map fun i => PyData.int (i : Nat)).drop 1)) e
  refine run_rt (S1 := S) (us := [.dat g.d 0, .dat (phD ph) 0]) (by simp [fn_is_phase, inWs, inW, W.fz]) ?_
  have hb : fn_is_phase.body = [.ex (.call "check_sound" [.v 0]), .ifs (.or (.not (.isi (.v 1) .tuple)) (.not (.chain .le .le (.c (.int 1)) (.bi .len [.v 1]) (.g "MOST_LAYERS_phases")))) [.ret (.c (.bool false))] [],
   .ifs (.not (.bi .all [.comp (.and (.call "is_count" [.v 2]) (.cmp .lt (.v 2) (.idx (.v 0) (.c (.int 1))))) [2] true .seq [.v 1] []])) [.ret (.c (.bool false))] [],
   .ret (.bi .all [.comp (.cmp .lt (.v 3) (.v 4)) [3, 4] false .zip [.v 1, .slL (.v 1) (.c (.int 1))] []])] := rfl
  rw [hb, x_cons]
  refine (seq_nx (r1 := [some (.dat g.d 0), some (.dat (phD ph) 0), none, none, none]) (S1 := S) ?_).trans ?_
  · simp [exE, callE, consE, W.fz, c_check_sound, h1, fn_is_phase, useR_same, fzAll]
  rw [x_cons]
  refine (seq_nx (r1 := [some (.dat g.d 0), some (.dat (phD ph) 0), none, none, none]) (S1 := S) ?_).trans ?_
  · simp [phD, ifsE, orE, notE, isiE, chainE, biE, consE, W.fz, tyIs, biop, LIM, hA, hB, hC, cmpop]
  rw [x_cons]
  refine (seq_nx (r1 := [some (.dat g.d 0), some (.dat (phD ph) 0), none, none, none]) (S1 := S) ?_).trans ?_
  · rw [x_ifs]
    refine (if_f (m := 0) ?_).trans x_nil
    rw [e_not]
    exact not_of c1
  rw [x_cons]
  refine seq_rt ?_
  rw [x_ret]
  exact ret_of c2
theorem r_check_phase {g : Dg} {p : Int → Int} {ph : List Nat} {l : Int} (hg : g.Ok) (hp : Pot g p) (h : PhOk g.n ph) (hl : l ≤ ph.length) : fn_check_phase.run (FT tab gl (k + 9)) gl [.dat g.d m, .dat (phD ph) m1, .dat (.int l) m2] S = some (.dat .none 0, S) := by
  have h1 := r_is_phase (k := k) (m := 0) (m1 := 0) (S := S) hg hp h
  have l2 := h.l2
  have hA : ph.length ≤ 100000 := by omega
  have hB : ¬ ((ph.length : Int) < l) := by omega
  have hlen : biop S .len [.dat (phD ph) 0] = some (.dat (.int ph.length) 0) := by
    simp [phD, biop, LIM, hA]
  unfold Fn.run
  simp [fn_check_phase, inWs, inW, W.fz, seqE, ifsE, orE, notE, callE, consE, c_is_phase, h1, cmpE, biE, hlen, cmpop, hB]
theorem r_check_both {g : Dg} {p : Int → Int} {ph qh : List Nat} (hg : g.Ok) (hp : Pot g p) (h : PhOk g.n ph) (hq : PhOk g.n qh) (dj : ∀ i ∈ qh, i ∉ ph) : fn_check_both.run (FT tab gl (k + 10)) gl [.dat g.d m, .dat (phD ph) m1, .dat (phD qh) m2] S = some (.dat .none 0, S) := by
  have h1 := r_check_phase (k := k) (m := 0) (m1 := 0) (m2 := 0) (l := 1) (S := S) hg hp h (by have := h.l1; omega)
  have h2 := r_is_phase (k := k + 1) (m := 0) (m1 := 0) (S := S) hg hp hq
  have hxl : (qh.map fun i => PyData.int (i : Nat)).length ≤ LIM := by
    rw [List.length_map]
    exact Nat.le_trans hq.l2 (by decide)
  have fl : ∀ x ∈ (ph.map fun i => PyData.int (i : Nat)), flat x = true := fun x hx => by
    obtain ⟨i, _, rfl⟩ := List.mem_map.mp hx
    rfl
  have c1 : evE (FT tab gl (k + 10)) gl (.bi .any [.comp (.cmp .isin (.v 3) (.v 1)) [3] true .seq [.v 2] []]) [some (.dat g.d 0), some (.dat (phD ph) 0), some (.dat (phD qh) 0), none] S = some (.dat (.bool false) 0, S) := by
    have hg2 : compGo (stepE (evE (FT tab gl (k + 10)) gl (.cmp .isin (.v 3) (.v 1))) (evTs (FT tab gl (k + 10)) gl []) [3] true [some (.dat g.d 0), some (.dat (phD ph) 0), some (.dat (phD qh) 0), none]) (qh.map fun i => PyData.int (i : Nat)) S = some ((qh.map fun i => PyData.int (i : Nat)).map fun _ => (.bool false, 0), S) := compGo_map fun t ht => by
      obtain ⟨i, hi, rfl⟩ := List.mem_map.mp ht
      refine step_one ?_
      have hin : inD (.int (i : Nat)) (ph.map fun i => PyData.int (i : Nat)) = false := by
        unfold inD
        rw [List.any_eq_false]
        intro y hy
        obtain ⟨j, hj, rfl⟩ := List.mem_map.mp hy
        rw [eqv_int]
        simp only [beq_iff_eq]
        intro e
        have : j = i := by omega
        exact dj i hi (this ▸ hj)
      have hc : cmpop .isin (.int (i : Nat)) (phD ph) = some false := by
        show (if flat (.int (i : Nat)) && (ph.map fun i => PyData.int (i : Nat)).all flat then some (inD (.int (i : Nat)) (ph.map fun i => PyData.int (i : Nat))) else none) = _
        rw [if_pos (by rw [Bool.and_eq_true]; exact ⟨rfl, List.all_eq_true.mpr fl⟩), hin]
      simp [cmpE, W.fz, hc]
    have e := comp_of (k := .seq) (ws := [.dat (phD qh) 0]) (its := [.v 2]) (S := S) (S1 := S) (by simp [consE, W.fz]) rfl hxl hg2
    rw [List.map_map, dOf_flat fun _ => rfl] at e
    have b1 : allBools ((qh.map fun i => PyData.int (i : Nat)).map ((fun x : PyData × Nat => x.1) ∘ fun _ => (PyData.bool false, 0))) = some ((qh.map fun i => PyData.int (i : Nat)).map fun _ => false) := allBools_map (p := fun _ => false)
    have b2 : (((qh.map fun i => PyData.int (i : Nat)).map fun _ => false).any id) = false := by simp
    rw [e_bi]
    unfold biE
    rw [show evEs (FT tab gl (k + 10)) gl [.comp (.cmp .isin (.v 3) (.v 1)) [3] true .seq [.v 2] []] [some (.dat g.d 0), some (.dat (phD ph) 0), some (.dat (phD qh) 0), none] S = some ([_], S) by rw [e_cons]; exact cons_of e e_nil]
    dsimp only
    rw [show biop S .any [.dat (.list ((qh.map fun i => PyData.int (i : Nat)).map ((fun x : PyData × Nat => x.1) ∘ fun _ => (PyData.bool false, 0)))) 2] = some (.dat (.bool false) 0) by
      show (allBools _).map _ = _
      rw [b1]
      show some (W.dat (.bool _) 0) = _
      rw [b2]]
  refine run_nx (S1 := S) (us := [.dat g.d 0, .dat (phD ph) 0, .dat (phD qh) 0]) (by simp [fn_check_both, inWs, inW, W.fz]) (r1 := [some (.dat g.d 0), some (.dat (phD ph) 0), some (.dat (phD qh) 0), none]) ?_
  have hb : fn_check_both.body = [.ex (.call "check_phase" [.v 0, .v 1]), .ifs (.or (.not (.call "is_phase" [.v 0, .v 2])) (.bi .any [.comp (.cmp .isin (.v 3) (.v 1)) [3] true .seq [.v 2] []])) [.stuck] []] := rfl
  rw [hb, x_cons]
  refine (seq_nx (r1 := [some (.dat g.d 0), some (.dat (phD ph) 0), some (.dat (phD qh) 0), none]) (S1 := S) ?_).trans ?_
  · simp [exE, callE, consE, W.fz, c_check_phase_2, h1, fn_check_both, useR_same, fzAll]
  rw [x_cons]
  refine (seq_nx (r1 := [some (.dat g.d 0), some (.dat (phD ph) 0), some (.dat (phD qh) 0), none]) (S1 := S) ?_).trans x_nil
  rw [x_ifs]
  refine (if_f (m := 0) ?_).trans x_nil
  rw [e_or]
  exact (or_f (m := 0) (S1 := S) (by simp [notE, callE, consE, W.fz, c_is_phase, h2])).trans c1
theorem r_check_years (y : Int) (h1 : -199998 ≤ y) (h2 : y ≤ 199998) : fn_check_years.run (FT tab gl (k + 1)) gl [.dat (.int y) m] S = some (.dat .none 0, S) := by
  have h3 : ¬ (199998 < (if y < 0 then -y else y)) := by split <;> omega
  unfold Fn.run
  simp [fn_check_years, inWs, inW, W.fz, seqE, ifsE, orE, notE, callE, consE, c_is_integer, cmpE, biE, biop, cmpop, h3]
theorem r_check_length (y : Int) (h1 : 0 ≤ y) (h2 : y ≤ 199998) : fn_check_length.run (FT tab gl (k + 2)) gl [.dat (.int y) m] S = some (.dat .none 0, S) := by
  have h3 : ¬ (199998 < y) := by omega
  unfold Fn.run
  simp [fn_check_length, inWs, inW, W.fz, seqE, ifsE, orE, notE, callE, consE, c_is_count, cmpE, biE, biop, cmpop, h1, h3]
end K81
end

section
set_option maxRecDepth 100000
/-! K81J: the phases' formulas. -/
namespace K81
open PySem MP
variable {k : Nat} {S : Sto} {m m1 m2 m3 : Nat}

theorem dOf_two : ∀ {ds : List (PyData × Nat)}, (∀ y ∈ ds, isL y.1 = false ∨ y.2 ≠ 0) → dOf ds = 2
  | [], _ => rfl
  | (d, mm) :: ds, h => by
    unfold dOf
    have h1 := h (d, mm) (by simp)
    rw [if_neg, dOf_two fun y hy => h y (by simp [hy])]
    intro z
    rw [Bool.and_eq_true] at z
    rcases h1 with h1 | h1
    · rw [h1] at z
      cases z.1
    · exact h1 (by simpa using z.2)
theorem comp2_ints {F : Fns} {ph qh : List Nat} {elt it it2 : E} {ifs : List E} {i j : Nat} {r : Rho} {c : Nat → Nat → Bool} {f : Nat → Nat → PyData} {mm : Nat} (h1 : evE F gl it r S = some (.dat (phD ph) m, S)) (h2 : ∀ a ∈ ph, evE F gl it2 ((r.set j none).set i (some (.dat (.int (a : Nat)) 0))) S = some (.dat (phD qh) m1, S))
    (h3 : ∀ a ∈ ph, ∀ b ∈ qh, stepE (evE F gl elt) (evTs F gl ifs) [j] true ((r.set j none).set i (some (.dat (.int (a : Nat)) 0))) (.int (b : Nat)) S = some (if c a b then some (f a b, mm) else none, S)) (l1 : ph.length ≤ 300) (l2 : qh.length ≤ 300) (hm : ∀ a b, isL (f a b) = false ∨ mm ≠ 0) :
    evE F gl (.comp2 elt i it j it2 ifs) r S = some (.dat (.list (ph.flatMap fun a => (qh.filter (c a)).map fun b => f a b)) 2, S) := by
  have go : compGo2 (step2E (evE F gl elt) (evTs F gl ifs) i j (evE F gl it2) r) (ph.map fun a => PyData.int (a : Nat)) S = some ((ph.map fun a => PyData.int (a : Nat)).flatMap fun x => (match x with
      | .int a => (qh.filter (c a.toNat)).map fun b => (f a.toNat b, mm)
      | _ => []), S) := compGo2_pure fun x hx => by
    obtain ⟨a, ha, rfl⟩ := List.mem_map.mp hx
    unfold step2E
    rw [h2 a ha]
    dsimp only
    rw [show items .seq [.dat (phD qh) m1] = some (qh.map fun b => PyData.int (b : Nat)) from rfl]
    dsimp only
    rw [if_pos (by rw [List.length_map]; exact l2)]
    have g2 := compGo_pure (f := stepE (evE F gl elt) (evTs F gl ifs) [j] true ((r.set j none).set i (some (.dat (.int (a : Nat)) 0)))) (S := S) (xs := qh.map fun b => PyData.int (b : Nat)) (p := fun y => match y with
      | .int b => c a b.toNat
      | _ => false) (g := fun y => (match y with
      | .int b => (f a b.toNat, mm)
      | y => (y, 0))) fun y hy => by
        obtain ⟨b, hb, rfl⟩ := List.mem_map.mp hy
        rw [h3 a ha b hb]
        rfl
    rw [g2]
    congr 2
    rw [List.filter_map, List.map_map]
    rfl
  rw [e_comp2]
  unfold comp2E
  rw [h1]
  dsimp only
  rw [show items .seq [.dat (phD ph) m] = some (ph.map fun b => PyData.int (b : Nat)) from rfl]
  dsimp only
  rw [if_pos (by rw [List.length_map]; exact l1), go]
  dsimp only
  rw [dOf_two]
  · congr 4
    rw [List.flatMap_map, List.map_flatMap]
    congr 1
    funext a
    rw [List.map_map]
    rfl
  · intro y hy
    rw [List.flatMap_map] at hy
    obtain ⟨a, _, hy⟩ := List.mem_flatMap.mp hy
    obtain ⟨b, _, rfl⟩ := List.mem_map.mp hy
    exact hm _ _
/-- the pairs of two phases -/
def pr (ph qh : List Nat) : List (Nat × Nat) := ph.flatMap fun a => (qh.filter fun b => a != b).map fun b => (a, b)
def prD (ps : List (Nat × Nat)) : PyData := .list (ps.map fun p => .tuple [.int (p.1 : Nat), .int (p.2 : Nat)])
theorem r_pairs_of {F : Fns} {ph : List Nat} (hl : ph.length ≤ 300) : fn_pairs_of.run F gl [.dat (phD ph) m] S = some (.dat (prD (pr ph ph)) 2, S) := by
  have e := comp2_ints (F := F) (S := S) (ph := ph) (qh := ph) (elt := .tup [.v 1, .v 2]) (it := .v 0) (it2 := .v 0) (ifs := [.cmp .ne (.v 1) (.v 2)]) (i := 1) (j := 2) (r := [some (.dat (phD ph) 0), none, none]) (c := fun a b => a != b) (f := fun a b => .tuple [.int (a : Nat), .int (b : Nat)]) (mm := 0) (m := 0) (m1 := 0)
    (by simp [W.fz]) (fun a _ => by simp [W.fz]) (fun a _ b _ => by
      refine step_if ?_ fun _ => ?_
      · have : ((a : Int) == (b : Int)) = (a == b) := by
          rw [Bool.eq_iff_iff]
          simp
          omega
        simp [cmpE, W.fz, cmpop, this, bne]
      · simp [tupE, consE, W.fz, datAll, LIM]) hl hl fun _ _ => .inl rfl
  refine run_rt (S1 := S) (us := [.dat (phD ph) 0]) (by simp [fn_pairs_of, inWs, inW, W.fz]) ?_
  have hb : fn_pairs_of.body = [.ret (.comp2 (.tup [.v 1, .v 2]) 1 (.v 0) 2 (.v 0) [.cmp .ne (.v 1) (.v 2)])] := rfl
  rw [hb, x_cons]
  refine seq_rt ?_
  rw [x_ret]
  refine ret_of (e.trans ?_)
  unfold prD pr
  simp only [List.map_flatMap, List.map_map]
  rfl
/-- pairs of distinct layers of one dig -/
theorem pr_mem {ph qh : List Nat} {p : Nat × Nat} (h : p ∈ pr ph qh) : p.1 ∈ ph ∧ p.2 ∈ qh ∧ p.1 ≠ p.2 := by
  obtain ⟨a, ha, h⟩ := List.mem_flatMap.mp h
  obtain ⟨b, hb, rfl⟩ := List.mem_map.mp h
  obtain ⟨h1, h2⟩ := List.mem_filter.mp hb
  exact ⟨ha, h1, by simpa using h2⟩
/-- the formulas -/
def fMost (ph : List Nat) (y : Int) : List (List Cl) := (pr ph ph).map fun p => [.apart p.1 p.2 (0 - y)]
def fLeast (ph : List Nat) (y : Int) : List (List Cl) := [(pr ph ph).map fun p => .apart p.1 p.2 y]
def fEnd (ph qh : List Nat) (y : Int) : List (List Cl) := ph.flatMap fun a => qh.map fun b => [.apart b a y]
def fOver (ph qh : List Nat) : List (List Cl) := [ph.flatMap fun a => qh.map fun b => .apart b a 0, ph.flatMap fun a => qh.map fun b => .apart a b 0]
def fIn (ph : List Nat) (b e : Int) : List (List Cl) := ph.flatMap fun a => [[.since a b], [.till a e]]
theorem pr_len {n : Nat} {ph qh : List Nat} (h : ph.length ≤ 4) (h2 : qh.length ≤ n) : (pr ph qh).length ≤ 4 * n := by
  unfold pr
  have : ∀ {l : List Nat}, (l.flatMap fun a => (qh.filter fun b => a != b).map fun b => (a, b)).length ≤ l.length * n := fun {l} => by
    induction l with
    | nil => simp
    | cons a l ih =>
      rw [List.flatMap_cons, List.length_append, List.length_map, List.length_cons, Nat.succ_mul]
      have := List.length_filter_le (fun b => a != b) qh
      omega
  exact Nat.le_trans this (Nat.mul_le_mul_right _ h)
theorem r_most {g : Dg} {p : Int → Int} {ph : List Nat} {y : Int} (hg : g.Ok) (hp : Pot g p) (h : PhOk g.n ph) (h2 : 2 ≤ ph.length) (y1 : 0 ≤ y) (y2 : y ≤ 199998) : fn_lasted_at_most.run (FT tab gl (k + 10)) gl [.dat g.d m, .dat (phD ph) m1, .dat (.int y) m2] S = some (.dat (fD (fMost ph y)) 2, S) := by
  have c1 := r_check_phase (k := k) (m := 0) (m1 := 0) (m2 := 0) (l := 2) (S := S) hg hp h (by omega)
  have c2 := r_check_length (k := k + 7) (m := 0) (S := S) y y1 y2
  have c3 := r_pairs_of (F := FT tab gl (k + 9)) (m := 0) (S := S) (ph := ph) (by have := h.l2; omega)
  have ll := pr_len (n := 4) h.l2 h.l2
  refine run_rt (S1 := S) (us := [.dat g.d 0, .dat (phD ph) 0, .dat (.int y) 0]) (by simp [fn_lasted_at_most, inWs, inW, W.fz]) ?_
  have hb : fn_lasted_at_most.body = [.ex (.call "check_phase" [.v 0, .v 1, .c (.int 2)]), .ex (.call "check_length" [.v 2]), .ret (.comp (.lst [.tup [.c (.str "apart"), .v 3, .v 4, .bin .sub (.c (.int 0)) (.v 2)]]) [3, 4] false .seq [.call "pairs_of" [.v 1]] [])] := rfl
  rw [hb, x_cons]
  refine (seq_nx (r1 := [some (.dat g.d 0), some (.dat (phD ph) 0), some (.dat (.int y) 0), none, none]) (S1 := S) ?_).trans ?_
  · simp [exE, callE, consE, W.fz, c_check_phase_3, c1, fn_lasted_at_most, useR_same, fzAll]
  rw [x_cons]
  refine (seq_nx (r1 := [some (.dat g.d 0), some (.dat (phD ph) 0), some (.dat (.int y) 0), none, none]) (S1 := S) ?_).trans ?_
  · simp [exE, callE, consE, W.fz, c_check_length, c2, fn_lasted_at_most, useR_same, fzAll]
  rw [x_cons]
  refine seq_rt ?_
  rw [x_ret]
  refine ret_of ?_
  have hg2 : compGo (stepE (evE (FT tab gl (k + 10)) gl (.lst [.tup [.c (.str "apart"), .v 3, .v 4, .bin .sub (.c (.int 0)) (.v 2)]])) (evTs (FT tab gl (k + 10)) gl []) [3, 4] false [some (.dat g.d 0), some (.dat (phD ph) 0), some (.dat (.int y) 0), none, none]) ((pr ph ph).map fun q => PyData.tuple [.int (q.1 : Nat), .int (q.2 : Nat)]) S = some (((pr ph ph).map fun q => PyData.tuple [.int (q.1 : Nat), .int (q.2 : Nat)]).map fun t => (match t with
      | .tuple [i, j] => .list [.tuple [.str "apart", i, j, .int (0 - y)]]
      | t => t, 2), S) := compGo_map fun t ht => by
    obtain ⟨q, hq, rfl⟩ := List.mem_map.mp ht
    refine step_two ?_
    simp [lstE, tupE, consE, W.fz, datAll, LIM, binE, binop, dOf, isL]
  refine (comp_of (S := S) (S1 := S) (k := .seq) (ws := [.dat (prD (pr ph ph)) 2]) (by simp [callE, consE, W.fz, c_pairs_of, c3]) rfl (by rw [List.length_map]; exact Nat.le_trans ll (by decide)) hg2).trans ?_
  rw [dOf_two]
  · unfold fD fMost
    simp only [List.map_map]
    rfl
  · intro z hz
    obtain ⟨t, ht, rfl⟩ := List.mem_map.mp hz
    exact .inr (by simp)
end K81
end

section
set_option maxRecDepth 100000
/-! K81K: the phases' other formulas. -/
namespace K81
open PySem MP
variable {k : Nat} {S : Sto} {m m1 m2 m3 : Nat}

theorem r_least {g : Dg} {p : Int → Int} {ph : List Nat} {y : Int} (hg : g.Ok) (hp : Pot g p) (h : PhOk g.n ph) (h2 : 2 ≤ ph.length) (y1 : 0 ≤ y) (y2 : y ≤ 199998) : fn_lasted_at_least.run (FT tab gl (k + 10)) gl [.dat g.d m, .dat (phD ph) m1, .dat (.int y) m2] S = some (.dat (fD (fLeast ph y)) 2, S) := by
  have c1 := r_check_phase (k := k) (m := 0) (m1 := 0) (m2 := 0) (l := 2) (S := S) hg hp h (by omega)
  have c2 := r_check_length (k := k + 7) (m := 0) (S := S) y y1 y2
  have c3 := r_pairs_of (F := FT tab gl (k + 9)) (m := 0) (S := S) (ph := ph) (by have := h.l2; omega)
  have ll := pr_len (n := 4) h.l2 h.l2
  refine run_rt (S1 := S) (us := [.dat g.d 0, .dat (phD ph) 0, .dat (.int y) 0]) (by simp [fn_lasted_at_least, inWs, inW, W.fz]) ?_
  have hb : fn_lasted_at_least.body = [.ex (.call "check_phase" [.v 0, .v 1, .c (.int 2)]), .ex (.call "check_length" [.v 2]), .ret (.lst [.comp (.tup [.c (.str "apart"), .v 3, .v 4, .v 2]) [3, 4] false .seq [.call "pairs_of" [.v 1]] []])] := rfl
  rw [hb, x_cons]
  refine (seq_nx (r1 := [some (.dat g.d 0), some (.dat (phD ph) 0), some (.dat (.int y) 0), none, none]) (S1 := S) ?_).trans ?_
  · simp [exE, callE, consE, W.fz, c_check_phase_3, c1, fn_lasted_at_least, useR_same, fzAll]
  rw [x_cons]
  refine (seq_nx (r1 := [some (.dat g.d 0), some (.dat (phD ph) 0), some (.dat (.int y) 0), none, none]) (S1 := S) ?_).trans ?_
  · simp [exE, callE, consE, W.fz, c_check_length, c2, fn_lasted_at_least, useR_same, fzAll]
  rw [x_cons]
  refine seq_rt ?_
  rw [x_ret]
  refine ret_of ?_
  have hg2 : compGo (stepE (evE (FT tab gl (k + 10)) gl (.tup [.c (.str "apart"), .v 3, .v 4, .v 2])) (evTs (FT tab gl (k + 10)) gl []) [3, 4] false [some (.dat g.d 0), some (.dat (phD ph) 0), some (.dat (.int y) 0), none, none]) ((pr ph ph).map fun q => PyData.tuple [.int (q.1 : Nat), .int (q.2 : Nat)]) S = some (((pr ph ph).map fun q => PyData.tuple [.int (q.1 : Nat), .int (q.2 : Nat)]).map fun t => (match t with
      | .tuple [i, j] => .tuple [.str "apart", i, j, .int y]
      | _ => .none, 0), S) := compGo_map fun t ht => by
    obtain ⟨q, hq, rfl⟩ := List.mem_map.mp ht
    refine step_two ?_
    simp [tupE, consE, W.fz, datAll, LIM]
  have e := comp_of (S := S) (S1 := S) (k := .seq) (its := [.call "pairs_of" [.v 1]]) (ws := [.dat (prD (pr ph ph)) 2]) (by simp [callE, consE, W.fz, c_pairs_of, c3]) rfl (by rw [List.length_map]; exact Nat.le_trans ll (by decide)) hg2
  rw [dOf_two] at e
  · rw [e_lst]
    unfold lstE
    rw [show evEs (FT tab gl (k + 10)) gl [.comp (.tup [.c (.str "apart"), .v 3, .v 4, .v 2]) [3, 4] false .seq [.call "pairs_of" [.v 1]] []] [some (.dat g.d 0), some (.dat (phD ph) 0), some (.dat (.int y) 0), none, none] S = some ([_], S) by rw [e_cons]; exact cons_of e e_nil]
    dsimp only [datAll]
    rw [if_pos (by show 1 ≤ LIM; decide)]
    unfold fD fLeast
    simp only [List.map_map, List.map_cons, List.map_nil]
    rfl
  · intro z hz
    obtain ⟨t, ht, rfl⟩ := List.mem_map.mp hz
    obtain ⟨q, hq, rfl⟩ := List.mem_map.mp ht
    exact .inl rfl
theorem fil_true {ph : List Nat} : (ph.filter fun _ => true) = ph := List.filter_eq_self.mpr fun _ _ => rfl
theorem r_end {g : Dg} {p : Int → Int} {ph qh : List Nat} {y : Int} (hg : g.Ok) (hp : Pot g p) (h : PhOk g.n ph) (hq : PhOk g.n qh) (dj : ∀ i ∈ qh, i ∉ ph) (y1 : -199998 ≤ y) (y2 : y ≤ 199998) : fn_ended_before.run (FT tab gl (k + 11)) gl [.dat g.d m, .dat (phD ph) m1, .dat (phD qh) m2, .dat (.int y) m3] S = some (.dat (fD (fEnd ph qh y)) 2, S) := by
  have c1 := r_check_both (k := k) (m := 0) (m1 := 0) (m2 := 0) (S := S) hg hp h hq dj
  have c2 := r_check_years (k := k + 9) (m := 0) (S := S) y y1 y2
  have e := comp2_ints (F := FT tab gl (k + 11)) (S := S) (ph := ph) (qh := qh) (elt := .lst [.tup [.c (.str "apart"), .v 5, .v 4, .v 3]]) (it := .v 1) (it2 := .v 2) (ifs := []) (i := 4) (j := 5) (r := [some (.dat g.d 0), some (.dat (phD ph) 0), some (.dat (phD qh) 0), some (.dat (.int y) 0), none, none]) (c := fun _ _ => true) (f := fun a b => .list [(Cl.apart b a y).d]) (mm := 2) (m := 0) (m1 := 0)
    (by simp [W.fz]) (fun a _ => by simp [W.fz]) (fun a _ b _ => by
      refine step_one ?_
      simp [lstE, tupE, consE, W.fz, datAll, LIM, dOf, isL, Cl.d]) (by have := h.l2; omega) (by have := hq.l2; omega) fun _ _ => .inr (by simp)
  refine run_rt (S1 := S) (us := [.dat g.d 0, .dat (phD ph) 0, .dat (phD qh) 0, .dat (.int y) 0]) (by simp [fn_ended_before, inWs, inW, W.fz]) ?_
  have hb : fn_ended_before.body = [.ex (.call "check_both" [.v 0, .v 1, .v 2]), .ex (.call "check_years" [.v 3]), .ret (.comp2 (.lst [.tup [.c (.str "apart"), .v 5, .v 4, .v 3]]) 4 (.v 1) 5 (.v 2) [])] := rfl
  rw [hb, x_cons]
  refine (seq_nx (r1 := [some (.dat g.d 0), some (.dat (phD ph) 0), some (.dat (phD qh) 0), some (.dat (.int y) 0), none, none]) (S1 := S) ?_).trans ?_
  · simp [exE, callE, consE, W.fz, c_check_both, c1, fn_ended_before, useR_same, fzAll]
  rw [x_cons]
  refine (seq_nx (r1 := [some (.dat g.d 0), some (.dat (phD ph) 0), some (.dat (phD qh) 0), some (.dat (.int y) 0), none, none]) (S1 := S) ?_).trans ?_
  · simp [exE, callE, consE, W.fz, c_check_years, c2, fn_ended_before, useR_same, fzAll]
  rw [x_cons]
  refine seq_rt ?_
  rw [x_ret]
  refine ret_of (e.trans ?_)
  unfold fD fEnd
  simp only [List.map_flatMap, List.map_map, fil_true]
  rfl
theorem r_over {g : Dg} {p : Int → Int} {ph qh : List Nat} (hg : g.Ok) (hp : Pot g p) (h : PhOk g.n ph) (hq : PhOk g.n qh) (dj : ∀ i ∈ qh, i ∉ ph) : fn_overlapped.run (FT tab gl (k + 11)) gl [.dat g.d m, .dat (phD ph) m1, .dat (phD qh) m2] S = some (.dat (fD (fOver ph qh)) 1, S) := by
  have c1 := r_check_both (k := k) (m := 0) (m1 := 0) (m2 := 0) (S := S) hg hp h hq dj
  have e := comp2_ints (F := FT tab gl (k + 11)) (S := S) (ph := ph) (qh := qh) (elt := .tup [.c (.str "apart"), .v 5, .v 4, .c (.int 0)]) (it := .v 1) (it2 := .v 2) (ifs := []) (i := 4) (j := 5) (r := [some (.dat g.d 0), some (.dat (phD ph) 0), some (.dat (phD qh) 0), none, none, none]) (c := fun _ _ => true) (f := fun a b => (Cl.apart b a 0).d) (mm := 0) (m := 0) (m1 := 0)
    (by simp [W.fz]) (fun a _ => by simp [W.fz]) (fun a _ b _ => by
      refine step_one ?_
      simp [tupE, consE, W.fz, datAll, LIM, Cl.d]) (by have := h.l2; omega) (by have := hq.l2; omega) fun _ _ => .inl rfl
  have e2 := fun (X : PyData) => comp2_ints (F := FT tab gl (k + 11)) (S := S) (ph := ph) (qh := qh) (elt := .tup [.c (.str "apart"), .v 5, .v 4, .c (.int 0)]) (it := .v 1) (it2 := .v 2) (ifs := []) (i := 5) (j := 4) (r := [some (.dat g.d 0), some (.dat (phD ph) 0), some (.dat (phD qh) 0), some (.dat X 2), none, none]) (c := fun _ _ => true) (f := fun a b => (Cl.apart a b 0).d) (mm := 0) (m := 0) (m1 := 0)
    (by simp [W.fz]) (fun a _ => by simp [W.fz]) (fun a _ b _ => by
      refine step_one ?_
      simp [tupE, consE, W.fz, datAll, LIM, Cl.d]) (by have := h.l2; omega) (by have := hq.l2; omega) fun _ _ => .inl rfl
  refine run_rt (S1 := S) (us := [.dat g.d 0, .dat (phD ph) 0, .dat (phD qh) 0]) (by simp [fn_overlapped, inWs, inW, W.fz]) ?_
  have hb : fn_overlapped.body = [.ex (.call "check_both" [.v 0, .v 1, .v 2]), .asg 3 (.comp2 (.tup [.c (.str "apart"), .v 5, .v 4, .c (.int 0)]) 4 (.v 1) 5 (.v 2) []),
    .ret (.lst [.v 3, .comp2 (.tup [.c (.str "apart"), .v 5, .v 4, .c (.int 0)]) 5 (.v 1) 4 (.v 2) []])] := rfl
  rw [hb, x_cons]
  refine (seq_nx (r1 := [some (.dat g.d 0), some (.dat (phD ph) 0), some (.dat (phD qh) 0), none, none, none]) (S1 := S) ?_).trans ?_
  · simp [exE, callE, consE, W.fz, c_check_both, c1, fn_overlapped, useR_same, fzAll]
  rw [x_cons]
  refine (seq_nx (x_asg.trans ((asg_of e).trans (by rw [useR_same rfl])))).trans ?_
  rw [x_cons]
  refine seq_rt ?_
  rw [x_ret]
  refine ret_of ?_
  rw [e_lst]
  unfold lstE
  rw [e_cons, show consE _ _ _ S = some ([_, _], S) from cons_of (by rw [e_v]; rfl) (by rw [e_cons]; exact cons_of (e2 _) e_nil)]
  simp only [W.fz, datAll]
  rw [if_pos (by show 2 ≤ LIM; decide)]
  unfold fD fOver
  simp only [List.map_flatMap, List.map_map, fil_true, List.map_cons, List.map_nil]
  rfl
end K81
end

section
set_option maxRecDepth 100000
/-! K81L: within. -/
namespace K81
open PySem MP
variable {k : Nat} {S : Sto} {m m1 m2 m3 : Nat}

def bodyW : List Sm := [.extd 4 (.lst [.lst [.tup [.c (.str "since"), .v 5, .v 2]], .lst [.tup [.c (.str "until"), .v 5, .v 3]]])]
theorem w_step {F : Fns} {X P : PyData} {b e : Int} {i n : Nat} {xs : List PyData} (hl : xs.length ≤ 1000) :
    exSs F gl bodyW [some (.dat X 0), some (.dat P 0), some (.dat (.int b) 0), some (.dat (.int e) 0), some (.dat (.list xs) (n + 1)), some (.dat (.int (i : Nat)) 0)] S =
      some (.nx [some (.dat X 0), some (.dat P 0), some (.dat (.int b) 0), some (.dat (.int e) 0), some (.dat (.list (xs ++ [.list [(Cl.since i b).d], .list [(Cl.till i e).d]])) 1), some (.dat (.int (i : Nat)) 0)] S) := by
  have h1 : xs.length + 2 ≤ LIM := by
    have : LIM = 100000 := rfl
    omega
  have e1 : evE F gl (.lst [.lst [.tup [.c (.str "since"), .v 5, .v 2]], .lst [.tup [.c (.str "until"), .v 5, .v 3]]]) [some (.dat X 0), some (.dat P 0), some (.dat (.int b) 0), some (.dat (.int e) 0), some (.dat (.list xs) (n + 1)), some (.dat (.int (i : Nat)) 0)] S = some (.dat (.list [.list [(Cl.since i b).d], .list [(Cl.till i e).d]]) 2, S) := by
    simp [lstE, tupE, consE, W.fz, datAll, LIM, dOf, isL, Cl.d]
  have k1 : (W.dat (.list [.list [(Cl.since i b).d], .list [(Cl.till i e).d]]) 2).keep = true := by
    simp [W.keep, full, fullAll, Cl.d, nolAll, nol]
  have k2 : nolAll [PyData.list [(Cl.since i b).d], .list [(Cl.till i e).d]] = false := by simp [nolAll, nol]
  unfold bodyW
  rw [x_cons]
  refine (seq_nx (x_extd.trans ?_)).trans x_nil
  unfold extdE
  rw [e1]
  dsimp only
  rw [useR_keep k1]
  simp only [List.getElem?_cons_succ, List.getElem?_cons_zero]
  refine (if_pos h1).trans ?_
  rw [k2]
  rfl
theorem fIn_len {b e : Int} : ∀ l : List Nat, (fIn l b e).length ≤ 2 * l.length
  | [] => Nat.le_refl _
  | a :: l => by
    have := fIn_len (b := b) (e := e) l
    unfold fIn at this ⊢
    rw [List.flatMap_cons, List.length_append, List.length_cons]
    simp only [List.length_cons, List.length_nil]
    omega
theorem r_within {g : Dg} {p : Int → Int} {ph : List Nat} {b e : Int} (hg : g.Ok) (hp : Pot g p) (h : PhOk g.n ph) (b1 : -199998 ≤ b) (b2 : b ≤ 199998) (e1 : -199998 ≤ e) (e2 : e ≤ 199998) : ∃ m', fn_within.run (FT tab gl (k + 10)) gl [.dat g.d m, .dat (phD ph) m1, .dat (.int b) m2, .dat (.int e) m3] S = some (.dat (fD (fIn ph b e)) (m' + 1), S) := by
  have c1 := r_check_phase (k := k) (m := 0) (m1 := 0) (m2 := 0) (l := 1) (S := S) hg hp h (by have := h.l1; omega)
  have c2 := r_check_years (k := k + 8) (m := 0) (S := S) b b1 b2
  have c3 := r_check_years (k := k + 8) (m := 0) (S := S) e e1 e2
  have l2 := h.l2
  have hb : fn_within.body = [.ex (.call "check_phase" [.v 0, .v 1]), .ex (.call "check_years" [.v 2]), .ex (.call "check_years" [.v 3]), .asg 4 (.lst []), .loopV [5] true .seq 1 bodyW, .retV 4] := rfl
  obtain ⟨r', S', g1, e0, n, o, e3⟩ := forGo_all (tg := [5]) (one := true) (body := exSs (FT tab gl (k + 10)) gl bodyW) (xs := ph.map fun i => PyData.int (i : Nat)) (r := [some (.dat g.d 0), some (.dat (phD ph) 0), some (.dat (.int b) 0), some (.dat (.int e) 0), some (.dat (.list []) 2), none]) (S := S)
    (P := fun rest r S' => S' = S ∧ ∃ n o, ∃ dn td : List Nat, dn ++ td = ph ∧ rest = td.map (fun i => PyData.int (i : Nat)) ∧ r = [some (.dat g.d 0), some (.dat (phD ph) 0), some (.dat (.int b) 0), some (.dat (.int e) 0), some (.dat (.list ((fIn dn b e).map fun c => .list (c.map Cl.d))) (n + 1)), o])
    ⟨rfl, 1, none, [], ph, rfl, rfl, rfl⟩ fun x xs r S' ⟨e0, n, o, dn, td, e1, e2, e3⟩ => by
      subst e0
      subst e3
      match td, e2 with
      | i :: td, e2 =>
        injection e2 with e4 e5
        subst e4
        refine ⟨_, rfl, _, _, .inl (w_step (n := n) ?_), rfl, 0, some (.dat (.int (i : Nat)) 0), dn ++ [i], td, by rw [← e1, List.append_assoc]; rfl, e5, ?_⟩
        · have := fIn_len (b := b) (e := e) dn
          have hd : dn.length ≤ ph.length := by
            rw [← e1, List.length_append]
            omega
          rw [List.length_map]
          omega
        · unfold fIn
          simp only [List.flatMap_append, List.map_append]
          rfl
  obtain ⟨dn, td, e4, e5, e6⟩ := e3
  have e7 : td = [] := by
    cases td with
    | nil => rfl
    | cons a l => cases e5
  subst e7
  rw [List.append_nil] at e4
  subst e4
  subst e0
  subst e6
  refine ⟨n, run_rt (S1 := S') (us := [.dat g.d 0, .dat (phD dn) 0, .dat (.int b) 0, .dat (.int e) 0]) (by simp [fn_within, inWs, inW, W.fz]) ?_⟩
  rw [hb, x_cons]
  refine (seq_nx (r1 := [some (.dat g.d 0), some (.dat (phD dn) 0), some (.dat (.int b) 0), some (.dat (.int e) 0), none, none]) (S1 := S') ?_).trans ?_
  · simp [exE, callE, consE, W.fz, c_check_phase_2, c1, fn_within, useR_same, fzAll]
  rw [x_cons]
  refine (seq_nx (r1 := [some (.dat g.d 0), some (.dat (phD dn) 0), some (.dat (.int b) 0), some (.dat (.int e) 0), none, none]) (S1 := S') ?_).trans ?_
  · simp [exE, callE, consE, W.fz, c_check_years, c2, fn_within, useR_same, fzAll]
  rw [x_cons]
  refine (seq_nx (r1 := [some (.dat g.d 0), some (.dat (phD dn) 0), some (.dat (.int b) 0), some (.dat (.int e) 0), none, none]) (S1 := S') ?_).trans ?_
  · simp [exE, callE, consE, W.fz, c_check_years, c3, fn_within, useR_same, fzAll]
  rw [x_cons]
  refine (seq_nx (r1 := [some (.dat g.d 0), some (.dat (phD dn) 0), some (.dat (.int b) 0), some (.dat (.int e) 0), some (.dat (.list []) 2), none]) (S1 := S') ?_).trans ?_
  · simp [asgE, lstE, datAll, LIM, dOf, useR_same, fzAll, W.fz]
  rw [x_cons]
  refine (seq_nx (x_loopV.trans ((loopV_of (w := .dat (phD dn) 0) (ys := dn.map fun i => PyData.int (i : Nat)) rfl rfl (by rw [List.length_map]; exact Nat.le_trans l2 (by decide))).trans g1))).trans ?_
  rw [x_cons]
  refine seq_rt ?_
  rw [x_retV]
  rfl
end K81
end

section
set_option maxRecDepth 100000
/-! K81M: draws. -/
namespace K81
open PySem MP
variable {k : Nat} {S : Sto} {m m1 m2 m3 : Nat}

/-- the pot at place l -/
def PotAt (l : Nat) (S : Sto) : Prop := ∃ a b : Int, S[l]? = some [.int a, .int b] ∧ 0 ≤ a ∧ 0 ≤ b ∧ b ≤ 2147483563
theorem pot_set {l : Nat} {xs ys : List PyData} (h : S[l]? = some xs) : (S.set l ys)[l]? = some ys := List.getElem?_set_self (List.getElem?_eq_some_iff.mp h).1
theorem fmod_rng {i j : Int} (h : 0 < j) : 0 ≤ i.fmod j ∧ i.fmod j < j := by
  rw [Int.fmod_eq_emod_of_nonneg i (by omega)]
  exact ⟨Int.emod_nonneg _ (by omega), Int.emod_lt_of_pos _ h⟩
theorem r_draw {F : Fns} {l : Nat} {n : Int} (hp : PotAt l S) (h1 : 0 < n) (h2 : n < 1073741824) : ∃ d S', fn_law_draw.run F gl [.loc l, .dat (.int n) m] S = some (.dat (.int d) 0, S') ∧ 0 ≤ d ∧ d < n ∧ PotAt l S' := by
  obtain ⟨a, b, hS, ha, hb, hb2⟩ := hp
  have hb' : fn_law_draw.body = [.ifs (.cmp .gt (.idx (.v 0) (.c (.int 0))) (.c (.int 0))) [.asgT [.sub 0 0, .nm 2] (.bi .divmod [.idx (.v 0) (.c (.int 0)), .v 1]), .retV 2] [],
   .setI 0 (.c (.int 1)) (.bin .mod (.bi .int [.bin .add (.bin .mul (.idx (.v 0) (.c (.int 1))) (.c (.int 40014))) (.c (.int 1423))]) (.c (.int 2147483563))),
   .ret (.bin .mod (.bi .int [.bin .fdiv (.bin .mod (.bi .int [.bin .mul (.idx (.v 0) (.c (.int 1))) (.idx (.v 0) (.c (.int 1)))]) (.c (.int 2147483549))) (.c (.int 17))]) (.v 1))] := rfl
  have i0 : ∀ T : Sto, ∀ x y : Int, T[l]? = some [.int x, .int y] → idxop T (.loc l) (.int 0) = some (.int x) ∧ idxop T (.loc l) (.int 1) = some (.int y) := fun T x y hT => by
    constructor <;> (simp only [idxop]; rw [hT]; rfl)
  have e0 := (i0 S a b hS).1
  have e1 := (i0 S a b hS).2
  by_cases h : 0 < a
  · refine ⟨a % n, S.set l [.int (a / n), .int b], run_rt (S1 := S) (us := [.loc l, .dat (.int n) 0]) (by simp [fn_law_draw, inWs, inW, W.fz]) ?_, Int.emod_nonneg _ (by omega), Int.emod_lt_of_pos _ h1, a / n, b, pot_set hS, Int.ediv_nonneg ha (by omega), hb, hb2⟩
    show exSs F gl fn_law_draw.body [some (.loc l), some (.dat (.int n) 0), none] S = _
    rw [hb', x_cons]
    refine seq_rt ?_
    rw [x_ifs]
    refine (if_t (m := 0) (S1 := S) (by simp [cmpE, idxE, W.fz, e0, cmpop, h, fn_law_draw])).trans ?_
    rw [x_cons]
    have ed : biop S .divmod [.dat (.int a) 0, .dat (.int n) 0] = some (.dat (.tuple [.int (a / n), .int (a % n)]) 0) := by
      show (if 0 < n ∧ n < 1073741824 then some (W.dat (.tuple [.int (a / n), .int (a % n)]) 0) else none) = _
      rw [if_pos ⟨h1, h2⟩]
    refine (seq_nx (r1 := [some (.loc l), some (.dat (.int n) 0), some (.dat (.int (a % n)) 0)]) (S1 := S.set l [.int (a / n), .int b]) ?_).trans ?_
    · rw [x_asgT]
      unfold asgTE
      rw [show evE F gl (.bi .divmod [.idx (.v 0) (.c (.int 0)), .v 1]) [some (.loc l), some (.dat (.int n) 0), none] S = some (.dat (.tuple [.int (a / n), .int (a % n)]) 0, S) by simp [biE, consE, idxE, W.fz, e0, ed, fn_law_draw]]
      simp [asgQ, useR_same, fzAll, W.fz, hS, ixD, nol, fn_law_draw]
    rw [x_cons]
    refine seq_rt ?_
    rw [x_retV]
    rfl
  · obtain ⟨c1, c2⟩ := fmod_rng (i := b * 40014 + 1423) (j := 2147483563) (by decide)
    obtain ⟨d1, d2⟩ := fmod_rng (i := ((((b * 40014 + 1423).fmod 2147483563) * ((b * 40014 + 1423).fmod 2147483563)).fmod 2147483549).fdiv 17) (j := n) h1
    have hS2 : (S.set l [.int a, .int ((b * 40014 + 1423).fmod 2147483563)])[l]? = some [.int a, .int ((b * 40014 + 1423).fmod 2147483563)] := pot_set hS
    have e2 := (i0 _ _ _ hS2).2
    have s1 : small b = true := by
      unfold small
      exact decide_eq_true ⟨by omega, by omega⟩
    have s2 : small ((b * 40014 + 1423).fmod 2147483563) = true := by
      unfold small
      exact decide_eq_true ⟨by omega, by omega⟩
    have n0 : n ≠ 0 := by omega
    refine ⟨_, _, run_rt (S1 := S) (us := [.loc l, .dat (.int n) 0]) (by simp [fn_law_draw, inWs, inW, W.fz]) ?_, d1, d2, a, _, hS2, ha, c1, by omega⟩
    show exSs F gl fn_law_draw.body [some (.loc l), some (.dat (.int n) 0), none] S = _
    rw [hb', x_cons]
    refine (seq_nx (r1 := [some (.loc l), some (.dat (.int n) 0), none]) (S1 := S) ?_).trans ?_
    · rw [x_ifs]
      exact (if_f (m := 0) (S1 := S) (by simp [cmpE, idxE, W.fz, e0, cmpop, h, fn_law_draw])).trans x_nil
    rw [x_cons]
    refine (seq_nx (r1 := [some (.loc l), some (.dat (.int n) 0), none]) (S1 := S.set l [.int a, .int ((b * 40014 + 1423).fmod 2147483563)]) ?_).trans ?_
    · rw [x_setI]
      unfold setIE
      rw [show evE F gl (.bin .mod (.bi .int [.bin .add (.bin .mul (.idx (.v 0) (.c (.int 1))) (.c (.int 40014))) (.c (.int 1423))]) (.c (.int 2147483563))) [some (.loc l), some (.dat (.int n) 0), none] S = some (.dat (.int ((b * 40014 + 1423).fmod 2147483563)) 0, S) by simp [binE, biE, consE, idxE, W.fz, e1, binop, s1, biop]]
      simp [nol, hS, ixD]
    rw [x_cons]
    refine seq_rt ?_
    rw [x_ret]
    refine ret_of ?_
    simp [binE, biE, consE, idxE, W.fz, e2, binop, s2, biop, n0]
end K81
end

section
set_option maxRecDepth 100000
/-! K81N: a drawn link, a drawn find. -/
namespace K81
open PySem MP
variable {k : Nat} {S : Sto} {m m1 m2 m3 : Nat}

/-- a draw as an expression -/
theorem e_draw {l : Nat} {n : Int} {r : Rho} {e : E} (h0 : r[0]? = some (some (.loc l))) (he : ∀ T : Sto, evE (FT tab gl (k + 1)) gl e r T = some (.dat (.int n) 0, T)) (hp : PotAt l S) (h1 : 0 < n) (h2 : n < 1073741824) :
    ∃ d S', evE (FT tab gl (k + 1)) gl (.call "_law_draw" [.v 0, e]) r S = some (.dat (.int d) 0, S') ∧ 0 ≤ d ∧ d < n ∧ PotAt l S' := by
  obtain ⟨d, S', e1, d1, d2, p⟩ := r_draw (F := FT tab gl k) (m := 0) hp h1 h2
  refine ⟨d, S', ?_, d1, d2, p⟩
  rw [e_call]
  refine call_of (S1 := S) (ws := [.loc l, .dat (.int n) 0]) ?_ ?_
  · rw [e_cons]
    refine cons_of (S1 := S) (w := .loc l) ?_ ?_
    · rw [e_v, h0]
      rfl
    · rw [e_cons]
      exact cons_of (he S) e_nil
  · rw [c_law_draw]
    exact e1
theorem r_link {l : Nat} {n : Int} (hp : PotAt l S) (h1 : 1 < n) (h2 : n ≤ 4) : ∃ u w g S', fn_law_link.run (FT tab gl (k + 1)) gl [.loc l, .dat (.int n) m] S = some (.dat (lkD (some (u, w, g))) 0, S') ∧ LkOk n (some (u, w, g)) ∧ (-4 ≤ g ∧ g ≤ 4) ∧ PotAt l S' := by
  obtain ⟨u, S1, e1, u1, u2, p1⟩ := e_draw (k := k) (l := l) (n := n) (r := [some (.loc l), some (.dat (.int n) 0), none]) (e := .v 1) rfl (fun T => by simp [W.fz]) hp (by omega) (by omega)
  obtain ⟨d, S2, e2, d1, d2, p2⟩ := e_draw (k := k) (l := l) (n := n - 1) (r := [some (.loc l), some (.dat (.int n) 0), some (.dat (.int u) 0)]) (e := .bin .sub (.v 1) (.c (.int 1))) rfl (fun T => by simp [binE, W.fz, binop]) p1 (by omega) (by omega)
  obtain ⟨q, S3, e3, q1, q2, p3⟩ := e_draw (k := k) (l := l) (n := 9) (r := [some (.loc l), some (.dat (.int n) 0), some (.dat (.int u) 0)]) (e := .c (.int 9)) rfl (fun T => by simp) p2 (by omega) (by omega)
  have n0 : n ≠ 0 := by omega
  have fm := fmod_rng (i := u + 1 + d) (j := n) (by omega)
  have ne : u ≠ (u + 1 + d).fmod n := by
    rw [Int.fmod_eq_emod_of_nonneg _ (by omega)]
    have : n = 2 ∨ n = 3 ∨ n = 4 := by omega
    rcases this with rfl | rfl | rfl <;> omega
  refine ⟨u, (u + 1 + d).fmod n, q - 4, S3, run_rt (S1 := S) (us := [.loc l, .dat (.int n) 0]) (by simp [fn_law_link, inWs, inW, W.fz]) ?_, ⟨⟨u1, by omega⟩, ⟨fm.1, by omega⟩, ne, by omega, by omega⟩, ⟨by omega, by omega⟩, p3⟩
  have hb : fn_law_link.body = [.asg 2 (.call "_law_draw" [.v 0, .v 1]), .ret (.tup [.v 2, .bin .mod (.bi .int [.bin .add (.bin .add (.v 2) (.c (.int 1))) (.call "_law_draw" [.v 0, .bin .sub (.v 1) (.c (.int 1))])]) (.v 1), .bin .sub (.call "_law_draw" [.v 0, .c (.int 9)]) (.c (.int 4))])] := rfl
  show exSs (FT tab gl (k + 1)) gl fn_law_link.body [some (.loc l), some (.dat (.int n) 0), none] S = _
  rw [hb, x_cons]
  refine (seq_nx (r1 := [some (.loc l), some (.dat (.int n) 0), some (.dat (.int u) 0)]) (S1 := S1) (x_asg.trans ((asg_of e1).trans (by rw [useR_same rfl]; rfl)))).trans ?_
  rw [x_cons]
  refine seq_rt ?_
  rw [x_ret]
  refine ret_of ?_
  have g1 : evE (FT tab gl (k + 1)) gl (.bin .mod (.bi .int [.bin .add (.bin .add (.v 2) (.c (.int 1))) (.call "_law_draw" [.v 0, .bin .sub (.v 1) (.c (.int 1))])]) (.v 1)) [some (.loc l), some (.dat (.int n) 0), some (.dat (.int u) 0)] S1 = some (.dat (.int ((u + 1 + d).fmod n)) 0, S2) := by
    have a1 : evE (FT tab gl (k + 1)) gl (.bin .add (.bin .add (.v 2) (.c (.int 1))) (.call "_law_draw" [.v 0, .bin .sub (.v 1) (.c (.int 1))])) [some (.loc l), some (.dat (.int n) 0), some (.dat (.int u) 0)] S1 = some (.dat (.int (u + 1 + d)) 0, S2) := by
      rw [e_bin]
      exact bin_of (d := .int (u + 1)) (m := 0) (by simp [binE, W.fz, binop]) e2 rfl
    rw [e_bin]
    refine bin_of (d := .int (u + 1 + d)) (e := .int n) (m := 0) (m2 := 0) (S1 := S2) ?_ (by simp [W.fz]) ?_
    · rw [e_bi]
      unfold biE
      rw [show evEs (FT tab gl (k + 1)) gl [.bin .add (.bin .add (.v 2) (.c (.int 1))) (.call "_law_draw" [.v 0, .bin .sub (.v 1) (.c (.int 1))])] [some (.loc l), some (.dat (.int n) 0), some (.dat (.int u) 0)] S1 = some ([.dat (.int (u + 1 + d)) 0], S2) by rw [e_cons]; exact cons_of a1 e_nil]
      rfl
    · simp [binop, n0]
  have g2 : evE (FT tab gl (k + 1)) gl (.bin .sub (.call "_law_draw" [.v 0, .c (.int 9)]) (.c (.int 4))) [some (.loc l), some (.dat (.int n) 0), some (.dat (.int u) 0)] S2 = some (.dat (.int (q - 4)) 0, S3) := by
    rw [e_bin]
    exact bin_of e3 e_c rfl
  rw [e_tup]
  unfold tupE
  rw [show evEs (FT tab gl (k + 1)) gl [.v 2, .bin .mod (.bi .int [.bin .add (.bin .add (.v 2) (.c (.int 1))) (.call "_law_draw" [.v 0, .bin .sub (.v 1) (.c (.int 1))])]) (.v 1), .bin .sub (.call "_law_draw" [.v 0, .c (.int 9)]) (.c (.int 4))] [some (.loc l), some (.dat (.int n) 0), some (.dat (.int u) 0)] S1 = some ([.dat (.int u) 0, .dat (.int ((u + 1 + d).fmod n)) 0, .dat (.int (q - 4)) 0], S3) by
    rw [e_cons]
    refine cons_of (w := .dat (.int u) 0) (S1 := S1) (by simp [W.fz]) ?_
    rw [e_cons]
    refine cons_of g1 ?_
    rw [e_cons]
    exact cons_of g2 e_nil]
  simp [datAll, LIM, lkD]
end K81
end

section
set_option maxRecDepth 100000
/-! K81O: a drawn find. -/
namespace K81
open PySem MP
variable {k : Nat} {S : Sto} {m m1 m2 m3 : Nat}

theorem r_pick {l : Nat} (hp : PotAt l S) : ∃ s S', fn_law_pick.run (FT tab gl (k + 1)) gl [.loc l, .dat (.list [.str "after", .str "before"]) m] S = some (.dat (.str s) 0, S') ∧ (s = "after" ∨ s = "before") ∧ PotAt l S' := by
  obtain ⟨d, S1, e1, d1, d2, p1⟩ := e_draw (k := k) (l := l) (n := 2) (r := [some (.loc l), some (.dat (.list [.str "after", .str "before"]) 0)]) (e := .bi .len [.v 1]) rfl (fun T => by simp [biE, consE, W.fz, biop, LIM]) hp (by omega) (by omega)
  have hb : fn_law_pick.body = [.ret (.idx (.v 1) (.call "_law_draw" [.v 0, .bi .len [.v 1]]))] := rfl
  have hd : d = 0 ∨ d = 1 := by omega
  have fin : ∀ s, idxop S1 (.dat (.list [.str "after", .str "before"]) 0) (.int d) = some (.str s) → fn_law_pick.run (FT tab gl (k + 1)) gl [.loc l, .dat (.list [.str "after", .str "before"]) m] S = some (.dat (.str s) 0, S1) := fun s hs => by
    refine run_rt (S1 := S) (us := [.loc l, .dat (.list [.str "after", .str "before"]) 0]) (by simp [fn_law_pick, inWs, inW, W.fz]) ?_
    show exSs (FT tab gl (k + 1)) gl fn_law_pick.body [some (.loc l), some (.dat (.list [.str "after", .str "before"]) 0)] S = _
    rw [hb, x_cons]
    refine seq_rt ?_
    rw [x_ret]
    refine ret_of ?_
    rw [e_idx]
    unfold idxE
    rw [show evE (FT tab gl (k + 1)) gl (.v 1) [some (.loc l), some (.dat (.list [.str "after", .str "before"]) 0)] S = some (.dat (.list [.str "after", .str "before"]) 0, S) by simp [W.fz]]
    simp only [e1, hs]
  rcases hd with rfl | rfl
  · exact ⟨"after", S1, fin _ (by simp [idxop, ixD]), .inl rfl, p1⟩
  · exact ⟨"before", S1, fin _ (by simp [idxop, ixD]), .inr rfl, p1⟩
theorem r_find {l : Nat} {n b e : Int} (hp : PotAt l S) (h1 : 1 ≤ n) (h2 : n ≤ 4) (b1 : -20 ≤ b) (b2 : b ≤ 20) (e1 : b ≤ e) (e2 : e ≤ b + 4) : ∃ f S', fn_law_find.run (FT tab gl (k + 2)) gl [.loc l, .dat (.int n) m, .dat (.tuple [.int b, .int e]) m1] S = some (.dat f 0, S') ∧ FdOk n f ∧ PotAt l S' ∧ tame 1 f = true := by
  obtain ⟨y, S1, q1, y1, y2, p1⟩ := e_draw (k := k + 1) (l := l) (n := e - b + 5) (r := [some (.loc l), some (.dat (.int n) 0), some (.dat (.tuple [.int b, .int e]) 0), none]) (e := .bin .add (.bin .sub (.idx (.v 2) (.c (.int 1))) (.idx (.v 2) (.c (.int 0)))) (.c (.int 5))) rfl (fun T => by simp [binE, idxE, W.fz, idxop, ixD, binop]) hp (by omega) (by omega)
  obtain ⟨s, S2, q2, hs, p2⟩ := r_pick (k := k) (m := 2) p1
  obtain ⟨i, S3, q3, i1, i2, p3⟩ := e_draw (k := k + 1) (l := l) (n := n) (r := [some (.loc l), some (.dat (.int n) 0), some (.dat (.tuple [.int b, .int e]) 0), some (.dat (.int (b - 2 + y)) 0)]) (e := .v 1) rfl (fun T => by simp [W.fz]) p2 (by omega) (by omega)
  obtain ⟨t, S4, q4, t1, t2, p4⟩ := e_draw (k := k + 1) (l := l) (n := 4) (r := [some (.loc l), some (.dat (.int n) 0), some (.dat (.tuple [.int b, .int e]) 0), some (.dat (.int (b - 2 + y)) 0)]) (e := .c (.int 4)) rfl (fun T => by simp) p3 (by omega) (by omega)
  have hb : fn_law_find.body = [.asg 3 (.bin .add (.bin .sub (.idx (.v 2) (.c (.int 0))) (.c (.int 2))) (.call "_law_draw" [.v 0, .bin .add (.bin .sub (.idx (.v 2) (.c (.int 1))) (.idx (.v 2) (.c (.int 0)))) (.c (.int 5))])),
    .ret (.tup [.call "_law_pick" [.v 0, .lst [.c (.str "after"), .c (.str "before")]], .call "_law_draw" [.v 0, .v 1], .v 3, .bin .add (.c (.int 1)) (.call "_law_draw" [.v 0, .c (.int 4)])])] := rfl
  have a1 : evE (FT tab gl (k + 2)) gl (.bin .add (.bin .sub (.idx (.v 2) (.c (.int 0))) (.c (.int 2))) (.call "_law_draw" [.v 0, .bin .add (.bin .sub (.idx (.v 2) (.c (.int 1))) (.idx (.v 2) (.c (.int 0)))) (.c (.int 5))])) [some (.loc l), some (.dat (.int n) 0), some (.dat (.tuple [.int b, .int e]) 0), none] S = some (.dat (.int (b - 2 + y)) 0, S1) := by
    rw [e_bin]
    exact bin_of (d := .int (b - 2)) (m := 0) (S1 := S) (by simp [binE, idxE, W.fz, idxop, ixD, binop]) q1 rfl
  have a2 : evE (FT tab gl (k + 2)) gl (.call "_law_pick" [.v 0, .lst [.c (.str "after"), .c (.str "before")]]) [some (.loc l), some (.dat (.int n) 0), some (.dat (.tuple [.int b, .int e]) 0), some (.dat (.int (b - 2 + y)) 0)] S1 = some (.dat (.str s) 0, S2) := by
    rw [e_call]
    refine call_of (S1 := S1) (ws := [.loc l, .dat (.list [.str "after", .str "before"]) 2]) (by simp [consE, W.fz, lstE, datAll, LIM, dOf, isL]) ?_
    rw [c_law_pick]
    exact q2
  have a3 : evE (FT tab gl (k + 2)) gl (.bin .add (.c (.int 1)) (.call "_law_draw" [.v 0, .c (.int 4)])) [some (.loc l), some (.dat (.int n) 0), some (.dat (.tuple [.int b, .int e]) 0), some (.dat (.int (b - 2 + y)) 0)] S3 = some (.dat (.int (1 + t)) 0, S4) := by
    rw [e_bin]
    exact bin_of e_c q4 rfl
  refine ⟨.tuple [.str s, .int i, .int (b - 2 + y), .int (1 + t)], S4, run_rt (S1 := S) (us := [.loc l, .dat (.int n) 0, .dat (.tuple [.int b, .int e]) 0]) (by simp [fn_law_find, inWs, inW, W.fz]) ?_, .inr ⟨s, i, b - 2 + y, 1 + t, rfl, hs, ⟨i1, by omega⟩, ⟨by omega, by omega⟩, ⟨by omega, by omega⟩⟩, p4, ?_⟩
  · show exSs (FT tab gl (k + 2)) gl fn_law_find.body [some (.loc l), some (.dat (.int n) 0), some (.dat (.tuple [.int b, .int e]) 0), none] S = _
    rw [hb, x_cons]
    refine (seq_nx (r1 := [some (.loc l), some (.dat (.int n) 0), some (.dat (.tuple [.int b, .int e]) 0), some (.dat (.int (b - 2 + y)) 0)]) (S1 := S1) (x_asg.trans ((asg_of a1).trans (by rw [useR_same rfl]; rfl)))).trans ?_
    rw [x_cons]
    refine seq_rt ?_
    rw [x_ret]
    refine ret_of ?_
    rw [e_tup]
    unfold tupE
    rw [e_cons, cons_of (S1 := S2) (S2 := S4) (ws := [.dat (.int i) 0, .dat (.int (b - 2 + y)) 0, .dat (.int (1 + t)) 0]) a2 (by
      rw [e_cons]
      refine cons_of (S2 := S4) q3 ?_
      rw [e_cons]
      refine cons_of (S1 := S3) (w := .dat (.int (b - 2 + y)) 0) (by simp [W.fz]) ?_
      rw [e_cons]
      exact cons_of a3 e_nil)]
    simp [datAll, LIM]
  · have ts : tame 0 (.str s) = true := by
      rcases hs with rfl | rfl <;> decide +kernel
    simp only [tame, tameAll, Bool.and_eq_true, decide_eq_true_eq] at ts ⊢
    refine ⟨⟨ts, ?_, ?_, ?_, trivial⟩, show 4 ≤ 12 by decide⟩ <;> omega
end K81
end

section
set_option maxRecDepth 100000
/-! K81P: the law's hard legs. -/
namespace K81
open PySem MP
variable {k : Nat} {S : Sto} {m m1 m2 m3 : Nat}

/-- a leg as data -/
def lg (x : PyData) (a c w : Int) : PyData := .tuple [x, .int a, .int c, .int w]
/-- all legs are legs of n layers; flat -/
def LgAll (n : Int) (ts : List PyData) : Prop := ∀ t ∈ ts, ∃ x a c w, t = lg x a c w ∧ (0 ≤ a ∧ a ≤ n) ∧ (0 ≤ c ∧ c ≤ n)
def hbody1 : List Sm := [.extd 5 (.lst [.tup [.tup [.c (.str "begin"), .v 6], .v 2, .v 6, .v 3], .tup [.tup [.c (.str "end"), .v 6], .v 6, .v 2, .bin .sub (.c (.int 0)) (.v 4)]])]
theorem h1_step {F : Fns} {X Y : PyData} {n b e : Int} {i q : Nat} {xs : List PyData} {o7 o8 o9 : Option W} (hl : xs.length ≤ 1000) :
    exSs F gl hbody1 [some (.dat X 0), some (.dat Y 0), some (.dat (.int n) 0), some (.dat (.int b) 0), some (.dat (.int e) 0), some (.dat (.list xs) (q + 1)), some (.dat (.int (i : Nat)) 0), o7, o8, o9] S =
      some (.nx [some (.dat X 0), some (.dat Y 0), some (.dat (.int n) 0), some (.dat (.int b) 0), some (.dat (.int e) 0), some (.dat (.list (xs ++ [lg (.tuple [.str "begin", .int (i : Nat)]) n i b, lg (.tuple [.str "end", .int (i : Nat)]) i n (0 - e)])) (q + 1)), some (.dat (.int (i : Nat)) 0), o7, o8, o9] S) := by
  have h1 : xs.length + 2 ≤ LIM := by
    have : LIM = 100000 := rfl
    omega
  have e1 : evE F gl (.lst [.tup [.tup [.c (.str "begin"), .v 6], .v 2, .v 6, .v 3], .tup [.tup [.c (.str "end"), .v 6], .v 6, .v 2, .bin .sub (.c (.int 0)) (.v 4)]]) [some (.dat X 0), some (.dat Y 0), some (.dat (.int n) 0), some (.dat (.int b) 0), some (.dat (.int e) 0), some (.dat (.list xs) (q + 1)), some (.dat (.int (i : Nat)) 0), o7, o8, o9] S = some (.dat (.list [lg (.tuple [.str "begin", .int (i : Nat)]) n i b, lg (.tuple [.str "end", .int (i : Nat)]) i n (0 - e)]) 2, S) := by
    simp [lstE, tupE, consE, W.fz, datAll, LIM, dOf, isL, lg, binE, binop]
  have k1 : (W.dat (.list [lg (.tuple [.str "begin", .int (i : Nat)]) n i b, lg (.tuple [.str "end", .int (i : Nat)]) i n (0 - e)]) 2).keep = true := by
    simp [W.keep, full, fullAll, lg, nolAll, nol]
  have k2 : nolAll [lg (.tuple [.str "begin", .int (i : Nat)]) n i b, lg (.tuple [.str "end", .int (i : Nat)]) i n (0 - e)] = true := by simp [nolAll, nol, lg]
  unfold hbody1
  rw [x_cons]
  refine (seq_nx (x_extd.trans ?_)).trans x_nil
  unfold extdE
  rw [e1]
  dsimp only
  rw [useR_keep k1]
  simp only [List.getElem?_cons_succ, List.getElem?_cons_zero]
  refine (if_pos h1).trans ?_
  rw [if_pos k2]
  rfl
def bes (n b e : Int) (l : List Nat) : List PyData := l.flatMap fun i => [lg (.tuple [.str "begin", .int (i : Nat)]) n i b, lg (.tuple [.str "end", .int (i : Nat)]) i n (0 - e)]
theorem bes_len {n b e : Int} : ∀ l : List Nat, (bes n b e l).length ≤ 2 * l.length
  | [] => Nat.le_refl _
  | a :: l => by
    have := bes_len (n := n) (b := b) (e := e) l
    unfold bes at this ⊢
    rw [List.flatMap_cons, List.length_append, List.length_cons]
    simp only [List.length_cons, List.length_nil]
    omega
theorem h1_loop {F : Fns} {X Y : PyData} {n b e : Int} {N q : Nat} (hN : N ≤ 40) : ∃ o, forGo [6] true (exSs F gl hbody1) ((List.range N).map fun i => PyData.int (i : Nat)) [some (.dat X 0), some (.dat Y 0), some (.dat (.int n) 0), some (.dat (.int b) 0), some (.dat (.int e) 0), some (.dat (.list []) (q + 1)), none, none, none, none] S =
    some (.nx [some (.dat X 0), some (.dat Y 0), some (.dat (.int n) 0), some (.dat (.int b) 0), some (.dat (.int e) 0), some (.dat (.list (bes n b e (List.range N))) (q + 1)), o, none, none, none] S) := by
  obtain ⟨r', S', g1, e0, o, dn, td, e4, e5, e6⟩ := forGo_all (tg := [6]) (one := true) (body := exSs F gl hbody1) (xs := (List.range N).map fun i => PyData.int (i : Nat)) (r := [some (.dat X 0), some (.dat Y 0), some (.dat (.int n) 0), some (.dat (.int b) 0), some (.dat (.int e) 0), some (.dat (.list []) (q + 1)), none, none, none, none]) (S := S)
    (P := fun rest r S' => S' = S ∧ ∃ o, ∃ dn td : List Nat, dn ++ td = List.range N ∧ rest = td.map (fun i => PyData.int (i : Nat)) ∧ r = [some (.dat X 0), some (.dat Y 0), some (.dat (.int n) 0), some (.dat (.int b) 0), some (.dat (.int e) 0), some (.dat (.list (bes n b e dn)) (q + 1)), o, none, none, none])
    ⟨rfl, none, [], List.range N, rfl, rfl, rfl⟩ fun x xs r S' ⟨e0, o, dn, td, e1, e2, e3⟩ => by
      subst e0
      subst e3
      match td, e2 with
      | i :: td, e2 =>
        injection e2 with e4 e5
        subst e4
        refine ⟨_, rfl, _, _, .inl (h1_step ?_), rfl, some (.dat (.int (i : Nat)) 0), dn ++ [i], td, by rw [← e1, List.append_assoc]; rfl, e5, ?_⟩
        · have := bes_len (n := n) (b := b) (e := e) dn
          have hd := congrArg List.length e1
          rw [List.length_append, List.length_range] at hd
          omega
        · unfold bes
          rw [List.flatMap_append]
          rfl
  have e7 : td = [] := by
    cases td with
    | nil => rfl
    | cons a l => cases e5
  subst e7
  rw [List.append_nil] at e4
  subst e0
  rw [e6, e4] at g1
  exact ⟨o, g1⟩
end K81
end

section
set_option maxRecDepth 100000
/-! K81Q: the links' legs. -/
namespace K81
open PySem MP
variable {k : Nat} {S : Sto} {m m1 m2 m3 : Nat}

def hbody2 : List Sm := [.ifs (.cmp .ne (.v 8) (.tup [])) [.app 5 (.tup [.tup [.c (.str "link"), .v 7], .idx (.v 8) (.c (.int 1)), .idx (.v 8) (.c (.int 0)), .idx (.v 8) (.c (.int 2))])] []]
/-- the legs of numbered links -/
def lks : List (Nat × Option (Int × Int × Int)) → List PyData
  | [] => []
  | (_, none) :: r => lks r
  | (i, some (u, l, w)) :: r => lg (.tuple [.str "link", .int (i : Nat)]) l u w :: lks r
theorem lks_app : ∀ a b, lks (a ++ b) = lks a ++ lks b
  | [], b => rfl
  | (_, none) :: r, b => lks_app r b
  | (i, some (u, l, w)) :: r, b => by
    show lg _ l u w :: lks (r ++ b) = lg _ l u w :: (lks r ++ lks b)
    rw [lks_app r b]
theorem lks_len : ∀ a, (lks a).length ≤ a.length
  | [] => Nat.le_refl _
  | (_, none) :: r => Nat.le_succ_of_le (lks_len r)
  | (i, some (u, l, w)) :: r => Nat.succ_le_succ (lks_len r)
theorem h2_step {F : Fns} {X Y : PyData} {n b e : Int} {i q : Nat} {z : Option (Int × Int × Int)} {xs : List PyData} {o6 o9 : Option W} (hl : xs.length ≤ 1000) :
    exSs F gl hbody2 [some (.dat X 0), some (.dat Y 0), some (.dat (.int n) 0), some (.dat (.int b) 0), some (.dat (.int e) 0), some (.dat (.list xs) (q + 1)), o6, some (.dat (.int (i : Nat)) 0), some (.dat (lkD z) 0), o9] S =
      some (.nx [some (.dat X 0), some (.dat Y 0), some (.dat (.int n) 0), some (.dat (.int b) 0), some (.dat (.int e) 0), some (.dat (.list (xs ++ lks [(i, z)])) (q + 1)), o6, some (.dat (.int (i : Nat)) 0), some (.dat (lkD z) 0), o9] S) := by
  have h1 : xs.length < LIM := by
    have : LIM = 100000 := rfl
    omega
  unfold hbody2
  rw [x_cons]
  refine (seq_nx (x_ifs.trans ?_)).trans x_nil
  cases z with
  | none =>
    refine (if_f (m := 0) (S1 := S) (by simp [cmpE, tupE, cmpop, datAll, LIM, W.fz, sh_lk, ne_lk])).trans ?_
    rw [x_nil]
    simp [lks]
  | some p =>
    obtain ⟨u, l, w⟩ := p
    refine (if_t (m := 0) (S1 := S) (by simp [cmpE, tupE, cmpop, datAll, LIM, W.fz, sh_lk, ne_lk])).trans ?_
    rw [x_cons]
    refine (seq_nx (x_app.trans ?_)).trans x_nil
    unfold appE
    have e1 : evE F gl (.tup [.tup [.c (.str "link"), .v 7], .idx (.v 8) (.c (.int 1)), .idx (.v 8) (.c (.int 0)), .idx (.v 8) (.c (.int 2))]) [some (.dat X 0), some (.dat Y 0), some (.dat (.int n) 0), some (.dat (.int b) 0), some (.dat (.int e) 0), some (.dat (.list xs) (q + 1)), o6, some (.dat (.int (i : Nat)) 0), some (.dat (lkD (some (u, l, w))) 0), o9] S = some (.dat (lg (.tuple [.str "link", .int (i : Nat)]) l u w) 0, S) := by
      simp [tupE, consE, W.fz, datAll, LIM, lkD, idxE, idxop, ixD, lg]
    have k1 : (W.dat (lg (.tuple [.str "link", .int (i : Nat)]) l u w) 0).keep = true := by
      simp [W.keep, full, lg, nolAll, nol]
    have k2 : nol (lg (.tuple [.str "link", .int (i : Nat)]) l u w) = true := by simp [nolAll, nol, lg]
    rw [e1]
    dsimp only
    rw [useR_keep k1]
    simp only [List.getElem?_cons_succ, List.getElem?_cons_zero]
    refine (if_pos h1).trans ?_
    rw [if_pos k2]
    rfl
def numD (q : Nat × Option (Int × Int × Int)) : PyData := .tuple [.int (q.1 : Nat), lkD q.2]
theorem h2_loop {F : Fns} {X Y : PyData} {n b e : Int} {q : Nat} {o6 : Option W} {xs0 : List PyData} {zs : List (Nat × Option (Int × Int × Int))} (hN : zs.length ≤ 40) (hx : xs0.length ≤ 900) : ∃ o7 o8, forGo [7, 8] false (exSs F gl hbody2) (zs.map numD) [some (.dat X 0), some (.dat Y 0), some (.dat (.int n) 0), some (.dat (.int b) 0), some (.dat (.int e) 0), some (.dat (.list xs0) (q + 1)), o6, none, none, none] S =
    some (.nx [some (.dat X 0), some (.dat Y 0), some (.dat (.int n) 0), some (.dat (.int b) 0), some (.dat (.int e) 0), some (.dat (.list (xs0 ++ lks zs)) (q + 1)), o6, o7, o8, none] S) := by
  obtain ⟨r', S', g1, e0, o7, o8, dn, td, e4, e5, e6⟩ := forGo_all (tg := [7, 8]) (one := false) (body := exSs F gl hbody2) (xs := zs.map numD) (r := [some (.dat X 0), some (.dat Y 0), some (.dat (.int n) 0), some (.dat (.int b) 0), some (.dat (.int e) 0), some (.dat (.list xs0) (q + 1)), o6, none, none, none]) (S := S)
    (P := fun rest r S' => S' = S ∧ ∃ o7 o8, ∃ dn td : List (Nat × Option (Int × Int × Int)), dn ++ td = zs ∧ rest = td.map numD ∧ r = [some (.dat X 0), some (.dat Y 0), some (.dat (.int n) 0), some (.dat (.int b) 0), some (.dat (.int e) 0), some (.dat (.list (xs0 ++ lks dn)) (q + 1)), o6, o7, o8, none])
    ⟨rfl, none, none, [], zs, rfl, rfl, by simp [lks]⟩ fun x xs r S' ⟨e0, o7, o8, dn, td, e1, e2, e3⟩ => by
      subst e0
      subst e3
      match td, e2 with
      | (i, z) :: td, e2 =>
        injection e2 with e4 e5
        subst e4
        refine ⟨_, rfl, _, _, .inl (h2_step (i := i) (z := z) ?_), rfl, some (.dat (.int (i : Nat)) 0), some (.dat (lkD z) 0), dn ++ [(i, z)], td, by rw [← e1, List.append_assoc]; rfl, e5, ?_⟩
        · have := lks_len dn
          have hd := congrArg List.length e1
          rw [List.length_append] at hd
          rw [List.length_append]
          omega
        · rw [lks_app, List.append_assoc]
  have e7 : td = [] := by
    cases td with
    | nil => rfl
    | cons a l => cases e5
  subst e7
  rw [List.append_nil] at e4
  subst e0
  rw [e6, e4] at g1
  exact ⟨o7, o8, g1⟩
end K81
end

section
set_option maxRecDepth 100000
/-! K81R: the law's hard legs, the whole. -/
namespace K81
open PySem MP
variable {k : Nat} {S : Sto} {m m1 m2 m3 : Nat}

def numb (ls : List (Option (Int × Int × Int))) : List (Nat × Option (Int × Int × Int)) := ls.mapIdx fun i z => (i, z)
theorem numb_map (ls : List (Option (Int × Int × Int))) : (numb ls).map numD = (ls.map lkD).mapIdx fun i x => PyData.tuple [.int (i : Nat), x] := by
  refine List.ext_getElem? fun i => ?_
  unfold numb
  simp only [List.getElem?_map, List.getElem?_mapIdx, Option.map_map]
  rfl
/-- the legs that the law reckons with -/
def hards (g : Dg) (N : Nat) : List PyData := bes g.n g.b g.e (List.range N) ++ lks (numb g.ls)
theorem r_law_hard {F : Fns} {g : Dg} {N : Nat} (hn : (N : Int) = g.n) (h4 : N ≤ 4) (hl : g.ls.length ≤ 12) : fn_law_hard.run F gl [.dat g.d m, .dat (.list []) m1] S = some (.dat (.list (hards g N)) 2, S) := by
  have hb : ∃ b4, fn_law_hard.body = [.asgP [2, 3, 4, 5] [.idx (.v 0) (.c (.int 1)), .idx (.idx (.v 0) (.c (.int 2))) (.c (.int 0)), .idx (.idx (.v 0) (.c (.int 2))) (.c (.int 1)), .lst []],
    .loopV [6] true .range1 2 hbody1, .loop [7, 8] false .enum [.idx (.v 0) (.c (.int 3))] hbody2, .loopV [7, 9] false .enum 1 b4, .retV 5] := ⟨_, rfl⟩
  obtain ⟨b4, hb⟩ := hb
  have hN3 : ((List.range N).map fun i => PyData.int (i : Nat)).length ≤ LIM := by
    rw [List.length_map, List.length_range]
    have : LIM = 100000 := rfl
    omega
  obtain ⟨o6, g1⟩ := h1_loop (F := F) (S := S) (X := g.d) (Y := .list []) (n := g.n) (b := g.b) (e := g.e) (N := N) (q := 1) (by omega)
  have nl : (numb g.ls).length = g.ls.length := by
    unfold numb
    rw [List.length_mapIdx]
  obtain ⟨o7, o8, g2⟩ := h2_loop (F := F) (S := S) (X := g.d) (Y := .list []) (n := g.n) (b := g.b) (e := g.e) (q := 1) (o6 := o6) (xs0 := bes g.n g.b g.e (List.range N)) (zs := numb g.ls) (by omega) (by
    have := bes_len (n := g.n) (b := g.b) (e := g.e) (List.range N)
    rw [List.length_range] at this
    omega)
  rw [numb_map] at g2
  have en : items .enum [.dat (.tuple (g.ls.map lkD)) 0] = some ((g.ls.map lkD).mapIdx fun i x => PyData.tuple [.int (i : Nat), x]) := by
    show (if (g.ls.map lkD).length ≤ LIM then some ((g.ls.map lkD).mapIdx fun i x => PyData.tuple [.int (i : Nat), x]) else none) = _
    rw [if_pos (by rw [List.length_map]; exact Nat.le_trans hl (by decide))]
  have nla : nolAll (g.ls.map lkD) = true := by
    have : ∀ ls : List (Option (Int × Int × Int)), nolAll (ls.map lkD) = true := fun ls => by
      induction ls with
      | nil => rfl
      | cons z ls ih =>
        cases z <;> simp [nolAll, lkD, nol, ih]
    exact this _
  refine run_rt (S1 := S) (us := [.dat g.d 0, .dat (.list []) 0]) (by simp [fn_law_hard, inWs, inW, W.fz]) ?_
  show exSs F gl fn_law_hard.body [some (.dat g.d 0), some (.dat (.list []) 0), none, none, none, none, none, none, none, none] S = _
  rw [hb, x_cons]
  refine (seq_nx (r1 := [some (.dat g.d 0), some (.dat (.list []) 0), some (.dat (.int g.n) 0), some (.dat (.int g.b) 0), some (.dat (.int g.e) 0), some (.dat (.list []) 2), none, none, none, none]) (S1 := S) ?_).trans ?_
  · rw [x_asgP]
    unfold asgPE
    rw [show evEs F gl [.idx (.v 0) (.c (.int 1)), .idx (.idx (.v 0) (.c (.int 2))) (.c (.int 0)), .idx (.idx (.v 0) (.c (.int 2))) (.c (.int 1)), .lst []] [some (.dat g.d 0), some (.dat (.list []) 0), none, none, none, none, none, none, none, none] S = some ([.dat (.int g.n) 0, .dat (.int g.b) 0, .dat (.int g.e) 0, .dat (.list []) 2], S) by
      simp [consE, idxE, W.fz, Dg.d, idxop, ixD, lstE, datAll, LIM, dOf]]
    rfl
  rw [x_cons]
  refine (seq_nx (x_loopV.trans ((loopV_of (w := .dat (.int g.n) 0) rfl (by rw [← hn]; exact items_r1 (by omega)) hN3).trans g1))).trans ?_
  rw [x_cons]
  refine (seq_nx (x_loop.trans ((loop_of (S1 := S) (ws := [.dat (.tuple (g.ls.map lkD)) 0]) (by simp [consE, idxE, W.fz, Dg.d, idxop, ixD]) en (by rw [List.length_mapIdx, List.length_map]; exact Nat.le_trans hl (by decide))).trans (by
    unfold useAll
    rw [if_pos (by simp [W.nl, nol, nla])]
    exact g2)))).trans ?_
  rw [x_cons]
  refine (seq_nx (x_loopV.trans ((loopV_of (w := .dat (.list []) 0) (ys := []) rfl rfl (Nat.zero_le _)).trans rfl))).trans ?_
  rw [x_cons]
  refine seq_rt ?_
  rw [x_retV]
  rfl
end K81
end

section
set_option maxRecDepth 100000
/-! K81S: the law's longest ways: one leg. -/
namespace K81
open PySem MP
variable {k : Nat} {S : Sto} {m m1 m2 m3 : Nat} {F : Fns}

def oD : Option Int → PyData
  | none => .none
  | some i => .int i
def yv (ys : List (Option Int)) (i : Nat) : Option Int := ys.getD i none
def ly (N : Int) (ts : List PyData) (ys : List (Option Int)) (tn : Option W) (fl : Bool) (o5 o6 o7 o8 : Option W) : Rho :=
  [some (.dat (.int N) 0), some (.dat (.list ts) 0), some (.dat (.list (ys.map oD)) 1), tn, some (.dat (.bool fl) 0), o5, o6, o7, o8]
def bodyL : List Sm := [.ifs (.and (.notN (.idx (.v 2) (.v 6))) (.or (.isN (.idx (.v 2) (.v 7))) (.cmp .lt (.idx (.v 2) (.v 7)) (.bin .add (.idx (.v 2) (.v 6)) (.v 8))))) [.setI 2 (.v 7) (.bin .add (.idx (.v 2) (.v 6)) (.v 8)),
         .asg 4 (.c (.bool true))] []]
theorem yv_get {ys : List (Option Int)} {i : Nat} (h : i < ys.length) : (ys.map oD)[i]? = some (oD (yv ys i)) := by
  rw [List.getElem?_map, List.getElem?_eq_getElem h]
  simp [yv, List.getD, h]
/-- is the leg's end to be moved -/
def mv (ys : List (Option Int)) (a c : Nat) (w : Int) : Option Int := match yv ys a with
  | none => none
  | some x => match yv ys c with
    | none => some (x + w)
    | some y => if y < x + w then some (x + w) else none
theorem ly_step {N : Int} {ts : List PyData} {a c : Nat} {ys : List (Option Int)} {tn : Option W} {fl : Bool} {x : PyData} {w : Int} (ha : a < ys.length) (hc : c < ys.length) :
    exSs F gl bodyL (ly N ts ys tn fl (some (.dat x 0)) (some (.dat (.int a) 0)) (some (.dat (.int c) 0)) (some (.dat (.int w) 0))) S =
      some (.nx (match mv ys a c w with
        | some v => ly N ts (ys.set c (some v)) tn true (some (.dat x 0)) (some (.dat (.int a) 0)) (some (.dat (.int c) 0)) (some (.dat (.int w) 0))
        | none => ly N ts ys tn fl (some (.dat x 0)) (some (.dat (.int a) 0)) (some (.dat (.int c) 0)) (some (.dat (.int w) 0))) S) := by
  have ea := ix_nat (n := ys.length) ha
  have ec := ix_nat (n := ys.length) hc
  have e1 : idxop S (.dat (.list (ys.map oD)) 0) (.int a) = some (oD (yv ys a)) := by
    simp only [idxop, List.length_map]
    rw [ea]
    exact yv_get ha
  have e2 : idxop S (.dat (.list (ys.map oD)) 0) (.int c) = some (oD (yv ys c)) := by
    simp only [idxop, List.length_map]
    rw [ec]
    exact yv_get hc
  unfold bodyL ly mv
  cases h1 : yv ys a with
  | none =>
    rw [h1] at e1
    simp [idxE, ifsE, seqE, W.fz, e1, oD, andE, notNE, noneD]
  | some xa =>
    rw [h1] at e1
    cases h2 : yv ys c with
    | none =>
      rw [h2] at e2
      simp [idxE, ifsE, seqE, W.fz, e1, e2, oD, andE, notNE, orE, isNE, noneD, binE, binop, setIE, nol, ec, asgE, useR, W.keep, full]
    | some y =>
      rw [h2] at e2
      by_cases q : y < xa + w
      · simp [idxE, ifsE, seqE, W.fz, e1, e2, oD, andE, notNE, orE, isNE, noneD, cmpE, cmpop, q, binE, binop, setIE, nol, ec, asgE, useR, W.keep, full]
      · simp [idxE, ifsE, seqE, W.fz, e1, e2, oD, andE, notNE, orE, isNE, noneD, cmpE, cmpop, q, binE, binop]
end K81
end

section
set_option maxRecDepth 100000
/-! K81T: a round of the law's longest ways. -/
namespace K81
open PySem MP
variable {k : Nat} {S : Sto} {m m1 m2 m3 : Nat} {F : Fns}

structure LPass (ts rest : List PyData) (N : Nat) (y0 ys : List (Option Int)) (fl : Bool) : Prop where
  len : ys.length = N + 1
  top : ∃ v, yv ys N = some v
  calm : fl = false → ys = y0 ∧ ∀ a c w, Lr ts a c w → Lr rest a c w ∨ mv y0 a c w = none
theorem yv_set {ys : List (Option Int)} {i j : Nat} {v : Option Int} (h : i < ys.length) : yv (ys.set i v) j = if j = i then v else yv ys j := by
  unfold yv
  by_cases e : j = i
  · subst e
    simp [List.getD, h]
  · rw [if_neg e]
    simp [List.getD, List.getElem?_set_ne (Ne.symm e)]
theorem ly_inner {Ni : Int} {ts : List PyData} {N : Nat} {y0 : List (Option Int)} {tn : Option W} (hN : ∀ t ∈ ts, ∃ z a c w, t = .tuple [z, .int (a : Nat), .int (c : Nat), .int w] ∧ a < N + 1 ∧ c < N + 1) (hb : y0.length = N + 1) (ht : ∃ v, yv y0 N = some v) {o5 o6 o7 o8 : Option W} :
    ∃ ys fl o5' o6' o7' o8', forGo [5, 6, 7, 8] false (exSs F gl bodyL) ts (ly Ni ts y0 tn false o5 o6 o7 o8) S = some (.nx (ly Ni ts ys tn fl o5' o6' o7' o8') S) ∧ LPass ts [] N y0 ys fl := by
  obtain ⟨r', S', h1, ⟨ys, fl, p5, p6, p7, p8, rfl, rfl, hp, _⟩⟩ := forGo_all (tg := [5, 6, 7, 8]) (one := false) (body := exSs F gl bodyL) (xs := ts) (r := ly Ni ts y0 tn false o5 o6 o7 o8) (S := S)
    (P := fun rest r S' => ∃ ys fl o5 o6 o7 o8, r = ly Ni ts ys tn fl o5 o6 o7 o8 ∧ S' = S ∧ LPass ts rest N y0 ys fl ∧ ∀ t ∈ rest, t ∈ ts)
    ⟨y0, false, o5, o6, o7, o8, rfl, rfl, ⟨hb, ht, fun _ => ⟨rfl, fun a c w h => .inl h⟩⟩, fun _ h => h⟩ fun t rest r S' ⟨ys, fl, q5, q6, q7, q8, e1, e2, hp, hm⟩ => by
      subst e1
      subst e2
      obtain ⟨z, a, c, w, rfl, ha, hc⟩ := hN t (hm t (by simp))
      refine ⟨ly Ni ts ys tn fl (some (.dat z 0)) (some (.dat (.int a) 0)) (some (.dat (.int c) 0)) (some (.dat (.int w) 0)), rfl, ?_⟩
      have st := ly_step (F := F) (S := S') (N := Ni) (ts := ts) (tn := tn) (fl := fl) (x := z) (w := w) (ys := ys) (a := a) (c := c) (by rw [hp.len]; exact ha) (by rw [hp.len]; exact hc)
      refine ⟨_, _, .inl st, ?_⟩
      cases hmv : mv ys a c w with
      | some v =>
        refine ⟨_, true, _, _, _, _, rfl, rfl, ⟨by rw [List.length_set]; exact hp.len, ?_, fun z => (by cases z)⟩, fun t ht => hm t (by simp [ht])⟩
        rw [yv_set (by rw [hp.len]; exact hc)]
        split
        · exact ⟨v, rfl⟩
        · exact hp.top
      | none =>
        refine ⟨_, fl, _, _, _, _, rfl, rfl, ⟨hp.len, hp.top, fun hf => ?_⟩, fun t ht => hm t (by simp [ht])⟩
        obtain ⟨c1, c2⟩ := hp.calm hf
        refine ⟨c1, fun a' c' w' hl => ?_⟩
        rcases c2 a' c' w' hl with ⟨t, ht, z', e⟩ | h
        · rcases List.mem_cons.mp ht with e2 | ht
          · rw [e2] at e
            have e3 : z = z' ∧ (a : Int) = a' ∧ (c : Int) = c' ∧ w = w' := by simpa using e
            obtain ⟨_, e3, e4, e5⟩ := e3
            have e3 : a = a' := by omega
            have e4 : c = c' := by omega
            subst e3
            subst e4
            subst e5
            right
            rw [← c1]
            exact hmv
          · exact .inl ⟨t, ht, z', e⟩
        · exact .inr h
  exact ⟨ys, fl, p5, p6, p7, p8, h1, hp⟩
end K81
end

section
set_option maxRecDepth 100000
/-! K81U: the law's longest ways. -/
namespace K81
open PySem MP
variable {k : Nat} {S : Sto} {m m1 m2 m3 : Nat} {F : Fns}

/-- years at which no leg can be moved -/
def Still (ts : List PyData) (N : Nat) : Prop := ∃ ys : List (Option Int), ys.length = N + 1 ∧ (∃ v, yv ys N = some v) ∧ ∀ a c w, Lr ts a c w → mv ys a c w = none
def bodyO : List Sm := [.asg 4 (.c (.bool false)), .loopV [5, 6, 7, 8] false .seq 1 bodyL, .ifs (.not (.v 4)) [.ret (.slH (.v 2) (.neg (.c (.int 1))))] []]
theorem ly_outer {Ni : Int} {ts : List PyData} {N : Nat} (ht : ts.length ≤ LIM) (hN : ∀ t ∈ ts, ∃ z a c w, t = .tuple [z, .int (a : Nat), .int (c : Nat), .int w] ∧ a < N + 1 ∧ c < N + 1) {y0 : List (Option Int)} (hb : y0.length = N + 1) (htop : ∃ v, yv y0 N = some v) (xs : List PyData) (o4 : Option W) (o3 o5 o6 o7 o8 : Option W) :
    ∃ R, forGo [3] true (exSs F gl bodyO) xs [some (.dat (.int Ni) 0), some (.dat (.list ts) 0), some (.dat (.list (y0.map oD)) 1), o3, o4, o5, o6, o7, o8] S = some R ∧ ((∃ r, R = .nx r S) ∨ ∃ l mm, R = .rt (.dat (.list l) mm) S ∧ Still ts N) := by
  refine forGo_ret (P := fun rest r S' => S' = S ∧ ∃ ys o3 o4 o5 o6 o7 o8, r = [some (.dat (.int Ni) 0), some (.dat (.list ts) 0), some (.dat (.list (ys.map oD)) 1), o3, o4, o5, o6, o7, o8] ∧ ys.length = N + 1 ∧ ∃ v, yv ys N = some v) ⟨rfl, y0, o3, o4, o5, o6, o7, o8, rfl, hb, htop⟩ (fun r S' ⟨e, _⟩ => .inl ⟨r, by rw [e]⟩) fun t rest r S' ⟨e0, ys, o3, o4, o5, o6, o7, o8, e1, hl, hv⟩ => ?_
  subst e0
  subst e1
  refine ⟨_, rfl, ?_⟩
  obtain ⟨ys', fl', p5, p6, p7, p8, h1, hps⟩ := ly_inner (F := F) (S := S') (Ni := Ni) (tn := some (.dat t 0)) (o5 := o5) (o6 := o6) (o7 := o7) (o8 := o8) hN hl hv
  unfold ly at h1
  have s1 : exS F gl (.asg 4 (.c (.bool false))) [some (.dat (.int Ni) 0), some (.dat (.list ts) 0), some (.dat (.list (ys.map oD)) 1), some (.dat t 0), o4, o5, o6, o7, o8] S' = some (.nx [some (.dat (.int Ni) 0), some (.dat (.list ts) 0), some (.dat (.list (ys.map oD)) 1), some (.dat t 0), some (.dat (.bool false) 0), o5, o6, o7, o8] S') := by
    rw [x_asg]
    exact (asg_of e_c).trans (by rw [useR_keep rfl]; rfl)
  cases fl' with
  | true =>
    left
    refine ⟨[some (.dat (.int Ni) 0), some (.dat (.list ts) 0), some (.dat (.list (ys'.map oD)) 1), some (.dat t 0), some (.dat (.bool true) 0), p5, p6, p7, p8], S', ?_, rfl, ys', _, _, _, _, _, _, rfl, hps.len, hps.top⟩
    show exSs F gl bodyO [some (.dat (.int Ni) 0), some (.dat (.list ts) 0), some (.dat (.list (ys.map oD)) 1), some (.dat t 0), o4, o5, o6, o7, o8] S' = _
    unfold bodyO
    rw [x_cons]
    refine (seq_nx s1).trans ?_
    rw [x_cons]
    refine (seq_nx (x_loopV.trans ((loopV_of (w := .dat (.list ts) 0) rfl rfl ht).trans h1))).trans ?_
    rw [x_cons]
    refine (seq_nx (x_ifs.trans ((if_f (m := 0) (S1 := S') (by simp [notE, W.fz])).trans x_nil))).trans x_nil
  | false =>
    right
    obtain ⟨c1, c2⟩ := hps.calm rfl
    have sl : ∃ l, slHop (.list (ys'.map oD)) (.int (-1)) = some (.dat (.list l) 1) := ⟨_, rfl⟩
    obtain ⟨l, sl⟩ := sl
    refine ⟨.dat (.list l) 1, S', ?_, .inr ⟨l, 1, rfl, ys', hps.len, hps.top, fun a c w hL => ?_⟩⟩
    · show exSs F gl bodyO [some (.dat (.int Ni) 0), some (.dat (.list ts) 0), some (.dat (.list (ys.map oD)) 1), some (.dat t 0), o4, o5, o6, o7, o8] S' = _
      unfold bodyO
      rw [x_cons]
      refine (seq_nx s1).trans ?_
      rw [x_cons]
      refine (seq_nx (x_loopV.trans ((loopV_of (w := .dat (.list ts) 0) rfl rfl ht).trans h1))).trans ?_
      rw [x_cons]
      refine seq_rt (x_ifs.trans ((if_t (m := 0) (S1 := S') (by simp [notE, W.fz])).trans ?_))
      rw [x_cons]
      refine seq_rt (x_ret.trans (ret_of ?_))
      simp [slHE, negE, W.fz, sl]
    · rw [c1]
      rcases c2 a c w hL with ⟨_, z, _⟩ | z
      · cases z
      · exact z
end K81
end

section
set_option maxRecDepth 100000
/-! K81V: what the law's longest ways tell. -/
namespace K81
open PySem MP
variable {k : Nat} {S : Sto} {m m1 m2 m3 : Nat} {F : Fns}

theorem r_least_ways {ts : List PyData} {N : Nat} (h9 : N ≤ 900) (ht : ts.length ≤ LIM) (hN : ∀ t ∈ ts, ∃ z a c w, t = .tuple [z, .int (a : Nat), .int (c : Nat), .int w] ∧ a < N + 1 ∧ c < N + 1) :
    ∃ d mm, fn_law_least.run F gl [.dat (.int (N : Nat)) m, .dat (.list ts) m1] S = some (.dat d mm, S) ∧ (noneD d = false → Still ts N) := by
  have hb : fn_law_least.body = [.asg 2 (.bin .add (.bin .mul (.lst [.c .none]) (.v 0)) (.lst [.c (.int 0)])), .loop [3] true .range1 [.bin .add (.v 0) (.c (.int 2))] bodyO, .ret (.c .none)] := rfl
  have ey : List.replicate N PyData.none ++ [PyData.int 0] = (List.replicate N (none : Option Int) ++ [some 0]).map oD := by
    rw [List.map_append, List.map_replicate]
    rfl
  have hlen : (List.replicate N (none : Option Int) ++ [some 0]).length = N + 1 := by simp
  have htop : ∃ v, yv (List.replicate N (none : Option Int) ++ [some 0]) N = some v := ⟨0, by simp [yv, List.getD]⟩
  obtain ⟨R, g1, g2⟩ := ly_outer (F := F) (S := S) (Ni := N) ht hN hlen htop ((List.range (N + 2)).map fun i => PyData.int (i : Nat)) none none none none none none
  have cat : binop .add (.list (List.replicate N PyData.none)) (.list [.int 0]) = some (.dat (.list ((List.replicate N (none : Option Int) ++ [some 0]).map oD)) 1) := by
    rw [← ey]
    refine cat_list ?_
    rw [List.length_replicate]
    have : LIM = 100000 := rfl
    show N + 1 ≤ LIM
    omega
  have e1 : evE F gl (.bin .add (.bin .mul (.lst [.c .none]) (.v 0)) (.lst [.c (.int 0)])) [some (.dat (.int (N : Nat)) 0), some (.dat (.list ts) 0), none, none, none, none, none, none, none] S = some (.dat (.list ((List.replicate N (none : Option Int) ++ [some 0]).map oD)) 1, S) := by
    rw [e_bin]
    refine bin_of (d := .list (List.replicate N PyData.none)) (m := 1) (S1 := S) ?_ (e := .list [.int 0]) (m2 := 2) ?_ cat
    · rw [e_bin]
      refine bin_of (d := .list [.none]) (m := 2) (S1 := S) (by simp [lstE, consE, datAll, lim1, dOf, isL]) (e := .int (N : Nat)) (m2 := 0) (by simp [W.fz]) (rep_int (by omega))
    · simp [lstE, consE, datAll, lim1, dOf, isL]
  have e2 : evEs F gl [.bin .add (.v 0) (.c (.int 2))] [some (.dat (.int (N : Nat)) 0), some (.dat (.list ts) 0), some (.dat (.list ((List.replicate N (none : Option Int) ++ [some 0]).map oD)) 1), none, none, none, none, none, none] S = some ([.dat (.int ((N + 2 : Nat) : Int)) 0], S) := by
    simp [consE, binE, W.fz, binop]
  have hr : ((List.range (N + 2)).map fun i => PyData.int (i : Nat)).length ≤ LIM := by
    rw [List.length_map, List.length_range]
    have : LIM = 100000 := rfl
    omega
  have start : ∀ {Q : Option MP.R}, forGo [3] true (exSs F gl bodyO) ((List.range (N + 2)).map fun i => PyData.int (i : Nat)) [some (.dat (.int (N : Nat)) 0), some (.dat (.list ts) 0), some (.dat (.list ((List.replicate N (none : Option Int) ++ [some 0]).map oD)) 1), none, none, none, none, none, none] S = Q →
      exS F gl (.loop [3] true .range1 [.bin .add (.v 0) (.c (.int 2))] bodyO) [some (.dat (.int (N : Nat)) 0), some (.dat (.list ts) 0), some (.dat (.list ((List.replicate N (none : Option Int) ++ [some 0]).map oD)) 1), none, none, none, none, none, none] S = Q := fun {Q} h => by
    refine x_loop.trans ((loop_of e2 (items_r1 (by omega)) hr).trans ?_)
    unfold useAll
    rw [if_pos (show [W.dat (PyData.int ((N + 2 : Nat) : Int)) 0].all W.nl = true from rfl)]
    exact h
  have s1 : exS F gl (.asg 2 (.bin .add (.bin .mul (.lst [.c .none]) (.v 0)) (.lst [.c (.int 0)]))) [some (.dat (.int (N : Nat)) 0), some (.dat (.list ts) 0), none, none, none, none, none, none, none] S = some (.nx [some (.dat (.int (N : Nat)) 0), some (.dat (.list ts) 0), some (.dat (.list ((List.replicate N (none : Option Int) ++ [some 0]).map oD)) 1), none, none, none, none, none, none] S) := by
    rw [x_asg]
    exact (asg_of e1).trans (by rw [useR_same rfl]; rfl)
  rcases g2 with ⟨r, rfl⟩ | ⟨l, mm, rfl, st⟩
  · refine ⟨.none, 0, run_rt (S1 := S) (us := [.dat (.int (N : Nat)) 0, .dat (.list ts) 0]) (by simp [fn_law_least, inWs, inW, W.fz]) ?_, fun z => by cases z⟩
    show exSs F gl fn_law_least.body [some (.dat (.int (N : Nat)) 0), some (.dat (.list ts) 0), none, none, none, none, none, none, none] S = _
    rw [hb, x_cons]
    refine (seq_nx s1).trans ?_
    rw [x_cons]
    refine (seq_nx (start g1)).trans ?_
    rw [x_cons]
    exact seq_rt (x_ret.trans (ret_of e_c))
  · refine ⟨.list l, mm, run_rt (S1 := S) (us := [.dat (.int (N : Nat)) 0, .dat (.list ts) 0]) (by simp [fn_law_least, inWs, inW, W.fz]) ?_, fun _ => st⟩
    show exSs F gl fn_law_least.body [some (.dat (.int (N : Nat)) 0), some (.dat (.list ts) 0), none, none, none, none, none, none, none] S = _
    rw [hb, x_cons]
    refine (seq_nx s1).trans ?_
    rw [x_cons]
    exact seq_rt (start g1)
end K81
end

section
set_option maxRecDepth 100000
/-! K81W: potentials of the law's longest ways. -/
namespace K81
open PySem MP
variable {k : Nat} {S : Sto} {m m1 m2 m3 : Nat} {F : Fns}

theorem mem_lks {u l w : Int} : ∀ {zs : List (Nat × Option (Int × Int × Int))} {i : Nat}, (i, some (u, l, w)) ∈ zs → lg (.tuple [.str "link", .int (i : Nat)]) l u w ∈ lks zs
  | (_, none) :: r, i, h => by
    rcases List.mem_cons.mp h with e | h
    · cases e
    · exact mem_lks (zs := r) h
  | (j, some (u', l', w')) :: r, i, h => by
    rcases List.mem_cons.mp h with e | h
    · cases e
      exact List.mem_cons_self
    · exact List.mem_cons_of_mem _ (mem_lks (zs := r) h)
theorem lks_mem {t : PyData} : ∀ {zs : List (Nat × Option (Int × Int × Int))}, t ∈ lks zs → ∃ i u l w, (i, some (u, l, w)) ∈ zs ∧ t = lg (.tuple [.str "link", .int (i : Nat)]) l u w
  | (_, none) :: r, h => by
    obtain ⟨i, u, l, w, h1, h2⟩ := lks_mem (zs := r) h
    exact ⟨i, u, l, w, List.mem_cons_of_mem _ h1, h2⟩
  | (j, some (u', l', w')) :: r, h => by
    rcases List.mem_cons.mp h with e | h
    · exact ⟨j, u', l', w', List.mem_cons_self, e⟩
    · obtain ⟨i, u, l, w, h1, h2⟩ := lks_mem (zs := r) h
      exact ⟨i, u, l, w, List.mem_cons_of_mem _ h1, h2⟩
theorem numb_mem {ls : List (Option (Int × Int × Int))} {z : Option (Int × Int × Int)} (h : z ∈ ls) : ∃ i, (i, z) ∈ numb ls := by
  obtain ⟨i, hi⟩ := List.getElem?_of_mem h
  refine ⟨i, List.mem_of_getElem? (i := i) ?_⟩
  unfold numb
  rw [List.getElem?_mapIdx, hi]
  rfl
theorem of_numb {ls : List (Option (Int × Int × Int))} {z : Option (Int × Int × Int)} {i : Nat} (h : (i, z) ∈ numb ls) : z ∈ ls := by
  obtain ⟨j, x, hx, e⟩ := mem_mapIdx h
  cases e
  exact List.mem_of_getElem? hx
theorem hards_flat {g : Dg} {N : Nat} (hn : (N : Int) = g.n) (l2 : ∀ x ∈ g.ls, LkOk g.n x) : ∀ t ∈ hards g N, ∃ z a c w, t = .tuple [z, .int (a : Nat), .int (c : Nat), .int w] ∧ a < N + 1 ∧ c < N + 1 := by
  intro t ht
  rcases List.mem_append.mp ht with ht | ht
  · obtain ⟨i, hi, ht⟩ := List.mem_flatMap.mp ht
    have hi := List.mem_range.mp hi
    rcases List.mem_cons.mp ht with e | ht
    · exact ⟨_, N, i, g.b, by rw [e, hn]; rfl, by omega, by omega⟩
    · have e := List.mem_singleton.mp ht
      exact ⟨_, i, N, 0 - g.e, by rw [e, hn]; rfl, by omega, by omega⟩
  · obtain ⟨i, u, l, w, h1, e⟩ := lks_mem ht
    obtain ⟨⟨a1, a2⟩, ⟨b1, b2⟩, _⟩ := l2 _ (of_numb h1)
    exact ⟨_, l.toNat, u.toNat, w, by rw [e, Int.toNat_of_nonneg a1, Int.toNat_of_nonneg b1]; rfl, by omega, by omega⟩
theorem mv_none {ys : List (Option Int)} {a c : Nat} {w x : Int} (h : mv ys a c w = none) (hx : yv ys a = some x) : ∃ y, yv ys c = some y ∧ x + w ≤ y := by
  unfold mv at h
  rw [hx] at h
  dsimp only at h
  split at h
  · cases h
  · rename_i y hy
    split at h
    · cases h
    · exact ⟨y, hy, by omega⟩
theorem pot_still {g : Dg} {N : Nat} (hn : (N : Int) = g.n) (l2 : ∀ x ∈ g.ls, LkOk g.n x) (st : Still (hards g N) N) : ∃ p, Pot g p := by
  obtain ⟨ys, _, ⟨v, hv⟩, hs⟩ := st
  have beg : ∀ i, i < N → ∃ y, yv ys i = some y ∧ v + g.b ≤ y ∧ y ≤ v + g.e := fun i hi => by
    have h1 := hs N i g.b ⟨_, List.mem_append_left _ (List.mem_flatMap.mpr ⟨i, List.mem_range.mpr hi, List.mem_cons_self⟩), .tuple [.str "begin", .int (i : Nat)], by rw [hn]; rfl⟩
    obtain ⟨y, e1, e2⟩ := mv_none h1 hv
    have h2 := hs i N (0 - g.e) ⟨_, List.mem_append_left _ (List.mem_flatMap.mpr ⟨i, List.mem_range.mpr hi, List.mem_cons_of_mem _ List.mem_cons_self⟩), .tuple [.str "end", .int (i : Nat)], by rw [hn]; rfl⟩
    obtain ⟨y2, e3, e4⟩ := mv_none h2 e1
    rw [hv] at e3
    cases e3
    exact ⟨y, e1, e2, by omega⟩
  refine ⟨fun i => (yv ys i.toNat).getD 0 - v, ⟨?_, fun i h0 h1 => ?_, fun u l w hm => ?_⟩⟩
  · show (yv ys g.n.toNat).getD 0 - v = 0
    rw [← hn, Int.toNat_natCast, hv]
    show v - v = 0
    omega
  · obtain ⟨y, e1, e2, e3⟩ := beg i.toNat (by omega)
    show g.b ≤ (yv ys i.toNat).getD 0 - v ∧ (yv ys i.toNat).getD 0 - v ≤ g.e
    rw [e1]
    show g.b ≤ y - v ∧ y - v ≤ g.e
    omega
  · obtain ⟨⟨a1, a2⟩, ⟨b1, b2⟩, _⟩ := l2 _ hm
    obtain ⟨i, hi⟩ := numb_mem hm
    have h1 := hs l.toNat u.toNat w ⟨_, List.mem_append_right _ (mem_lks hi), .tuple [.str "link", .int (i : Nat)], by rw [Int.toNat_of_nonneg b1, Int.toNat_of_nonneg a1]; rfl⟩
    obtain ⟨x, e1, _⟩ := beg l.toNat (by omega)
    obtain ⟨y, e2, e3⟩ := mv_none h1 e1
    show (yv ys l.toNat).getD 0 - v + w ≤ (yv ys u.toNat).getD 0 - v
    rw [e1, e2]
    show x - v + w ≤ y - v
    omega
end K81
end

section
set_option maxRecDepth 100000
/-! K81X: the law's ways with a dig; a drawn link or none. -/
namespace K81
open PySem MP
variable {k : Nat} {S : Sto} {m m1 m2 m3 : Nat}

theorem ite_t {et ea eb : Ev} {r : Rho} {S1 : Sto} {m : Nat} (h : et r S = some (.dat (.bool true) m, S1)) : iteE et ea eb r S = ea r S1 := by
  unfold iteE
  rw [h]
theorem ite_f {et ea eb : Ev} {r : Rho} {S1 : Sto} {m : Nat} (h : et r S = some (.dat (.bool false) m, S1)) : iteE et ea eb r S = eb r S1 := by
  unfold iteE
  rw [h]
theorem and_f {ea eb : Ev} {r : Rho} {S1 : Sto} {m : Nat} (h : ea r S = some (.dat (.bool false) m, S1)) : andE ea eb r S = some (.dat (.bool false) 0, S1) := by
  unfold andE
  rw [h]
theorem cmp_of {o : Cop} {ea eb : Ev} {r : Rho} {S1 S2 : Sto} {d e : PyData} {m m2 : Nat} {b : Bool} (h1 : ea r S = some (.dat d m, S1)) (h2 : eb r S1 = some (.dat e m2, S2)) (h3 : cmpop o d e = some b) : cmpE o ea eb r S = some (.dat (.bool b) 0, S2) := by
  unfold cmpE
  rw [h1]
  dsimp only
  rw [h2]
  dsimp only
  rw [h3]
theorem notN_of {ea : Ev} {r : Rho} {S1 : Sto} {d : PyData} {m : Nat} (h : ea r S = some (.dat d m, S1)) : notNE ea r S = some (.dat (.bool (!noneD d)) 0, S1) := by
  unfold notNE
  rw [h]
theorem r_law_with {g : Dg} {N : Nat} (hn : (N : Int) = g.n) (h4 : N ≤ 4) (hl : g.ls.length ≤ 12) (l2 : ∀ x ∈ g.ls, LkOk g.n x) : ∃ d mm, fn_law_with.run (FT tab gl (k + 1)) gl [.dat g.d m, .dat (.list []) m1, .dat (.list []) m2] S = some (.dat d mm, S) ∧ (noneD d = false → ∃ p, Pot g p) := by
  have e1 := r_law_hard (F := FT tab gl k) (S := S) (m := 0) (m1 := 0) hn h4 hl
  have nl : (numb g.ls).length = g.ls.length := by
    unfold numb
    rw [List.length_mapIdx]
  have hle : (hards g N).length ≤ 30 := by
    unfold hards
    rw [List.length_append]
    have h1 := bes_len (n := g.n) (b := g.b) (e := g.e) (List.range N)
    have h2 := lks_len (numb g.ls)
    rw [List.length_range] at h1
    omega
  obtain ⟨d, mm, e2, e3⟩ := r_least_ways (F := FT tab gl k) (S := S) (m := 0) (m1 := 1) (ts := hards g N) (N := N) (by omega) (Nat.le_trans hle (by decide)) (hards_flat hn l2)
  refine ⟨d, mm, run_rt (S1 := S) (us := [.dat g.d 0, .dat (.list []) 0, .dat (.list []) 0]) (by simp [fn_law_with, inWs, inW, W.fz]) ?_, fun h => pot_still hn l2 (e3 h)⟩
  have hb : fn_law_with.body = [.ret (.call "_law_least" [.idx (.v 0) (.c (.int 1)), .bin .add (.call "_law_hard" [.v 0, .v 1]) (.comp (.call "_law_soft" [.v 0, .v 3]) [3] true .seq [.v 2] [])])] := rfl
  show exSs (FT tab gl (k + 1)) gl fn_law_with.body [some (.dat g.d 0), some (.dat (.list []) 0), some (.dat (.list []) 0), none] S = _
  rw [hb, x_cons]
  refine seq_rt ?_
  rw [x_ret]
  refine ret_of ?_
  rw [e_call]
  refine call_of (S1 := S) (ws := [.dat (.int g.n) 0, .dat (.list (hards g N)) 1]) ?_ ?_
  · rw [e_cons]
    refine cons_of (w := .dat (.int g.n) 0) (S1 := S) (by simp [idxE, W.fz, Dg.d, idxop, ixD]) ?_
    rw [e_cons]
    refine cons_of ?_ e_nil
    rw [e_bin]
    refine bin_of (d := .list (hards g N)) (m := 2) (S1 := S) (e := .list []) (m2 := 2) ?_ ?_ ?_
    · rw [e_call]
      refine call_of (S1 := S) (ws := [.dat g.d 0, .dat (.list []) 0]) (by simp [consE, W.fz]) ?_
      rw [c_law_hard]
      exact e1
    · exact comp_of (k := .seq) (ws := [.dat (.list []) 0]) (xs := []) (ds := []) (by simp [consE, W.fz]) rfl (Nat.zero_le _) rfl
    · have := cat_list (a := hards g N) (b := []) (by
        show (hards g N).length + 0 ≤ LIM
        exact Nat.le_trans hle (by decide))
      rw [List.append_nil] at this
      exact this
  · rw [c_law_least, ← hn]
    exact e2
/-- a drawn link, or none -/
def eLk : E := .ite (.cmp .gt (.call "_law_draw" [.v 0, .c (.int 9)]) (.c (.int 0))) (.call "_law_link" [.v 0, .v 1]) (.tup [])
theorem e_zlink {l : Nat} {n : Int} {r : Rho} (h0 : r[0]? = some (some (.loc l))) (h1 : r[1]? = some (some (.dat (.int n) 0))) (hp : PotAt l S) (n1 : 1 < n) (n2 : n ≤ 4) :
    ∃ z S', evE (FT tab gl (k + 2)) gl eLk r S = some (.dat (lkD z) 0, S') ∧ LkOk n z ∧ (∀ u l w, z = some (u, l, w) → -4 ≤ w ∧ w ≤ 4) ∧ PotAt l S' := by
  obtain ⟨d, S1, q1, d1, d2, p1⟩ := e_draw (k := k + 1) (l := l) (n := 9) (r := r) (e := .c (.int 9)) h0 (fun T => by simp) hp (by omega) (by omega)
  unfold eLk
  rw [e_ite]
  by_cases hd : 0 < d
  · obtain ⟨u, w, g, S2, q2, k1, k2, p2⟩ := r_link (k := k) (S := S1) (m := 0) p1 n1 n2
    refine ⟨some (u, w, g), S2, (ite_t (m := 0) (S1 := S1) (by rw [e_cmp]; exact cmp_of q1 e_c (by simp [cmpop, hd]))).trans ?_, k1, fun u' l' w' e => ?_, p2⟩
    · rw [e_call]
      refine call_of (S1 := S1) (ws := [.loc l, .dat (.int n) 0]) (by simp [consE, h0, h1, W.fz]) ?_
      rw [c_law_link]
      exact q2
    · cases e
      exact k2
  · refine ⟨none, S1, (ite_f (m := 0) (S1 := S1) (by rw [e_cmp]; exact cmp_of q1 e_c (by simp [cmpop, hd]))).trans ?_, trivial, fun _ _ _ e => (by cases e), p1⟩
    simp [tupE, datAll, lkD]
end K81
end

section
set_option maxRecDepth 100000
/-! K81Y: a turn of the law's links. -/
namespace K81
open PySem MP
variable {k : Nat} {S : Sto} {m m1 m2 m3 : Nat}

structure LkSt (n b e : Int) (ls : List (Option (Int × Int × Int))) (c : Nat) : Prop where
  len : ls.length ≤ c
  ok : ∀ x ∈ ls, LkOk n x
  nd : (prs ls).Nodup
  gap : ∀ u l w, some (u, l, w) ∈ ls → -4 ≤ w ∧ w ≤ 4
  pot : ∃ p, Pot ⟨n, b, e, ls, []⟩ p
theorem mem_prs {u l : Int} : ∀ {ls : List (Option (Int × Int × Int))}, (u, l) ∈ prs ls → ∃ w, some (u, l, w) ∈ ls
  | none :: r, h => by
    obtain ⟨w, hw⟩ := mem_prs (ls := r) h
    exact ⟨w, List.mem_cons_of_mem _ hw⟩
  | some (a, b, c) :: r, h => by
    rcases List.mem_cons.mp h with e | h
    · cases e
      exact ⟨c, List.mem_cons_self⟩
    · obtain ⟨w, hw⟩ := mem_prs (ls := r) h
      exact ⟨w, List.mem_cons_of_mem _ hw⟩
theorem prs_app : ∀ a b, prs (a ++ b) = prs a ++ prs b
  | [], b => rfl
  | none :: r, b => prs_app r b
  | some (u, l, w) :: r, b => by
    show (u, l) :: prs (r ++ b) = (u, l) :: (prs r ++ prs b)
    rw [prs_app r b]
theorem tame_lk {n : Int} (n2 : n ≤ 4) {z : Option (Int × Int × Int)} (h : LkOk n z) : tame 1 (lkD z) = true := by
  match z, h with
  | none, _ => rfl
  | some (u, l, w), ⟨⟨a1, a2⟩, ⟨b1, b2⟩, _, c1, c2⟩ =>
    simp only [lkD, tame, tameAll, Bool.and_true, Bool.and_eq_true, decide_eq_true_eq]
    refine ⟨⟨?_, ?_, ?_⟩, by show 3 ≤ 12; decide⟩ <;> omega
theorem tame_up : ∀ {n : Nat} {d : PyData}, tame n d = true → tame (n + 1) d = true
  | _, .none, _ => by simp [tame]
  | _, .bool _, _ => by simp [tame]
  | _, .int _, h => by
    simp only [tame] at h ⊢
    exact h
  | _, .str _, h => by
    simp only [tame] at h ⊢
    exact h
  | 0, .list _, h => by simp [tame] at h
  | 0, .tuple _, h => by simp [tame] at h
  | n + 1, .list xs, h => by
    simp only [tame, Bool.and_eq_true] at h ⊢
    exact ⟨tameAll_iff.mpr fun x hx => tame_up (tameAll_iff.mp h.1 x hx), h.2⟩
  | n + 1, .tuple xs, h => by
    simp only [tame, Bool.and_eq_true] at h ⊢
    exact ⟨tameAll_iff.mpr fun x hx => tame_up (tameAll_iff.mp h.1 x hx), h.2⟩
  | 0, .dict _, h => by simp [tame] at h
  | n + 1, .dict _, h => by simp [tame] at h
theorem eqv_l0 (xs : List PyData) : PyData.eqv (.list xs) (.list []) = xs.isEmpty := by
  cases xs <;> simp [PyData.eqv, PyData.eqvAll]
/-- is the link new -/
def eNew : E := .or (.cmp .eq (.v 5) (.tup [])) (.cmp .eq (.comp (.v 7) [7] true .seq [.v 3] [.cmp .eq (.slH (.v 7) (.c (.int 2))) (.slH (.v 5) (.c (.int 2)))]) (.lst []))
theorem e_new {F : Fns} {n : Int} (n2 : n ≤ 4) {A B C o4 o6 o7 : Option W} {ls : List (Option (Int × Int × Int))} {z : Option (Int × Int × Int)} (h1 : ∀ x ∈ ls, LkOk n x) (h2 : LkOk n z) (h3 : ls.length ≤ 7) :
    ∃ q, evE F gl eNew [A, B, C, some (.dat (.tuple (ls.map lkD)) 0), o4, some (.dat (lkD z) 0), o6, o7] S = some (.dat (.bool q) 0, S) ∧ (q = true → ∀ u l w, z = some (u, l, w) → (u, l) ∉ prs ls) := by
  unfold eNew
  rw [e_or]
  cases z with
  | none =>
    refine ⟨true, or_t (m := 0) (S1 := S) ?_, fun _ _ _ _ e => (by cases e)⟩
    simp [cmpE, tupE, datAll, LIM, W.fz, cmpop, sh_lk, ne_lk]
  | some p =>
    obtain ⟨u, l, w⟩ := p
    refine ⟨((ls.map lkD).filter fun x => PyData.eqv (cut2 x) (.tuple [.int u, .int l])).isEmpty, (or_f (m := 0) (S1 := S) ?_).trans ?_, fun hq u' l' w' e hm => ?_⟩
    · simp [cmpE, tupE, datAll, LIM, W.fz, cmpop, sh_lk, ne_lk]
    · have hg : compGo (stepE (evE F gl (.v 7)) (evTs F gl [.cmp .eq (.slH (.v 7) (.c (.int 2))) (.slH (.v 5) (.c (.int 2)))]) [7] true [A, B, C, some (.dat (.tuple (ls.map lkD)) 0), o4, some (.dat (lkD (some (u, l, w))) 0), o6, o7]) (ls.map lkD) S = some (((ls.map lkD).filter fun x => PyData.eqv (cut2 x) (.tuple [.int u, .int l])).map fun x => (x, 0), S) := compGo_pure fun x hx => by
        obtain ⟨y, hy, rfl⟩ := List.mem_map.mp hx
        refine step_if ?_ fun _ => ?_
        · have s2 : SeqAt.shaped (.tuple [.int u, .int l]) = true := by simp [SeqAt.shaped, PyData.canLay0, PyData.canLayAll0, PyData.depth, PyData.depthAll]
          have s1 : SeqAt.shaped (cut2 (lkD y)) = true := by
            cases y with
            | none => exact sh_nil
            | some p =>
              obtain ⟨a, b, c⟩ := p
              show SeqAt.shaped (.tuple [.int a, .int b]) = true
              simp [SeqAt.shaped, PyData.canLay0, PyData.canLayAll0, PyData.depth, PyData.depthAll]
          have c1 : slHop (lkD y) (.int 2) = some (.dat (cut2 (lkD y)) 0) := by cases y <;> rfl
          have c2 : slHop (lkD (some (u, l, w))) (.int 2) = some (.dat (.tuple [.int u, .int l]) 0) := rfl
          have c3 : cmpop .eq (cut2 (lkD y)) (.tuple [.int u, .int l]) = some (PyData.eqv (cut2 (lkD y)) (.tuple [.int u, .int l])) := by
            simp only [cmpop]
            rw [if_pos (by rw [s1, s2]; rfl)]
          simp [cmpE, slHE, W.fz, c1, c2, c3]
        · simp [W.fz]
      have e := comp_of (k := .seq) (its := [.v 3]) (ws := [.dat (.tuple (ls.map lkD)) 0]) (S := S) (S1 := S) (by simp [consE, W.fz]) rfl (by rw [List.length_map]; exact Nat.le_trans h3 (by decide)) hg
      rw [List.map_map, dOf_two (fun y hy => by
        obtain ⟨x, hx, rfl⟩ := List.mem_map.mp hy
        obtain ⟨y, _, rfl⟩ := List.mem_map.mp (List.mem_filter.mp hx).1
        left
        cases y <;> rfl)] at e
      rw [show ((fun x : PyData × Nat => x.1) ∘ fun x : PyData => (x, 0)) = id from rfl, List.map_id] at e
      rw [e_cmp]
      refine cmp_of e (d := .list _) (e := .list []) (m2 := 2) (by simp [lstE, datAll, dOf]) ?_
      have t1 : tame 2 (.list ((ls.map lkD).filter fun x => PyData.eqv (cut2 x) (.tuple [.int u, .int l]))) = true := by
        simp only [tame, Bool.and_eq_true, decide_eq_true_eq]
        refine ⟨tameAll_iff.mpr fun x hx => ?_, Nat.le_trans (List.length_filter_le _ _) (by rw [List.length_map]; omega)⟩
        obtain ⟨y, hy, rfl⟩ := List.mem_map.mp (List.mem_filter.mp hx).1
        exact tame_lk n2 (h1 y hy)
      simp only [cmpop]
      rw [if_pos (by rw [tame_shaped (tame_up (tame_up t1))]; decide +kernel), eqv_l0]
    · cases e
      obtain ⟨w'', hw⟩ := mem_prs hm
      have hin : lkD (some (u, l, w'')) ∈ (ls.map lkD).filter fun x => PyData.eqv (cut2 x) (.tuple [.int u, .int l]) := by
        refine List.mem_filter.mpr ⟨List.mem_map.mpr ⟨_, hw, rfl⟩, ?_⟩
        show PyData.eqv (.tuple [.int u, .int l]) (.tuple [.int u, .int l]) = true
        simp [PyData.eqv, PyData.eqvAll]
      rw [List.isEmpty_iff] at hq
      rw [hq] at hin
      cases hin
end K81
end

section
set_option maxRecDepth 100000
/-! K81Z: the law's links. -/
namespace K81
open PySem MP
variable {k : Nat} {S : Sto} {m m1 m2 m3 : Nat}

def lkr (l : Nat) (n b e : Int) (ls : List (Option (Int × Int × Int))) (o4 o5 o6 o7 : Option W) : Rho :=
  [some (.loc l), some (.dat (.int n) 0), some (.dat (.tuple [.int b, .int e]) 0), some (.dat (.tuple (ls.map lkD)) 0), o4, o5, o6, o7]
def eWith : E := .call "_law_with" [.tup [.c (.str "dig"), .v 1, .v 2, .bin .add (.v 3) (.tup [.v 5]), .tup []], .lst [], .lst []]
def bodyLk : List Sm := [.asg 5 eLk, .asg 6 eNew, .ifs (.and (.v 6) (.notN eWith)) [.asg 3 (.bin .add (.v 3) (.tup [.v 5]))] []]
theorem e_catlk {F : Fns} {l : Nat} {n b e : Int} {ls : List (Option (Int × Int × Int))} {z : Option (Int × Int × Int)} {o4 o6 o7 : Option W} (h3 : ls.length ≤ 7) : evE F gl (.bin .add (.v 3) (.tup [.v 5])) (lkr l n b e ls o4 (some (.dat (lkD z) 0)) o6 o7) S = some (.dat (.tuple ((ls ++ [z]).map lkD)) 0, S) := by
  rw [e_bin]
  refine bin_of (d := .tuple (ls.map lkD)) (m := 0) (S1 := S) (e := .tuple [lkD z]) (m2 := 0) (by simp [lkr, W.fz]) (by simp [lkr, tupE, consE, W.fz, datAll, LIM]) ?_
  simp only [binop]
  rw [if_pos (by
    rw [List.length_map]
    have : LIM = 100000 := rfl
    show ls.length + 1 ≤ LIM
    omega), List.map_append]
  rfl
theorem links_step {l c : Nat} {n b e : Int} {ls : List (Option (Int × Int × Int))} {o4 o5 o6 o7 : Option W} (hp : PotAt l S) (n1 : 1 < n) (n2 : n ≤ 4) (hs : LkSt n b e ls c) (hc : c ≤ 7) :
    ∃ ls' o5' o6' S', exSs (FT tab gl (k + 2)) gl bodyLk (lkr l n b e ls o4 o5 o6 o7) S = some (.nx (lkr l n b e ls' o4 o5' o6' o7) S') ∧ PotAt l S' ∧ LkSt n b e ls' (c + 1) := by
  have hlen := hs.len
  obtain ⟨z, S1, q1, z1, z2, p1⟩ := e_zlink (k := k) (n := n) (r := lkr l n b e ls o4 o5 o6 o7) rfl rfl hp n1 n2
  have k1 : (W.dat (lkD z) 0).keep = true := by cases z <;> simp [W.keep, full, lkD, nolAll, nol]
  obtain ⟨q, q2, q3⟩ := e_new (F := FT tab gl (k + 2)) (S := S1) n2 (A := some (.loc l)) (B := some (.dat (.int n) 0)) (C := some (.dat (.tuple [.int b, .int e]) 0)) (o4 := o4) (o6 := o6) (o7 := o7) (ls := ls) (z := z) hs.ok z1 (by omega)
  have s1 : exS (FT tab gl (k + 2)) gl (.asg 5 eLk) (lkr l n b e ls o4 o5 o6 o7) S = some (.nx (lkr l n b e ls o4 (some (.dat (lkD z) 0)) o6 o7) S1) := by
    rw [x_asg]
    exact (asg_of q1).trans (by rw [useR_keep k1]; rfl)
  have s2 : exS (FT tab gl (k + 2)) gl (.asg 6 eNew) (lkr l n b e ls o4 (some (.dat (lkD z) 0)) o6 o7) S1 = some (.nx (lkr l n b e ls o4 (some (.dat (lkD z) 0)) (some (.dat (.bool q) 0)) o7) S1) := by
    rw [x_asg]
    exact (asg_of q2).trans (by rw [useR_keep rfl]; rfl)
  have up : LkSt n b e ls (c + 1) := ⟨by omega, hs.ok, hs.nd, hs.gap, hs.pot⟩
  have hv6 : ∀ T : Sto, evE (FT tab gl (k + 2)) gl (.v 6) (lkr l n b e ls o4 (some (.dat (lkD z) 0)) (some (.dat (.bool q) 0)) o7) T = some (.dat (.bool q) 0, T) := fun T => by simp [lkr, W.fz]
  have go : ∀ {X : Option MP.R}, exS (FT tab gl (k + 2)) gl (.ifs (.and (.v 6) (.notN eWith)) [.asg 3 (.bin .add (.v 3) (.tup [.v 5]))] []) (lkr l n b e ls o4 (some (.dat (lkD z) 0)) (some (.dat (.bool q) 0)) o7) S1 = X → ∀ {r2 : Rho}, X = some (.nx r2 S1) → exSs (FT tab gl (k + 2)) gl bodyLk (lkr l n b e ls o4 o5 o6 o7) S = some (.nx r2 S1) := fun {X} hX {r2} h2 => by
    unfold bodyLk
    rw [x_cons]
    refine (seq_nx s1).trans ?_
    rw [x_cons]
    refine (seq_nx s2).trans ?_
    rw [x_cons]
    exact (seq_nx (hX.trans h2)).trans x_nil
  cases q with
  | false =>
    refine ⟨ls, some (.dat (lkD z) 0), some (.dat (.bool false) 0), S1, go (x_ifs.trans ((if_f (m := 0) (S1 := S1) ?_).trans x_nil)) rfl, p1, up⟩
    rw [e_and]
    exact and_f (hv6 S1)
  | true =>
    have okz : ∀ x ∈ ls ++ [z], LkOk n x := fun x hx => by
      rcases List.mem_append.mp hx with hx | hx
      · exact hs.ok x hx
      · rw [List.mem_singleton.mp hx]
        exact z1
    obtain ⟨d, mm, w1, w2⟩ := r_law_with (k := k) (S := S1) (m := 0) (m1 := 2) (m2 := 2) (g := ⟨n, b, e, ls ++ [z], []⟩) (N := n.toNat) (by show ((n.toNat : Nat) : Int) = n; omega) (by omega) (by show (ls ++ [z]).length ≤ 12; rw [List.length_append]; show ls.length + 1 ≤ 12; omega) okz
    have ew : evE (FT tab gl (k + 2)) gl eWith (lkr l n b e ls o4 (some (.dat (lkD z) 0)) (some (.dat (.bool true) 0)) o7) S1 = some (.dat d mm, S1) := by
      unfold eWith
      rw [e_call]
      refine call_of (S1 := S1) (ws := [.dat (Dg.d ⟨n, b, e, ls ++ [z], []⟩) 0, .dat (.list []) 2, .dat (.list []) 2]) ?_ ?_
      · rw [e_cons]
        refine cons_of (S1 := S1) (w := .dat (Dg.d ⟨n, b, e, ls ++ [z], []⟩) 0) ?_ (by simp [consE, lstE, datAll, dOf])
        rw [e_tup]
        unfold tupE
        rw [show evEs (FT tab gl (k + 2)) gl [.c (.str "dig"), .v 1, .v 2, .bin .add (.v 3) (.tup [.v 5]), .tup []] (lkr l n b e ls o4 (some (.dat (lkD z) 0)) (some (.dat (.bool true) 0)) o7) S1 = some ([.dat (.str "dig") 0, .dat (.int n) 0, .dat (.tuple [.int b, .int e]) 0, .dat (.tuple ((ls ++ [z]).map lkD)) 0, .dat (.tuple []) 0], S1) by
          rw [e_cons]
          refine cons_of e_c ?_
          rw [e_cons]
          refine cons_of (w := .dat (.int n) 0) (S1 := S1) (by simp [lkr, W.fz]) ?_
          rw [e_cons]
          refine cons_of (w := .dat (.tuple [.int b, .int e]) 0) (S1 := S1) (by simp [lkr, W.fz]) ?_
          rw [e_cons]
          refine cons_of (e_catlk (by omega)) ?_
          rw [e_cons]
          exact cons_of (w := .dat (.tuple []) 0) (S1 := S1) (by simp [tupE, datAll]) e_nil]
        simp [datAll, LIM, Dg.d]
      · rw [c_law_with]
        exact w1
    have ec : evE (FT tab gl (k + 2)) gl (.and (.v 6) (.notN eWith)) (lkr l n b e ls o4 (some (.dat (lkD z) 0)) (some (.dat (.bool true) 0)) o7) S1 = some (.dat (.bool (!noneD d)) 0, S1) := by
      rw [e_and]
      refine (and_t (hv6 S1)).trans ?_
      rw [e_notN]
      exact notN_of ew
    cases hd : noneD d with
    | true =>
      rw [hd] at ec
      exact ⟨ls, some (.dat (lkD z) 0), some (.dat (.bool true) 0), S1, go (x_ifs.trans ((if_f ec).trans x_nil)) rfl, p1, up⟩
    | false =>
      rw [hd] at ec
      refine ⟨ls ++ [z], some (.dat (lkD z) 0), some (.dat (.bool true) 0), S1, go (x_ifs.trans (if_t ec)) ?_, p1, ⟨by rw [List.length_append]; show ls.length + 1 ≤ c + 1; omega, okz, ?_, fun u l w hm => ?_, w2 hd⟩⟩
      · rw [x_cons]
        refine (seq_nx (x_asg.trans (asg_of (e_catlk (by omega))))).trans (x_nil.trans ?_)
        rw [useR_keep (by
          have : ∀ ls : List (Option (Int × Int × Int)), nolAll (ls.map lkD) = true := fun ls => by
            induction ls with
            | nil => rfl
            | cons z ls ih =>
              cases z <;> simp [nolAll, lkD, nol, ih]
          simp only [W.keep, full]
          exact this _)]
        rfl
      · rw [prs_app]
        match z, q3 rfl with
        | none, _ =>
          show (prs ls ++ []).Nodup
          rw [List.append_nil]
          exact hs.nd
        | some (u, l, w), h =>
          show (prs ls ++ [(u, l)]).Nodup
          rw [List.nodup_append]
          refine ⟨hs.nd, by simp, fun a ha b hb e => ?_⟩
          rw [List.mem_singleton.mp hb] at e
          rw [e] at ha
          exact h u l w rfl ha
      · rcases List.mem_append.mp hm with hm | hm
        · exact hs.gap u l w hm
        · exact z2 u l w (List.mem_singleton.mp hm).symm
theorem r_links {l : Nat} {n b e : Int} (hp : PotAt l S) (n1 : 1 ≤ n) (n2 : n ≤ 4) (he : b ≤ e) : ∃ ls S', fn_law_links.run (FT tab gl (k + 2)) gl [.loc l, .dat (.int n) m, .dat (.tuple [.int b, .int e]) m1] S = some (.dat (.tuple (ls.map lkD)) 0, S') ∧ LkSt n b e ls 7 ∧ PotAt l S' := by
  have hb : fn_law_links.body = [.asg 3 (.tup []), .loop [4] true .range1 [.ite (.cmp .gt (.v 1) (.c (.int 1))) (.call "_law_draw" [.v 0, .bin .mul (.c (.int 2)) (.v 1)]) (.c (.int 0))] bodyLk, .retV 3] := rfl
  have st0 : LkSt n b e [] 0 := ⟨Nat.le_refl _, fun _ h => (by cases h), List.nodup_nil, fun _ _ _ h => (by cases h), fun i => if i = n then 0 else b, ⟨if_pos rfl, fun i h0 h1 => by
    show b ≤ (if i = n then 0 else b) ∧ (if i = n then 0 else b) ≤ e
    rw [if_neg (by have : i < n := h1; omega)]
    omega, fun _ _ _ h => (by cases h)⟩⟩
  have s1 : exS (FT tab gl (k + 2)) gl (.asg 3 (.tup [])) [some (.loc l), some (.dat (.int n) 0), some (.dat (.tuple [.int b, .int e]) 0), none, none, none, none, none] S = some (.nx (lkr l n b e [] none none none none) S) := by
    simp [asgE, tupE, datAll, useR, W.keep, full, nolAll, lkr]
  have fin : ∀ {d : Nat} {S1 S2 : Sto} {ls : List (Option (Int × Int × Int))} {o4 o5 o6 o7 : Option W}, evE (FT tab gl (k + 2)) gl (.ite (.cmp .gt (.v 1) (.c (.int 1))) (.call "_law_draw" [.v 0, .bin .mul (.c (.int 2)) (.v 1)]) (.c (.int 0))) (lkr l n b e [] none none none none) S = some (.dat (.int d) 0, S1) → d ≤ 7 →
      forGo [4] true (exSs (FT tab gl (k + 2)) gl bodyLk) ((List.range d).map fun i => PyData.int (i : Nat)) (lkr l n b e [] none none none none) S1 = some (.nx (lkr l n b e ls o4 o5 o6 o7) S2) → fn_law_links.run (FT tab gl (k + 2)) gl [.loc l, .dat (.int n) m, .dat (.tuple [.int b, .int e]) m1] S = some (.dat (.tuple (ls.map lkD)) 0, S2) := fun {d S1 S2 ls o4 o5 o6 o7} h1 h2 h3 => by
    refine run_rt (S1 := S) (us := [.loc l, .dat (.int n) 0, .dat (.tuple [.int b, .int e]) 0]) (by simp [fn_law_links, inWs, inW, W.fz]) ?_
    show exSs (FT tab gl (k + 2)) gl fn_law_links.body [some (.loc l), some (.dat (.int n) 0), some (.dat (.tuple [.int b, .int e]) 0), none, none, none, none, none] S = _
    rw [hb, x_cons]
    refine (seq_nx s1).trans ?_
    rw [x_cons]
    refine (seq_nx (x_loop.trans ((loop_of (S1 := S1) (ws := [.dat (.int (d : Nat)) 0]) (by rw [e_cons]; exact cons_of h1 e_nil) (items_r1 (by omega)) (by rw [List.length_map, List.length_range]; exact Nat.le_trans h2 (by decide))).trans (by
      unfold useAll
      rw [if_pos (show [W.dat (PyData.int ((d : Nat) : Int)) 0].all W.nl = true from rfl)]
      exact h3)))).trans ?_
    rw [x_cons]
    refine seq_rt ?_
    rw [x_retV]
    rfl
  by_cases h1 : 1 < n
  · obtain ⟨d, S1, q1, d1, d2, p1⟩ := e_draw (k := k + 1) (S := S) (l := l) (n := 2 * n) (r := lkr l n b e [] none none none none) (e := .bin .mul (.c (.int 2)) (.v 1)) rfl (fun T => by simp [lkr, binE, W.fz, binop, small]) hp (by omega) (by omega)
    obtain ⟨D, hD⟩ : ∃ D : Nat, d = D := ⟨d.toNat, by omega⟩
    subst hD
    obtain ⟨r', S', g1, ls, o4, o5, o6, o7, e1, e2, c, e3, e4⟩ := forGo_all (tg := [4]) (one := true) (body := exSs (FT tab gl (k + 2)) gl bodyLk) (xs := (List.range D).map fun i => PyData.int (i : Nat)) (r := lkr l n b e [] none none none none) (S := S1)
      (P := fun rest r S' => ∃ ls o4 o5 o6 o7, r = lkr l n b e ls o4 o5 o6 o7 ∧ PotAt l S' ∧ ∃ c, LkSt n b e ls c ∧ c + rest.length = D)
      ⟨[], none, none, none, none, rfl, p1, 0, st0, by simp⟩ fun x xs r S' ⟨ls, o4, o5, o6, o7, e1, e2, c, e3, e4⟩ => by
        subst e1
        rw [List.length_cons] at e4
        obtain ⟨ls', o5', o6', S2, g1, g2, g3⟩ := links_step (k := k) (S := S') (o4 := some (.dat x 0)) (o5 := o5) (o6 := o6) (o7 := o7) e2 h1 n2 e3 (by omega)
        exact ⟨_, rfl, _, S2, .inl g1, ls', _, _, _, _, rfl, g2, c + 1, g3, by omega⟩
    subst e1
    refine ⟨ls, S', fin (d := D) ?_ (by omega) g1, ⟨by have := e3.len; omega, e3.ok, e3.nd, e3.gap, e3.pot⟩, e2⟩
    rw [e_ite]
    exact (ite_t (m := 0) (S1 := S) (by simp [cmpE, lkr, W.fz, cmpop, h1])).trans q1
  · refine ⟨[], S, fin (d := 0) (S1 := S) ?_ (by omega) rfl, ⟨Nat.zero_le _, st0.ok, st0.nd, st0.gap, st0.pot⟩, hp⟩
    rw [e_ite]
    exact (ite_f (m := 0) (S1 := S) (by simp [cmpE, lkr, W.fz, cmpop, h1])).trans e_c
end K81
end

section
set_option maxRecDepth 100000
/-! K81AA: a drawn dig. -/
namespace K81
open PySem MP
variable {k : Nat} {S : Sto} {m m1 m2 m3 : Nat}

theorem asgP_of {is : List Nat} {es : Evs} {r r2 : Rho} {S1 : Sto} {ws : List W} (h1 : es r S = some (ws, S1)) (h2 : ws.all W.keep = true) (h3 : setWs is ws r = some r2) : asgPE is es r S = some (.nx r2 S1) := by
  unfold asgPE
  rw [h1]
  dsimp only
  rw [if_pos h2, h3]
theorem nol_lks (ls : List (Option (Int × Int × Int))) : nolAll (ls.map lkD) = true := by
  induction ls with
  | nil => rfl
  | cons z ls ih => cases z <;> simp [nolAll, lkD, nol, ih]
theorem nol_fd {n : Int} {f : PyData} (h : FdOk n f) : nol f = true := by
  rcases h with rfl | ⟨s, l, y, t, rfl, _⟩ <;> simp [nol, nolAll]
theorem nolAll_iff : ∀ {xs : List PyData}, nolAll xs = true ↔ ∀ x ∈ xs, nol x = true
  | [] => by simp [nolAll]
  | x :: xs => by simp [nolAll, nolAll_iff (xs := xs)]
def nr (l : Nat) (n b e : Int) (ls : List (Option (Int × Int × Int))) (w : Int) (fs : List PyData) (o10 : Option W) : Rho :=
  [some (.loc l), some (.dat (.int 4) 0), some (.dat (.int 5) 0), some (.dat (.int 2) 0), some (.dat (.int n) 0), some (.dat (.int b) 0), some (.dat (.int w) 0), some (.dat (.tuple [.int b, .int e]) 0), some (.dat (.tuple (ls.map lkD)) 0), some (.dat (.tuple fs) 0), o10]
def bodyN : List Sm := [.asg 9 (.bin .add (.v 9) (.tup [.ite (.cmp .gt (.call "_law_draw" [.v 0, .c (.int 9)]) (.c (.int 0))) (.call "_law_find" [.v 0, .v 4, .v 7]) (.tup [])]))]
theorem n_step {l : Nat} {n b e w : Int} {ls : List (Option (Int × Int × Int))} {fs : List PyData} {x : PyData} (hp : PotAt l S) (h1 : 1 ≤ n) (h2 : n ≤ 4) (b1 : -20 ≤ b) (b2 : b ≤ 20) (e1 : b ≤ e) (e2 : e ≤ b + 4) (hl : fs.length ≤ 10) :
    ∃ f S', exSs (FT tab gl (k + 3)) gl bodyN (nr l n b e ls w fs (some (.dat x 0))) S = some (.nx (nr l n b e ls w (fs ++ [f]) (some (.dat x 0))) S') ∧ PotAt l S' ∧ FdOk n f ∧ tame 1 f = true := by
  obtain ⟨d, S1, q1, d1, d2, p1⟩ := e_draw (k := k + 2) (l := l) (n := 9) (r := nr l n b e ls w fs (some (.dat x 0))) (e := .c (.int 9)) rfl (fun T => by simp) hp (by omega) (by omega)
  have key : ∃ f S', evE (FT tab gl (k + 3)) gl (.ite (.cmp .gt (.call "_law_draw" [.v 0, .c (.int 9)]) (.c (.int 0))) (.call "_law_find" [.v 0, .v 4, .v 7]) (.tup [])) (nr l n b e ls w fs (some (.dat x 0))) S = some (.dat f 0, S') ∧ PotAt l S' ∧ FdOk n f ∧ tame 1 f = true := by
    by_cases hd : 0 < d
    · obtain ⟨f, S2, q2, f1, p2, f2⟩ := r_find (k := k) (S := S1) (m := 0) (m1 := 0) p1 h1 h2 b1 b2 e1 e2
      refine ⟨f, S2, ?_, p2, f1, f2⟩
      rw [e_ite]
      refine (ite_t (m := 0) (S1 := S1) (by rw [e_cmp]; exact cmp_of q1 e_c (by simp [cmpop, hd]))).trans ?_
      rw [e_call]
      refine call_of (S1 := S1) (ws := [.loc l, .dat (.int n) 0, .dat (.tuple [.int b, .int e]) 0]) (by simp [consE, nr, W.fz]) ?_
      rw [c_law_find]
      exact q2
    · refine ⟨.tuple [], S1, ?_, p1, .inl rfl, rfl⟩
      rw [e_ite]
      refine (ite_f (m := 0) (S1 := S1) (by rw [e_cmp]; exact cmp_of q1 e_c (by simp [cmpop, hd]))).trans ?_
      simp [tupE, datAll]
  obtain ⟨f, S', q, p, f1, f2⟩ := key
  refine ⟨f, S', ?_, p, f1, f2⟩
  have ec : evE (FT tab gl (k + 3)) gl (.bin .add (.v 9) (.tup [.ite (.cmp .gt (.call "_law_draw" [.v 0, .c (.int 9)]) (.c (.int 0))) (.call "_law_find" [.v 0, .v 4, .v 7]) (.tup [])])) (nr l n b e ls w fs (some (.dat x 0))) S = some (.dat (.tuple (fs ++ [f])) 0, S') := by
    rw [e_bin]
    refine bin_of (d := .tuple fs) (m := 0) (S1 := S) (e := .tuple [f]) (m2 := 0) (by simp [nr, W.fz]) ?_ ?_
    · rw [e_tup]
      unfold tupE
      rw [show evEs (FT tab gl (k + 3)) gl [.ite (.cmp .gt (.call "_law_draw" [.v 0, .c (.int 9)]) (.c (.int 0))) (.call "_law_find" [.v 0, .v 4, .v 7]) (.tup [])] (nr l n b e ls w fs (some (.dat x 0))) S = some ([.dat f 0], S') by rw [e_cons]; exact cons_of q e_nil]
      simp [datAll, LIM]
    · simp only [binop]
      rw [if_pos (by
        have : LIM = 100000 := rfl
        show fs.length + 1 ≤ LIM
        omega)]
  unfold bodyN
  rw [x_cons]
  refine (seq_nx (x_asg.trans (asg_of ec))).trans (x_nil.trans ?_)
  rw [useR_same rfl]
  rfl
theorem r_narrow {l : Nat} (hp : PotAt l S) : ∃ g S', fn_law_narrow.run (FT tab gl (k + 3)) gl [.loc l, .dat (.int 4) m, .dat (.int 5) m1, .dat (.int 2) m2] S = some (.dat g.d 0, S') ∧ g.Ok ∧ (∃ p, Pot g p) ∧ PotAt l S' ∧ (∀ f ∈ g.fs, tame 1 f = true) ∧ g.ls.length ≤ 7 ∧ g.fs.length ≤ 2 := by
  have hb : fn_law_narrow.body = [.asgP [4, 5, 6] [.bin .add (.c (.int 1)) (.call "_law_draw" [.v 0, .v 1]), .bin .sub (.call "_law_draw" [.v 0, .c (.int 41)]) (.c (.int 20)), .call "_law_draw" [.v 0, .v 2]],
   .asg 7 (.tup [.v 5, .bin .add (.v 5) (.v 6)]),
   .asgP [8, 9] [.call "_law_links" [.v 0, .v 4, .v 7], .tup []],
   .loop [10] true .range1 [.call "_law_draw" [.v 0, .bin .add (.v 3) (.c (.int 1))]] bodyN,
   .ret (.tup [.c (.str "dig"), .v 4, .v 7, .v 8, .v 9])] := rfl
  obtain ⟨d1, S1, q1, a1, a2, p1⟩ := e_draw (k := k + 2) (S := S) (l := l) (n := 4) (r := [some (.loc l), some (.dat (.int 4) 0), some (.dat (.int 5) 0), some (.dat (.int 2) 0), none, none, none, none, none, none, none]) (e := .v 1) rfl (fun T => by simp [W.fz]) hp (by omega) (by omega)
  obtain ⟨d2, S2, q2, b1, b2, p2⟩ := e_draw (k := k + 2) (S := S1) (l := l) (n := 41) (r := [some (.loc l), some (.dat (.int 4) 0), some (.dat (.int 5) 0), some (.dat (.int 2) 0), none, none, none, none, none, none, none]) (e := .c (.int 41)) rfl (fun T => by simp) p1 (by omega) (by omega)
  obtain ⟨d3, S3, q3, c1, c2, p3⟩ := e_draw (k := k + 2) (S := S2) (l := l) (n := 5) (r := [some (.loc l), some (.dat (.int 4) 0), some (.dat (.int 5) 0), some (.dat (.int 2) 0), none, none, none, none, none, none, none]) (e := .v 2) rfl (fun T => by simp [W.fz]) p2 (by omega) (by omega)
  obtain ⟨ls, S4, q4, st, p4⟩ := r_links (k := k) (S := S3) (m := 0) (m1 := 0) (l := l) (n := 1 + d1) (b := d2 - 20) (e := d2 - 20 + d3) p3 (by omega) (by omega) (by omega)
  obtain ⟨d5, S5, q5, e1, e2, p5⟩ := e_draw (k := k + 2) (S := S4) (l := l) (n := 3) (r := nr l (1 + d1) (d2 - 20) (d2 - 20 + d3) ls d3 [] none) (e := .bin .add (.v 3) (.c (.int 1))) rfl (fun T => by simp [nr, binE, W.fz, binop]) p4 (by omega) (by omega)
  obtain ⟨D, hD⟩ : ∃ D : Nat, d5 = D := ⟨d5.toNat, by omega⟩
  subst hD
  obtain ⟨r', S6, g1, fs, o10, g2, g3, g4, g5⟩ := forGo_all (tg := [10]) (one := true) (body := exSs (FT tab gl (k + 3)) gl bodyN) (xs := (List.range D).map fun i => PyData.int (i : Nat)) (r := nr l (1 + d1) (d2 - 20) (d2 - 20 + d3) ls d3 [] none) (S := S5)
    (P := fun rest r S' => ∃ fs o10, r = nr l (1 + d1) (d2 - 20) (d2 - 20 + d3) ls d3 fs o10 ∧ PotAt l S' ∧ fs.length + rest.length = D ∧ ∀ f ∈ fs, FdOk (1 + d1) f ∧ tame 1 f = true)
    ⟨[], none, rfl, p5, by simp, fun _ z => (by cases z)⟩ fun x xs r S' ⟨fs, o10, g1, g2, g3, g4⟩ => by
      subst g1
      rw [List.length_cons] at g3
      obtain ⟨f, S2', h1, h2, h3, h4⟩ := n_step (k := k) (S := S') (l := l) (n := 1 + d1) (b := d2 - 20) (e := d2 - 20 + d3) (w := d3) (ls := ls) (fs := fs) (x := x) g2 (by omega) (by omega) (by omega) (by omega) (by omega) (by omega) (by omega)
      refine ⟨_, rfl, _, S2', .inl h1, fs ++ [f], _, rfl, h2, by rw [List.length_append, List.length_singleton]; omega, fun y hy => ?_⟩
      rcases List.mem_append.mp hy with hy | hy
      · exact g4 y hy
      · rw [List.mem_singleton.mp hy]
        exact ⟨h3, h4⟩
  subst g2
  rw [List.length_nil] at g4
  have lsl := st.len
  refine ⟨⟨1 + d1, d2 - 20, d2 - 20 + d3, ls, fs⟩, S6, run_rt (S1 := S) (us := [.loc l, .dat (.int 4) 0, .dat (.int 5) 0, .dat (.int 2) 0]) (by simp [fn_law_narrow, inWs, inW, W.fz]) ?_, ⟨?_, ?_, ?_, ?_, ?_, ?_, ?_, st.ok, st.nd, st.gap, ?_, fun x hx => (g5 x hx).1⟩, ?_, g3, fun f hf => (g5 f hf).2, st.len, ?_⟩
  · show exSs (FT tab gl (k + 3)) gl fn_law_narrow.body [some (.loc l), some (.dat (.int 4) 0), some (.dat (.int 5) 0), some (.dat (.int 2) 0), none, none, none, none, none, none, none] S = _
    rw [hb, x_cons]
    refine (seq_nx (r1 := [some (.loc l), some (.dat (.int 4) 0), some (.dat (.int 5) 0), some (.dat (.int 2) 0), some (.dat (.int (1 + d1)) 0), some (.dat (.int (d2 - 20)) 0), some (.dat (.int d3) 0), none, none, none, none]) (S1 := S3) (x_asgP.trans (asgP_of (ws := [.dat (.int (1 + d1)) 0, .dat (.int (d2 - 20)) 0, .dat (.int d3) 0]) ?_ rfl rfl))).trans ?_
    · rw [e_cons]
      refine cons_of (by rw [e_bin]; exact bin_of e_c q1 rfl) ?_
      rw [e_cons]
      refine cons_of (by rw [e_bin]; exact bin_of q2 e_c rfl) ?_
      rw [e_cons]
      exact cons_of q3 e_nil
    rw [x_cons]
    refine (seq_nx (r1 := [some (.loc l), some (.dat (.int 4) 0), some (.dat (.int 5) 0), some (.dat (.int 2) 0), some (.dat (.int (1 + d1)) 0), some (.dat (.int (d2 - 20)) 0), some (.dat (.int d3) 0), some (.dat (.tuple [.int (d2 - 20), .int (d2 - 20 + d3)]) 0), none, none, none]) (S1 := S3) ?_).trans ?_
    · simp [asgE, tupE, consE, binE, W.fz, binop, datAll, LIM, useR, W.keep, full, nolAll, nol]
    rw [x_cons]
    refine (seq_nx (r1 := nr l (1 + d1) (d2 - 20) (d2 - 20 + d3) ls d3 [] none) (S1 := S4) (x_asgP.trans (asgP_of (ws := [.dat (.tuple (ls.map lkD)) 0, .dat (.tuple []) 0]) ?_ ?_ rfl))).trans ?_
    · rw [e_cons]
      refine cons_of (S1 := S4) (w := .dat (.tuple (ls.map lkD)) 0) ?_ (by simp [consE, tupE, datAll])
      rw [e_call]
      refine call_of (S1 := S3) (ws := [.loc l, .dat (.int (1 + d1)) 0, .dat (.tuple [.int (d2 - 20), .int (d2 - 20 + d3)]) 0]) (by simp [consE, W.fz]) ?_
      rw [c_law_links]
      exact q4
    · simp only [List.all_cons, List.all_nil, W.keep, full, nol_lks, nolAll, Bool.and_self]
    rw [x_cons]
    refine (seq_nx (x_loop.trans ((loop_of (S1 := S5) (ws := [.dat (.int (D : Nat)) 0]) (by rw [e_cons]; exact cons_of q5 e_nil) (items_r1 (by omega)) (by rw [List.length_map, List.length_range]; exact Nat.le_trans (by omega : D ≤ 10) (by decide))).trans (by
      unfold useAll
      rw [if_pos (show [W.dat (PyData.int ((D : Nat) : Int)) 0].all W.nl = true from rfl)]
      exact g1)))).trans ?_
    rw [x_cons]
    refine seq_rt ?_
    rw [x_ret]
    refine ret_of ?_
    simp [nr, tupE, consE, W.fz, datAll, LIM, Dg.d]
  · show 1 ≤ 1 + d1; omega
  · show 1 + d1 ≤ 4; omega
  · show -20 ≤ d2 - 20; omega
  · show d2 - 20 ≤ 20; omega
  · show d2 - 20 ≤ d2 - 20 + d3; omega
  · show d2 - 20 + d3 ≤ d2 - 20 + 4; omega
  · show ls.length ≤ 12; omega
  · show fs.length ≤ 12; omega
  · obtain ⟨p, hp⟩ := st.pot
    exact ⟨p, hp.z, hp.lay, hp.lk⟩
  · show fs.length ≤ 2; omega
end K81
end

section
set_option maxRecDepth 100000
/-! K81AB: a drawn phase. -/
namespace K81
open PySem MP
variable {k : Nat} {S : Sto} {m m1 m2 m3 : Nat}

def iD (l : List Nat) : PyData := .list (l.map fun i => .int (i : Nat))
theorem lay_ints {α : Type} (f : α → Int) : ∀ l : List α, PyData.canLayAll0 (l.map fun i => .int (f i)) = true ∧ PyData.depthAll (l.map fun i => .int (f i)) = 0
  | [] => ⟨rfl, rfl⟩
  | a :: l => by
    obtain ⟨h1, h2⟩ := lay_ints f l
    constructor
    · rw [List.map_cons]
      simp only [PyData.canLayAll0, PyData.canLay0, h1, Bool.and_self]
    · rw [List.map_cons]
      simp only [PyData.depthAll, PyData.depth, h2, Nat.max_self]
theorem sh_ints {α : Type} (f : α → Int) (l : List α) : SeqAt.shaped (.list (l.map fun i => .int (f i))) = true := by
  obtain ⟨h1, h2⟩ := lay_ints f l
  unfold SeqAt.shaped
  simp only [PyData.canLay0, PyData.depth, h1, h2, Bool.true_and]
  decide
theorem cmp_ne {d e : PyData} (hd : SeqAt.shaped d = true) (he : SeqAt.shaped e = true) : cmpop .ne d e = some (!PyData.eqv d e) := by
  simp only [cmpop]
  rw [if_pos (by rw [hd, he]; rfl)]
theorem cmp_eq {d e : PyData} (hd : SeqAt.shaped d = true) (he : SeqAt.shaped e = true) : cmpop .eq d e = some (PyData.eqv d e) := by
  simp only [cmpop]
  rw [if_pos (by rw [hd, he]; rfl)]
theorem sh_l0 : SeqAt.shaped (.list []) = true := by decide +kernel
theorem appPop_of {x y : Nat} {ea : Ev} {r : Rho} {S1 : Sto} {i : Int} {m n mm j : Nat} {xs ys : List PyData} {d : PyData} (h1 : ea r S = some (.dat (.int i) m, S1)) (hx : r[x]? = some (some (.dat (.list xs) (n + 1)))) (hy : r[y]? = some (some (.dat (.list ys) (mm + 1)))) (hk : ixD ys.length i = some j) (hd : ys[j]? = some d)
    (hc : (nol d && decide (x ≠ y) && decide (xs.length < LIM) && decide (-(2 ^ 63) ≤ i ∧ i < 2 ^ 63)) = true) : appPopE x y ea r S = some (.nx ((r.set y (some (.dat (.list (ys.eraseIdx j)) (mm + 1)))).set x (some (.dat (.list (xs ++ [d])) (n + 1)))) S1) := by
  unfold appPopE
  rw [h1]
  dsimp only
  rw [hx, hy]
  dsimp only
  rw [hk]
  dsimp only
  rw [hd]
  dsimp only
  rw [if_pos hc]
theorem erase_map {α β : Type} (f : α → β) : ∀ (l : List α) (j : Nat), (l.map f).eraseIdx j = (l.eraseIdx j).map f
  | [], _ => rfl
  | _ :: _, 0 => rfl
  | a :: l, j + 1 => by
    show f a :: (l.map f).eraseIdx j = f a :: (l.eraseIdx j).map f
    rw [erase_map f l j]
theorem erase_perm {α : Type} : ∀ {l : List α} {j : Nat} (h : j < l.length), (l[j] :: l.eraseIdx j).Perm l
  | a :: l, 0, _ => List.Perm.refl _
  | a :: l, j + 1, h => by
    have h' : j < l.length := Nat.lt_of_succ_lt_succ h
    show (l[j] :: a :: l.eraseIdx j).Perm (a :: l)
    exact (List.Perm.swap _ _ _).trans (List.Perm.cons a (erase_perm h'))
theorem full_nol {n : Nat} {x : PyData} (h : nol x = true) : full x n = true := by
  cases x with
  | list _ => cases h
  | dict _ => cases h
  | tuple xs => exact h
  | _ => rfl
theorem fullAll_nol {n : Nat} : ∀ {xs : List PyData}, nolAll xs = true → fullAll xs n = true
  | [], _ => rfl
  | x :: xs, h => by
    rw [nolAll, Bool.and_eq_true] at h
    rw [fullAll, full_nol h.1, fullAll_nol h.2]
    rfl
def phr (l : Nat) (D : PyData) (lf fd : List Nat) (o5 : Option W) : Rho := [some (.loc l), some (.dat D 0), some (.dat (.int 2) 0), some (.dat (iD lf) 1), some (.dat (iD fd) 2), o5]
def bodyPh : List Sm := [.ifs (.cmp .ne (.v 3) (.lst [])) [.appPop 4 3 (.call "_law_draw" [.v 0, .bi .len [.v 3]])] []]
theorem ph_step {l : Nat} {D : PyData} {lf fd : List Nat} {o5 : Option W} (hp : PotAt l S) (h1 : 1 ≤ lf.length) (h2 : lf.length ≤ 4) (h3 : fd.length ≤ 4) :
    ∃ (j : Nat) (hj : j < lf.length) (S' : Sto), exSs (FT tab gl (k + 1)) gl bodyPh (phr l D lf fd o5) S = some (.nx (phr l D (lf.eraseIdx j) (fd ++ [lf[j]]) o5) S') ∧ PotAt l S' := by
  obtain ⟨d, S1, q1, d1, d2, p1⟩ := e_draw (k := k) (l := l) (n := lf.length) (r := phr l D lf fd o5) (e := .bi .len [.v 3]) rfl (fun T => by
    have : lf.length ≤ 100000 := by omega
    simp [biE, consE, phr, iD, W.fz, biop, LIM, this]) hp (by omega) (by omega)
  obtain ⟨j, hj⟩ : ∃ j : Nat, d = j := ⟨d.toNat, by omega⟩
  subst hj
  have hj : j < lf.length := by omega
  refine ⟨j, hj, S1, ?_, p1⟩
  have ec : cmpop .ne (iD lf) (.list []) = some true := by
    unfold iD
    rw [cmp_ne (sh_ints (fun i : Nat => (i : Int)) lf) sh_l0, eqv_l0]
    cases lf with
    | nil => cases h1
    | cons a r => rfl
  unfold bodyPh
  rw [x_cons]
  refine (seq_nx (x_ifs.trans ?_)).trans x_nil
  refine (if_t (m := 0) (S1 := S) (r := phr l D lf fd o5) ?_).trans ?_
  · rw [e_cmp]
    exact cmp_of (d := iD lf) (m := 0) (S1 := S) (S2 := S) (by simp [phr, W.fz]) (e := .list []) (m2 := 2) (by simp [lstE, datAll, dOf]) ec
  · rw [x_cons]
    refine (seq_nx (x_appPop.trans (appPop_of (S1 := S1) (xs := fd.map fun i => .int (i : Nat)) (ys := lf.map fun i => .int (i : Nat)) (n := 1) (mm := 0) (j := j) (d := .int (lf[j] : Nat)) q1 rfl rfl ?_ ?_ ?_))).trans (x_nil.trans ?_)
    · rw [List.length_map]
      exact ix_nat hj
    · rw [List.getElem?_map, List.getElem?_eq_getElem hj]
      rfl
    · have : LIM = 100000 := rfl
      rw [List.length_map]
      simp only [nol, Bool.true_and, Bool.and_eq_true, decide_eq_true_eq]
      refine ⟨⟨by decide, by omega⟩, by omega, by omega⟩
    · rw [erase_map]
      unfold phr iD
      rw [List.map_append]
      rfl
theorem up_of : ∀ {l : List Nat}, l.Pairwise (· < ·) → Up l
  | [], _ => trivial
  | [_], _ => trivial
  | a :: b :: r, h => by
    have h := List.pairwise_cons.mp h
    exact ⟨h.1 b (by simp), up_of h.2⟩
theorem sort_ph {fd : List Nat} (hd : fd.Nodup) : ∃ ph : List Nat, (sortI (fd.map fun i : Nat => (i : Int))).map PyData.int = ph.map (fun i => PyData.int (i : Nat)) ∧ ph.Perm fd ∧ Up ph := by
  have hperm := sortI_perm (fd.map fun i : Nat => (i : Int))
  have hs := sortI_sorted (fd.map fun i : Nat => (i : Int))
  have nn : ∀ x ∈ sortI (fd.map fun i : Nat => (i : Int)), 0 ≤ x := fun x hx => by
    obtain ⟨i, _, rfl⟩ := List.mem_map.mp (hperm.mem_iff.mp hx)
    omega
  have pm : ((sortI (fd.map fun i : Nat => (i : Int))).map Int.toNat).Perm fd := by
    have := hperm.map Int.toNat
    rw [List.map_map] at this
    have e : (Int.toNat ∘ fun i : Nat => (i : Int)) = id := by
      funext i
      simp
    rw [e, List.map_id] at this
    exact this
  refine ⟨(sortI (fd.map fun i : Nat => (i : Int))).map Int.toNat, ?_, pm, up_of ?_⟩
  · rw [List.map_map]
    refine List.map_congr_left fun x hx => ?_
    have := nn x hx
    show PyData.int x = .int ((x.toNat : Nat) : Int)
    rw [Int.toNat_of_nonneg this]
  · have nd : ((sortI (fd.map fun i : Nat => (i : Int))).map Int.toNat).Nodup := pm.nodup_iff.mpr hd
    have le : ((sortI (fd.map fun i : Nat => (i : Int))).map Int.toNat).Pairwise (· ≤ ·) := by
      rw [List.pairwise_map]
      exact hs.imp fun {a b} h => by omega
    exact (le.and nd).imp fun {a b} h => by
      have h1 := h.1
      have h2 := h.2
      omega
theorem r_phase {l : Nat} {g : Dg} (hp : PotAt l S) (n1 : 2 ≤ g.n) (n2 : g.n ≤ 4) : ∃ ph S', fn_law_phase.run (FT tab gl (k + 1)) gl [.loc l, .dat g.d m, .dat (.int 2) m1] S = some (.dat (phD ph) 0, S') ∧ PhOk g.n ph ∧ 2 ≤ ph.length ∧ PotAt l S' := by
  have hb : fn_law_phase.body = [.asgP [3, 4] [.bi .listrng [.idx (.v 1) (.c (.int 1))], .lst []],
   .loop [5] true .range1 [.bin .add (.v 2) (.call "_law_draw" [.v 0, .bi .max2 [.c (.int 1), .bin .add (.bin .sub (.idx (.v 1) (.c (.int 1))) (.v 2)) (.c (.int 1))]])] bodyPh,
   .ret (.bi .tuple [.bi .sorted [.v 4]])] := rfl
  obtain ⟨N, hN⟩ : ∃ N : Nat, g.n = N := ⟨g.n.toNat, by omega⟩
  have mx : (if g.n - 2 + 1 > 1 then g.n - 2 + 1 else 1) = g.n - 1 := by split <;> omega
  obtain ⟨d, S1, q1, d1, d2, p1⟩ := e_draw (k := k) (l := l) (n := g.n - 1) (r := phr l g.d (List.range N) [] none) (e := .bi .max2 [.c (.int 1), .bin .add (.bin .sub (.idx (.v 1) (.c (.int 1))) (.v 2)) (.c (.int 1))]) rfl (fun T => by
    simp [biE, consE, phr, W.fz, binE, idxE, Dg.d, idxop, ixD, binop, biop]
    omega) hp (by omega) (by omega)
  obtain ⟨D, hD⟩ : ∃ D : Nat, d = D := ⟨d.toNat, by omega⟩
  subst hD
  obtain ⟨r', S2, g1, lf, fd, o5, e1, e2, e3, e4, e5⟩ := forGo_all (tg := [5]) (one := true) (body := exSs (FT tab gl (k + 1)) gl bodyPh) (xs := (List.range (2 + D)).map fun i => PyData.int (i : Nat)) (r := phr l g.d (List.range N) [] none) (S := S1)
    (P := fun rest r S' => ∃ lf fd o5, r = phr l g.d lf fd o5 ∧ PotAt l S' ∧ (fd ++ lf).Perm (List.range N) ∧ fd.length + rest.length = 2 + D ∧ fd.length + lf.length = N)
    ⟨List.range N, [], none, rfl, p1, by simp, by simp, by simp⟩ fun x xs r S' ⟨lf, fd, o5, e1, e2, e3, e4, e5⟩ => by
      subst e1
      rw [List.length_cons] at e4
      obtain ⟨j, hj, S2, g1, g2⟩ := ph_step (k := k) (S := S') (D := g.d) (lf := lf) (fd := fd) (o5 := some (.dat x 0)) e2 (by omega) (by omega) (by omega)
      refine ⟨_, rfl, _, S2, .inl g1, _, _, _, rfl, g2, ?_, by rw [List.length_append, List.length_singleton]; omega, ?_⟩
      · refine List.Perm.trans ?_ e3
        rw [List.append_assoc]
        exact List.Perm.append_left fd (erase_perm hj)
      · rw [List.length_append, List.length_singleton, List.length_eraseIdx_of_lt hj]
        omega
  subst e1
  rw [List.length_nil] at e4
  have nd : (fd ++ lf).Nodup := e3.nodup_iff.mpr List.nodup_range
  obtain ⟨ph, s1, s2, s3⟩ := sort_ph (List.nodup_append.mp nd).1
  have hl : ph.length = fd.length := s2.length_eq
  refine ⟨ph, S2, run_rt (S1 := S) (us := [.loc l, .dat g.d 0, .dat (.int 2) 0]) (by simp [fn_law_phase, inWs, inW, W.fz]) ?_, ⟨by omega, by omega, fun i hi => ?_, s3⟩, by omega, e2⟩
  · show exSs (FT tab gl (k + 1)) gl fn_law_phase.body [some (.loc l), some (.dat g.d 0), some (.dat (.int 2) 0), none, none, none] S = _
    rw [hb, x_cons]
    refine (seq_nx (r1 := phr l g.d (List.range N) [] none) (S1 := S) (x_asgP.trans (asgP_of (ws := [.dat (iD (List.range N)) 1, .dat (.list []) 2]) ?_ ?_ rfl))).trans ?_
    · have a1 : (0 : Int) ≤ g.n := by omega
      have a2 : g.n < 1000000 := by omega
      have a3 : g.n.toNat = N := by omega
      simp [consE, biE, idxE, W.fz, Dg.d, idxop, ixD, biop, a1, a2, a3, iD, lstE, datAll, dOf]
    · have : nolAll ((List.range N).map fun i => PyData.int (i : Nat)) = true := nolAll_iff.mpr fun x hx => by
        obtain ⟨i, _, rfl⟩ := List.mem_map.mp hx
        rfl
      simp only [List.all_cons, List.all_nil, W.keep, full, iD, fullAll_nol this, fullAll, Bool.and_self]
    rw [x_cons]
    refine (seq_nx (x_loop.trans ((loop_of (S1 := S1) (ws := [.dat (.int ((2 + D : Nat) : Int)) 0]) (by
      rw [e_cons]
      refine cons_of ?_ e_nil
      rw [e_bin]
      exact bin_of (d := .int 2) (m := 0) (S1 := S) (by simp [phr, W.fz]) q1 (by simp [binop])) (items_r1 (by omega)) (by rw [List.length_map, List.length_range]; exact Nat.le_trans (by omega : 2 + D ≤ 10) (by decide))).trans (by
      unfold useAll
      rw [if_pos (show [W.dat (PyData.int ((2 + D : Nat) : Int)) 0].all W.nl = true from rfl)]
      exact g1)))).trans ?_
    rw [x_cons]
    refine seq_rt ?_
    rw [x_ret]
    refine ret_of ?_
    have ai : allInts (fd.map fun i => PyData.int (i : Nat)) = some (fd.map fun i : Nat => (i : Int)) := allInts_map (p := fun i : Nat => (i : Int))
    simp [phr, biE, consE, W.fz, iD, biop, ai, s1, phD]
  · have : i ∈ fd ++ lf := List.mem_append_left _ (s2.mem_iff.mp hi)
    have := List.mem_range.mp (e3.mem_iff.mp this)
    omega
end K81
end

section
set_option maxRecDepth 100000
/-! K81AC: worlds. -/
namespace K81
open PySem MP
variable {k : Nat} {S : Sto} {m m1 m2 m3 : Nat} {F : Fns}

def wD (w : List Int) : PyData := .tuple (w.map PyData.int)
theorem nol_ints (w : List Int) : nolAll (w.map PyData.int) = true := nolAll_iff.mpr fun x hx => by
  obtain ⟨i, _, rfl⟩ := List.mem_map.mp hx
  rfl
theorem keep_nol {n : Nat} {xs : List PyData} (h : nolAll xs = true) : (W.dat (.list xs) (n + 1)).keep = true := by
  simp only [W.keep, full]
  exact fullAll_nol h
theorem extd_of {x : Nat} {ea : Ev} {r : Rho} {S1 : Sto} {xs ys : List PyData} {m n : Nat} (h1 : ea r S = some (.dat (.list ys) m, S1)) (hk : (W.dat (.list ys) m).keep = true) (hx : r[x]? = some (some (.dat (.list xs) (n + 1)))) (hl : xs.length + ys.length ≤ LIM) (hn : nolAll ys = true) :
    extdE x ea r S = some (.nx (r.set x (some (.dat (.list (xs ++ ys)) (n + 1)))) S1) := by
  unfold extdE
  rw [h1]
  dsimp only
  rw [useR_keep hk, hx]
  dsimp only
  rw [if_pos hl, if_pos hn]
theorem compGo_mapd {α : Type} {f : PyData → Sto → Option (Option (PyData × Nat) × Sto)} {d : α → PyData} {g : α → PyData × Nat} : ∀ {as : List α}, (∀ a ∈ as, f (d a) S = some (some (g a), S)) → compGo f (as.map d) S = some (as.map g, S)
  | [], _ => rfl
  | a :: as, h => by
    rw [List.map_cons, List.map_cons]
    unfold compGo
    rw [h a (by simp)]
    dsimp only
    rw [compGo_mapd (as := as) fun b hb => h b (by simp [hb])]
theorem comp_mapd {α : Type} {elt : E} {tg : List Nat} {one : Bool} {kk : Ik} {its ifs : List E} {r : Rho} {S1 : Sto} {ws : List W} {as : List α} {d : α → PyData} {g : α → PyData × Nat} (h1 : evEs F gl its r S = some (ws, S1)) (h2 : items kk ws = some (as.map d)) (h3 : as.length ≤ LIM)
    (h4 : ∀ a ∈ as, stepE (evE F gl elt) (evTs F gl ifs) tg one r (d a) S1 = some (some (g a), S1)) (h5 : ∀ a ∈ as, isL (g a).1 = false ∨ (g a).2 ≠ 0) : evE F gl (.comp elt tg one kk its ifs) r S = some (.dat (.list (as.map fun a => (g a).1)) 2, S1) := by
  have e := comp_of h1 h2 (by rw [List.length_map]; exact h3) (compGo_mapd h4)
  rw [dOf_two (fun y hy => by
    obtain ⟨a, ha, rfl⟩ := List.mem_map.mp hy
    exact h5 a ha), List.map_map] at e
  exact e
def eYears : E := .comp (.bin .add (.v 4) (.tup [.v 5])) [5] true .range2 [.idx (.idx (.v 0) (.c (.int 2))) (.c (.int 0)), .bin .add (.idx (.idx (.v 0) (.c (.int 2))) (.c (.int 1))) (.c (.int 1))] []
def bodyW1 : List Sm := [.extd 3 eYears]
def onw (g : Dg) (w : List Int) : List (List Int) := (List.range (g.e + 1 - g.b).toNat).map fun i => w ++ [g.b + (i : Nat)]
theorem e_years {g : Dg} {w : List Int} {A B C o5 o6 : Option W} (b1 : -20 ≤ g.b) (b2 : g.b ≤ 20) (e1 : g.b ≤ g.e) (e2 : g.e ≤ g.b + 4) (hw : w.length ≤ 10) :
    evE F gl eYears [some (.dat g.d 0), A, B, C, some (.dat (wD w) 0), o5, o6] S = some (.dat (.list ((onw g w).map wD)) 2, S) := by
  have e := comp_mapd (F := F) (S := S) (S1 := S) (elt := .bin .add (.v 4) (.tup [.v 5])) (tg := [5]) (one := true) (kk := .range2) (its := [.idx (.idx (.v 0) (.c (.int 2))) (.c (.int 0)), .bin .add (.idx (.idx (.v 0) (.c (.int 2))) (.c (.int 1))) (.c (.int 1))]) (ifs := []) (r := [some (.dat g.d 0), A, B, C, some (.dat (wD w) 0), o5, o6]) (ws := [.dat (.int g.b) 0, .dat (.int (g.e + 1)) 0])
    (as := List.range (g.e + 1 - g.b).toNat) (d := fun i => PyData.int (g.b + (i : Nat))) (g := fun i => (wD (w ++ [g.b + (i : Nat)]), 0)) (by simp [consE, idxE, binE, W.fz, Dg.d, idxop, ixD, binop]) (by
      simp only [items]
      rw [if_pos ⟨by omega, by omega, by omega, by omega, by omega⟩]) (by rw [List.length_range]; exact Nat.le_trans (by omega : (g.e + 1 - g.b).toNat ≤ 10) (by decide)) (fun i _ => by
      refine step_one ?_
      have : (w.map PyData.int).length + [PyData.int (g.b + (i : Nat))].length ≤ LIM := by
        rw [List.length_map, List.length_singleton]
        have : LIM = 100000 := rfl
        omega
      have cat : binop .add (wD w) (.tuple [.int (g.b + (i : Nat))]) = some (.dat (wD (w ++ [g.b + (i : Nat)])) 0) := by
        simp only [binop, wD]
        rw [if_pos this, List.map_append]
        rfl
      simp [binE, tupE, consE, W.fz, datAll, LIM, cat]) fun _ _ => .inl rfl
  unfold eYears onw
  rw [e, List.map_map]
  rfl
theorem onw_len {g : Dg} {w : List Int} (h : g.e ≤ g.b + 4) : (onw g w).length ≤ 5 := by
  unfold onw
  rw [List.length_map, List.length_range]
  omega
def wr (g : Dg) (a : List (List Int)) (ma : Nat) (o2 : Option W) (b : Option W) (o4 : Option W) : Rho := [some (.dat g.d 0), some (.dat (.list (a.map wD)) ma), o2, b, o4, none, none]
theorem w1_loop {g : Dg} {t : Nat} {rows : List (List Int)} {o2 o4 : Option W} (b1 : -20 ≤ g.b) (b2 : g.b ≤ 20) (e1 : g.b ≤ g.e) (e2 : g.e ≤ g.b + 4) (ht : t ≤ 5) (hr : ∀ w ∈ rows, w.length = t) (hl : rows.length ≤ 1000) :
    ∃ (ls : List (List Int)) (o4' : Option W), forGo [4] true (exSs F gl bodyW1) (rows.map wD) (wr g rows 0 o2 (some (.dat (.list []) 2)) o4) S = some (.nx (wr g rows 0 o2 (some (.dat (.list (ls.map wD)) 2)) o4') S) ∧ (∀ w ∈ ls, w.length = t + 1) ∧ ls.length ≤ 5 * rows.length := by
  obtain ⟨r', S', g1, rfl, ls, o4', td, h1, h2, h3, h4, rfl⟩ := forGo_all (tg := [4]) (one := true) (body := exSs F gl bodyW1) (xs := rows.map wD) (r := wr g rows 0 o2 (some (.dat (.list []) 2)) o4) (S := S)
    (P := fun rest r S' => S' = S ∧ ∃ (ls : List (List Int)) (o4 : Option W), ∃ td : List (List Int), rest = td.map wD ∧ (∀ w ∈ td, w.length = t) ∧ (∀ w ∈ ls, w.length = t + 1) ∧ ls.length + 5 * td.length ≤ 5 * rows.length ∧ r = wr g rows 0 o2 (some (.dat (.list (ls.map wD)) 2)) o4)
    ⟨rfl, [], o4, rows, rfl, hr, fun _ z => (by cases z), by simp, rfl⟩ fun x xs r S' ⟨e0, ls, o4, td, h1, h2, h3, h4, h5⟩ => by
      subst e0
      subst h5
      match td, h1 with
      | w :: td, h1 =>
        injection h1 with h6 h7
        subst h6
        have hw := h2 w (by simp)
        rw [List.length_cons] at h4
        have ol := onw_len (w := w) e2
        have ev := e_years (F := F) (S := S') (A := some (.dat (.list (rows.map wD)) 0)) (B := o2) (C := some (.dat (.list (ls.map wD)) 2)) (o5 := none) (o6 := none) (w := w) b1 b2 e1 e2 (by omega)
        have hn : nolAll ((onw g w).map wD) = true := nolAll_iff.mpr fun y hy => by
          obtain ⟨z, _, rfl⟩ := List.mem_map.mp hy
          exact nol_ints z
        refine ⟨_, rfl, wr g rows 0 o2 (some (.dat (.list ((ls ++ onw g w).map wD)) 2)) (some (.dat (wD w) 0)), S', .inl ?_, rfl, ls ++ onw g w, _, td, h7, fun y hy => h2 y (by simp [hy]), fun y hy => ?_, ?_, rfl⟩
        · unfold bodyW1
          rw [x_cons]
          refine (seq_nx (x_extd.trans (extd_of (n := 1) (xs := ls.map wD) ev (keep_nol hn) rfl ?_ hn))).trans (x_nil.trans ?_)
          · rw [List.length_map, List.length_map]
            have : LIM = 100000 := rfl
            omega
          · rw [← List.map_append]
            rfl
        · rcases List.mem_append.mp hy with hy | hy
          · exact h3 y hy
          · obtain ⟨i, _, rfl⟩ := List.mem_map.mp hy
            rw [List.length_append, hw]
            rfl
        · rw [List.length_append]
          omega
  have e7 : td = [] := by
    cases td with
    | nil => rfl
    | cons a l => cases h1
  subst e7
  exact ⟨ls, o4', g1, h3, by simpa using h4⟩
def bodyW2 : List Sm := [.asg 3 (.lst []), .loopV [4] true .seq 1 bodyW1, .asgV 1 3]
theorem w2_step {g : Dg} {t : Nat} {rows : List (List Int)} {ma : Nat} {o2 o3 o4 : Option W} (b1 : -20 ≤ g.b) (b2 : g.b ≤ 20) (e1 : g.b ≤ g.e) (e2 : g.e ≤ g.b + 4) (ht : t ≤ 5) (hr : ∀ w ∈ rows, w.length = t) (hl : rows.length ≤ 1000) :
    ∃ (ls : List (List Int)) (o3' o4' : Option W), exSs F gl bodyW2 (wr g rows ma o2 o3 o4) S = some (.nx (wr g ls 0 o2 o3' o4') S) ∧ (∀ w ∈ ls, w.length = t + 1) ∧ ls.length ≤ 5 * rows.length := by
  obtain ⟨ls, o4', g1, g2, g3⟩ := w1_loop (F := F) (S := S) (o2 := o2) (o4 := o4) b1 b2 e1 e2 ht hr hl
  refine ⟨ls, some (.dat (.list (ls.map wD)) 0), o4', ?_, g2, g3⟩
  unfold bodyW2
  rw [x_cons]
  refine (seq_nx (r1 := wr g rows ma o2 (some (.dat (.list []) 2)) o4) (S1 := S) ?_).trans ?_
  · simp [asgE, lstE, datAll, dOf, useR, W.keep, full, fullAll, wr]
  rw [x_cons]
  refine (seq_nx (x_loopV.trans ((loopV_of (w := .dat (.list (rows.map wD)) ma) (ys := rows.map wD) rfl rfl (by rw [List.length_map]; exact Nat.le_trans hl (by decide))).trans g1))).trans ?_
  rw [x_cons]
  refine (seq_nx (x_asgV.trans ?_)).trans x_nil
  rfl
theorem idx_w {w : List Int} {i : Nat} {m : Nat} (h : i < w.length) : idxop S (.dat (wD w) m) (.int i) = some (.int (w.getD i 0)) := by
  simp only [idxop, wD, List.length_map]
  rw [ix_nat h]
  show (w.map PyData.int)[i]? = _
  rw [List.getElem?_map, List.getElem?_eq_getElem h]
  simp [List.getD, h]
/-- does a link hold -/
def lkH (w : List Int) : Option (Int × Int × Int) → Bool
  | none => true
  | some (u, l, x) => decide (w.getD l.toNat 0 + x ≤ w.getD u.toNat 0)
def eLinks : E := .bi .all [.comp (.or (.cmp .eq (.v 6) (.tup [])) (.cmp .ge (.idx (.v 4) (.idx (.v 6) (.c (.int 0)))) (.bin .add (.idx (.v 4) (.idx (.v 6) (.c (.int 1)))) (.idx (.v 6) (.c (.int 2)))))) [6] true .seq [.idx (.v 0) (.c (.int 3))] []]
theorem e_links {g : Dg} {w : List Int} {A B C o5 o6 : Option W} (hw : (w.length : Int) = g.n) (l1 : g.ls.length ≤ 12) (l2 : ∀ x ∈ g.ls, LkOk g.n x) :
    evE F gl eLinks [some (.dat g.d 0), A, B, C, some (.dat (wD w) 0), o5, o6] S = some (.dat (.bool (g.ls.all (lkH w))) 0, S) := by
  have e := comp_mapd (F := F) (S := S) (S1 := S) (elt := .or (.cmp .eq (.v 6) (.tup [])) (.cmp .ge (.idx (.v 4) (.idx (.v 6) (.c (.int 0)))) (.bin .add (.idx (.v 4) (.idx (.v 6) (.c (.int 1)))) (.idx (.v 6) (.c (.int 2)))))) (tg := [6]) (one := true) (kk := .seq) (its := [.idx (.v 0) (.c (.int 3))]) (ifs := []) (r := [some (.dat g.d 0), A, B, C, some (.dat (wD w) 0), o5, o6]) (ws := [.dat (.tuple (g.ls.map lkD)) 0])
    (as := g.ls) (d := lkD) (g := fun z => (.bool (lkH w z), 0)) (by simp [consE, idxE, W.fz, Dg.d, idxop, ixD]) rfl (Nat.le_trans l1 (by decide)) (fun z hz => by
      refine step_one ?_
      match z, l2 z hz with
      | none, _ => simp [orE, cmpE, tupE, datAll, LIM, W.fz, cmpop, sh_lk, ne_lk, lkH]
      | some (u, l, x), ⟨⟨a1, a2⟩, ⟨c1, c2⟩, _⟩ =>
        have iu := idx_w (S := S) (w := w) (i := u.toNat) (m := 0) (by omega)
        have il := idx_w (S := S) (w := w) (i := l.toNat) (m := 0) (by omega)
        rw [Int.toNat_of_nonneg a1] at iu
        rw [Int.toNat_of_nonneg c1] at il
        have h0 : idxop S (.dat (lkD (some (u, l, x))) 0) (.int 0) = some (.int u) := rfl
        have h1 : idxop S (.dat (lkD (some (u, l, x))) 0) (.int 1) = some (.int l) := rfl
        have h2 : idxop S (.dat (lkD (some (u, l, x))) 0) (.int 2) = some (.int x) := rfl
        simp [orE, cmpE, tupE, datAll, LIM, W.fz, cmpop, sh_lk, ne_lk, idxE, binE, binop, iu, il, h0, h1, h2, lkH]) fun _ _ => .inl rfl
  unfold eLinks
  rw [e_bi]
  unfold biE
  rw [show evEs F gl [.comp (.or (.cmp .eq (.v 6) (.tup [])) (.cmp .ge (.idx (.v 4) (.idx (.v 6) (.c (.int 0)))) (.bin .add (.idx (.v 4) (.idx (.v 6) (.c (.int 1)))) (.idx (.v 6) (.c (.int 2)))))) [6] true .seq [.idx (.v 0) (.c (.int 3))] []] [some (.dat g.d 0), A, B, C, some (.dat (wD w) 0), o5, o6] S = some ([_], S) by rw [e_cons]; exact cons_of e e_nil]
  dsimp only
  have b1 : allBools (g.ls.map fun a => PyData.bool (lkH w a)) = some (g.ls.map (lkH w)) := allBools_map (p := lkH w)
  rw [show biop S .all [.dat (.list (g.ls.map fun a => PyData.bool (lkH w a))) 2] = some (.dat (.bool (g.ls.all (lkH w))) 0) by
    show (allBools _).map _ = _
    rw [b1]
    show some (W.dat (.bool ((g.ls.map (lkH w)).all id)) 0) = _
    rw [List.all_map]
    rfl]
theorem dOf_pos : ∀ ds : List (PyData × Nat), dOf ds ≠ 0
  | [] => by simp [dOf]
  | (d, m) :: ds => by
    unfold dOf
    split
    · simp
    · exact dOf_pos ds
theorem comp_pos {elt : E} {tg : List Nat} {one : Bool} {kk : Ik} {its ifs : List E} {r : Rho} {S1 : Sto} {d : PyData} {m : Nat} (h : evE F gl (.comp elt tg one kk its ifs) r S = some (.dat d m, S1)) : ∃ n, m = n + 1 := by
  have : m ≠ 0 := by
    rw [e_comp] at h
    unfold compE at h
    split at h
    · split at h
      · split at h
        · split at h
          · cases h
            exact dOf_pos _
          · cases h
        · cases h
      · cases h
    · cases h
  exact ⟨m - 1, by omega⟩
theorem r_worlds {g : Dg} (h : g.Ok) : ∃ ws : List (List Int), ∃ mm, fn_law_worlds.run F gl [.dat g.d m] S = some (.dat (.list (ws.map wD)) (mm + 1), S) ∧ (∀ w ∈ ws, (w.length : Int) = g.n) ∧ ws.length ≤ 625 := by
  have hb : fn_law_worlds.body = [.asg 1 (.lst [.tup []]), .loop [2] true .range1 [.idx (.v 0) (.c (.int 1))] bodyW2,
    .ret (.comp (.v 4) [4] true .seq [.v 1] [eLinks])] := rfl
  obtain ⟨N, hN⟩ : ∃ N : Nat, g.n = N := ⟨g.n.toNat, by have := h.n1; omega⟩
  have n2 := h.n2
  obtain ⟨r', S', g1, rfl, rows, ma, o2, o3, o4, t, h1, h2, h3, rfl⟩ := forGo_all (tg := [2]) (one := true) (body := exSs F gl bodyW2) (xs := (List.range N).map fun i => PyData.int (i : Nat)) (r := wr g [[]] 2 none none none) (S := S)
    (P := fun rest r S' => S' = S ∧ ∃ (rows : List (List Int)) (ma : Nat) (o2 o3 o4 : Option W) (t : Nat), t + rest.length = N ∧ (∀ w ∈ rows, w.length = t) ∧ rows.length ≤ 5 ^ t ∧ r = wr g rows ma o2 o3 o4)
    ⟨rfl, [[]], 2, none, none, none, 0, by simp, fun w hw => by rw [List.mem_singleton.mp hw]; rfl, Nat.le_refl _, rfl⟩ fun x xs r S' ⟨e0, rows, ma, o2, o3, o4, t, h1, h2, h3, h4⟩ => by
      subst e0
      subst h4
      rw [List.length_cons] at h1
      have : 5 ^ t ≤ 5 ^ 4 := Nat.pow_le_pow_right (by decide) (by omega)
      obtain ⟨ls, o3', o4', q1, q2, q3⟩ := w2_step (F := F) (S := S') (g := g) (t := t) (rows := rows) (ma := ma) (o2 := some (.dat x 0)) (o3 := o3) (o4 := o4) h.b1 h.b2 h.e1 h.e2 (by omega) h2 (by omega)
      refine ⟨_, rfl, _, S', .inl q1, rfl, ls, 0, _, _, _, t + 1, by omega, q2, ?_, rfl⟩
      rw [Nat.pow_succ]
      omega
  rw [List.length_nil] at h1
  have h1 : t = N := h1
  subst h1
  have : 5 ^ t ≤ 5 ^ 4 := Nat.pow_le_pow_right (by decide) (by omega)
  have h9 : rows.length ≤ 625 := Nat.le_trans h3 this
  obtain ⟨ds, mm, c1, c2, c3⟩ := comp_ex (F := F) (G := gl) (S := S') (elt := .v 4) (tg := [4]) (one := true) (k := .seq) (its := [.v 1]) (ifs := [eLinks]) (r := wr g rows ma o2 o3 o4) (ws := [.dat (.list (rows.map wD)) 0]) (xs := rows.map wD) (P := fun d => ∃ w : List Int, d = wD w ∧ (w.length : Int) = g.n) (by simp [consE, wr, W.fz]) rfl (by rw [List.length_map]; exact Nat.le_trans h9 (by decide)) fun x hx => by
    obtain ⟨w, hw, rfl⟩ := List.mem_map.mp hx
    have hwl : (w.length : Int) = g.n := by
      have := h2 w hw
      omega
    refine ⟨_, step_if (d := wD w) (m := 0) (e_links (w := w) (A := some (.dat (.list (rows.map wD)) ma)) (B := o2) (C := o3) (o5 := none) (o6 := none) hwl h.l1 h.l2) (fun _ => by simp [wr, W.fz]), fun y hy => ?_⟩
    split at hy
    · cases hy
      exact ⟨w, rfl, hwl⟩
    · cases hy
  have ex : ∀ ds : List PyData, (∀ d ∈ ds, ∃ w : List Int, d = wD w ∧ (w.length : Int) = g.n) → ∃ ws : List (List Int), ds = ws.map wD ∧ ∀ w ∈ ws, (w.length : Int) = g.n := fun ds => by
    induction ds with
    | nil => exact fun _ => ⟨[], rfl, fun _ z => by cases z⟩
    | cons d ds ih =>
      intro hd
      obtain ⟨w, rfl, hw⟩ := hd d (by simp)
      obtain ⟨ws, rfl, hws⟩ := ih fun y hy => hd y (by simp [hy])
      refine ⟨w :: ws, rfl, fun y hy => ?_⟩
      rcases List.mem_cons.mp hy with e | hy
      · rw [e]
        exact hw
      · exact hws y hy
  obtain ⟨ws, rfl, hws⟩ := ex ds c2
  obtain ⟨mm, rfl⟩ := comp_pos c1
  refine ⟨ws, mm, run_rt (S1 := S') (us := [.dat g.d 0]) (by simp [fn_law_worlds, inWs, inW, W.fz]) ?_, hws, by
    rw [List.length_map, List.length_map] at c3
    omega⟩
  show exSs F gl fn_law_worlds.body [some (.dat g.d 0), none, none, none, none, none, none] S' = _
  rw [hb, x_cons]
  refine (seq_nx (r1 := wr g [[]] 2 none none none) (S1 := S') ?_).trans ?_
  · simp [asgE, lstE, tupE, consE, datAll, LIM, dOf, isL, useR, W.keep, full, fullAll, nolAll, wr, wD]
  rw [x_cons]
  refine (seq_nx (x_loop.trans ((loop_of (S1 := S') (ws := [.dat (.int (t : Nat)) 0]) (by simp [consE, wr, idxE, W.fz, Dg.d, idxop, ixD, hN]) (items_r1 (by omega)) (by rw [List.length_map, List.length_range]; exact Nat.le_trans (by omega : t ≤ 10) (by decide))).trans (by
      unfold useAll
      rw [if_pos (show [W.dat (PyData.int ((t : Nat) : Int)) 0].all W.nl = true from rfl)]
      exact g1)))).trans ?_
  rw [x_cons]
  refine seq_rt ?_
  rw [x_ret]
  exact ret_of c1
end K81
end

section
set_option maxRecDepth 100000
/-! K81AD: claims in a world. -/
namespace K81
open PySem MP
variable {k : Nat} {S : Sto} {m m1 m2 m3 : Nat} {F : Fns}

def wv (w : List Int) (i : Nat) : Int := w.getD i 0
def Cl.tr (w : List Int) : Cl → Bool
  | .apart i j y => decide (wv w j + y ≤ wv w i)
  | .since i y => decide (y ≤ wv w i)
  | .till i y => decide (wv w i ≤ y)
theorem r_holds {c : Cl} {w : List Int} {n : Int} (hc : c.Ok n) (hw : (w.length : Int) = n) : fn_law_holds.run F gl [.dat c.d m, .dat (wD w) m1] S = some (.dat (.bool (c.tr w)) 0, S) := by
  cases c with
  | apart i j y =>
    obtain ⟨h1, h2, _⟩ := hc
    have i1 := idx_w (S := S) (w := w) (i := i) (m := 0) (by omega)
    have i2 := idx_w (S := S) (w := w) (i := j) (m := 0) (by omega)
    have g0 : idxop S (.dat (Cl.apart i j y).d 0) (.int 0) = some (.str "apart") := rfl
    have g1 : idxop S (.dat (Cl.apart i j y).d 0) (.int 1) = some (.int i) := rfl
    have g2 : idxop S (.dat (Cl.apart i j y).d 0) (.int 2) = some (.int j) := rfl
    have g3 : idxop S (.dat (Cl.apart i j y).d 0) (.int 3) = some (.int y) := rfl
    unfold Fn.run
    simp [fn_law_holds, inWs, inW, W.fz, seqE, ifsE, retE, cmpE, idxE, binE, binop, cmpop, g0, g1, g2, g3, i1, i2, eqv_str, sa1, sb1, Cl.tr, wv]
  | since i y =>
    obtain ⟨h1, _⟩ := hc
    have i1 := idx_w (S := S) (w := w) (i := i) (m := 0) (by omega)
    have g0 : idxop S (.dat (Cl.since i y).d 0) (.int 0) = some (.str "since") := rfl
    have g1 : idxop S (.dat (Cl.since i y).d 0) (.int 1) = some (.int i) := rfl
    have g2 : idxop S (.dat (Cl.since i y).d 0) (.int 2) = some (.int y) := rfl
    unfold Fn.run
    simp [fn_law_holds, inWs, inW, W.fz, seqE, ifsE, retE, iteE, cmpE, idxE, binE, binop, cmpop, g0, g1, g2, i1, eqv_str, sa2, sa4, sb1, sb2, Cl.tr, wv]
  | till i y =>
    obtain ⟨h1, _⟩ := hc
    have i1 := idx_w (S := S) (w := w) (i := i) (m := 0) (by omega)
    have g0 : idxop S (.dat (Cl.till i y).d 0) (.int 0) = some (.str "until") := rfl
    have g1 : idxop S (.dat (Cl.till i y).d 0) (.int 1) = some (.int i) := rfl
    have g2 : idxop S (.dat (Cl.till i y).d 0) (.int 2) = some (.int y) := rfl
    unfold Fn.run
    simp [fn_law_holds, inWs, inW, W.fz, seqE, ifsE, retE, iteE, cmpE, idxE, binE, binop, cmpop, g0, g1, g2, i1, eqv_str, sa3, sa5, sb1, sb2, sb3, Cl.tr, wv]
/-- all, any of a comprehension -/
theorem all_mapd {α : Type} {elt : E} {i : Nat} {its : List E} {r : Rho} {ws : List W} {as : List α} {d : α → PyData} {p : α → Bool} (h1 : evEs F gl its r S = some (ws, S)) (h2 : items .seq ws = some (as.map d)) (h3 : as.length ≤ LIM)
    (h4 : ∀ a ∈ as, evE F gl elt (r.set i (some (.dat (d a) 0))) S = some (.dat (.bool (p a)) 0, S)) : evE F gl (.bi .all [.comp elt [i] true .seq its []]) r S = some (.dat (.bool (as.all p)) 0, S) := by
  have e := comp_mapd (F := F) (ifs := []) (tg := [i]) (one := true) (g := fun a => (.bool (p a), 0)) h1 h2 h3 (fun a ha => step_one (h4 a ha)) fun _ _ => .inl rfl
  rw [e_bi]
  unfold biE
  rw [show evEs F gl [.comp elt [i] true .seq its []] r S = some ([_], S) by rw [e_cons]; exact cons_of e e_nil]
  dsimp only
  have b1 : allBools (as.map fun a => PyData.bool (p a)) = some (as.map p) := allBools_map (p := p)
  rw [show biop S .all [.dat (.list (as.map fun a => PyData.bool (p a))) 2] = some (.dat (.bool (as.all p)) 0) by
    show (allBools _).map _ = _
    rw [b1]
    show some (W.dat (.bool ((as.map p).all id)) 0) = _
    rw [List.all_map]
    rfl]
theorem any_mapd {α : Type} {elt : E} {i : Nat} {its : List E} {r : Rho} {ws : List W} {as : List α} {d : α → PyData} {p : α → Bool} (h1 : evEs F gl its r S = some (ws, S)) (h2 : items .seq ws = some (as.map d)) (h3 : as.length ≤ LIM)
    (h4 : ∀ a ∈ as, evE F gl elt (r.set i (some (.dat (d a) 0))) S = some (.dat (.bool (p a)) 0, S)) : evE F gl (.bi .any [.comp elt [i] true .seq its []]) r S = some (.dat (.bool (as.any p)) 0, S) := by
  have e := comp_mapd (F := F) (ifs := []) (tg := [i]) (one := true) (g := fun a => (.bool (p a), 0)) h1 h2 h3 (fun a ha => step_one (h4 a ha)) fun _ _ => .inl rfl
  rw [e_bi]
  unfold biE
  rw [show evEs F gl [.comp elt [i] true .seq its []] r S = some ([_], S) by rw [e_cons]; exact cons_of e e_nil]
  dsimp only
  have b1 : allBools (as.map fun a => PyData.bool (p a)) = some (as.map p) := allBools_map (p := p)
  rw [show biop S .any [.dat (.list (as.map fun a => PyData.bool (p a))) 2] = some (.dat (.bool (as.any p)) 0) by
    show (allBools _).map _ = _
    rw [b1]
    show some (W.dat (.bool ((as.map p).any id)) 0) = _
    rw [List.any_map]
    rfl]
def so (f : List (List Cl)) (w : List Int) : Bool := f.all fun c => c.any (Cl.tr w)
theorem r_is_so {f : List (List Cl)} {w : List Int} {n : Int} (l2 : f.length ≤ 64) (l3 : ∀ c ∈ f, c.length ≤ 64) (hc : ∀ c ∈ f, ∀ x ∈ c, x.Ok n) (hw : (w.length : Int) = n) : fn_law_is_so.run (FT tab gl (k + 1)) gl [.dat (fD f) m, .dat (wD w) m1] S = some (.dat (.bool (so f w)) 0, S) := by
  have hb : fn_law_is_so.body = [.ret (.bi .all [.comp (.bi .any [.comp (.call "_law_holds" [.v 2, .v 1]) [2] true .seq [.v 3] []]) [3] true .seq [.v 0] []])] := rfl
  refine run_rt (S1 := S) (us := [.dat (fD f) 0, .dat (wD w) 0]) (by simp [fn_law_is_so, inWs, inW, W.fz]) ?_
  show exSs (FT tab gl (k + 1)) gl fn_law_is_so.body [some (.dat (fD f) 0), some (.dat (wD w) 0), none, none] S = _
  rw [hb, x_cons]
  refine seq_rt ?_
  rw [x_ret]
  refine ret_of ?_
  refine all_mapd (as := f) (d := fun c => .list (c.map Cl.d)) (p := fun c => c.any (Cl.tr w)) (ws := [.dat (fD f) 0]) (by simp [consE, W.fz]) rfl (Nat.le_trans l2 (by decide)) fun c hcm => ?_
  refine any_mapd (as := c) (d := Cl.d) (p := Cl.tr w) (ws := [.dat (.list (c.map Cl.d)) 0]) (by simp [consE, W.fz]) rfl (Nat.le_trans (l3 c hcm) (by decide)) fun x hx => ?_
  simp [callE, consE, W.fz, c_law_holds, r_holds (hc c hcm x hx) hw]
def bodyPr : List Sm := [.extd 2 (.comp (.tup [.v 3, .v 4]) [4] true .seq [.v 1] [.cmp .ne (.v 3) (.v 4)])]
def prE (a : Nat) (qh : List Nat) : List (Nat × Nat) := (qh.filter fun b => a != b).map fun b => (a, b)
def prT (p : Nat × Nat) : PyData := .tuple [.int (p.1 : Nat), .int (p.2 : Nat)]
theorem r_law_pairs {ph qh : List Nat} (hl : ph.length ≤ 4) (hq : qh.length ≤ 4) : fn_law_pairs.run F gl [.dat (phD ph) m, .dat (phD qh) m1] S = some (.dat (prD (pr ph qh)) 2, S) := by
  have hb : fn_law_pairs.body = [.asg 2 (.lst []), .loopV [3] true .seq 0 bodyPr, .retV 2] := rfl
  obtain ⟨r', S', g1, rfl, dn, td, o3, h1, h2, rfl⟩ := forGo_all (tg := [3]) (one := true) (body := exSs F gl bodyPr) (xs := ph.map fun i => PyData.int (i : Nat)) (r := [some (.dat (phD ph) 0), some (.dat (phD qh) 0), some (.dat (.list []) 2), none, none]) (S := S)
    (P := fun rest r S' => S' = S ∧ ∃ dn td o3, dn ++ td = ph ∧ rest = td.map (fun i => PyData.int (i : Nat)) ∧ r = [some (.dat (phD ph) 0), some (.dat (phD qh) 0), some (.dat (.list ((pr dn qh).map prT)) 2), o3, none])
    ⟨rfl, [], ph, none, rfl, rfl, rfl⟩ fun x xs r S' ⟨e0, dn, td, o3, h1, h2, h3⟩ => by
      subst e0
      subst h3
      match td, h2 with
      | i :: td, h2 =>
        injection h2 with h4 h5
        subst h4
        have hg : compGo (stepE (evE F gl (.tup [.v 3, .v 4])) (evTs F gl [.cmp .ne (.v 3) (.v 4)]) [4] true [some (.dat (phD ph) 0), some (.dat (phD qh) 0), some (.dat (.list ((pr dn qh).map prT)) 2), some (.dat (.int (i : Nat)) 0), none]) (qh.map fun i => PyData.int (i : Nat)) S' = some (((qh.map fun i => PyData.int (i : Nat)).filter fun y => match y with
            | .int b => i != b.toNat
            | _ => false).map fun y => (.tuple [.int (i : Nat), y], 0), S') := compGo_pure fun y hy => by
          obtain ⟨b, hb, rfl⟩ := List.mem_map.mp hy
          refine step_if ?_ fun _ => ?_
          · have : ((i : Int) == (b : Int)) = (i == b) := by
              rw [Bool.eq_iff_iff]
              simp
              omega
            simp [cmpE, W.fz, cmpop, this, bne]
          · simp [tupE, consE, W.fz, datAll, LIM]
        have e := comp_of (S := S') (S1 := S') (k := .seq) (its := [.v 1]) (ws := [.dat (phD qh) 0]) (by simp [consE, W.fz]) rfl (by rw [List.length_map]; exact Nat.le_trans hq (by decide)) hg
        rw [dOf_two (fun y hy => by
          obtain ⟨a, _, rfl⟩ := List.mem_map.mp hy
          exact .inl rfl), List.map_map, List.filter_map, List.map_map] at e
        have e2 : ((qh.filter ((fun y => match y with
            | .int b => i != b.toNat
            | _ => false) ∘ fun i : Nat => PyData.int (i : Nat))).map (((fun x : PyData × Nat => x.1) ∘ fun y => (PyData.tuple [.int (i : Nat), y], 0)) ∘ fun i : Nat => PyData.int (i : Nat))) = (prE i qh).map prT := by
          unfold prE
          rw [List.map_map]
          rfl
        rw [e2] at e
        have hn : nolAll ((prE i qh).map prT) = true := nolAll_iff.mpr fun y hy => by
          obtain ⟨z, _, rfl⟩ := List.mem_map.mp hy
          rfl
        refine ⟨_, rfl, _, S', .inl ?_, rfl, dn ++ [i], td, some (.dat (.int (i : Nat)) 0), by rw [← h1, List.append_assoc]; rfl, h5, rfl⟩
        unfold bodyPr
        rw [x_cons]
        refine (seq_nx (x_extd.trans (extd_of (n := 1) (xs := (pr dn qh).map prT) e (keep_nol hn) rfl ?_ hn))).trans (x_nil.trans ?_)
        · have hd := congrArg List.length h1
          rw [List.length_append, List.length_cons] at hd
          have p1 := pr_len (n := 4) (ph := dn) (qh := qh) (by omega) hq
          have p2 : (prE i qh).length ≤ 4 := by
            unfold prE
            rw [List.length_map]
            exact Nat.le_trans (List.length_filter_le _ _) hq
          rw [List.length_map, List.length_map]
          have : LIM = 100000 := rfl
          omega
        · have : pr (dn ++ [i]) qh = pr dn qh ++ prE i qh := by
            unfold pr prE
            rw [List.flatMap_append]
            simp
          rw [this, List.map_append]
          rfl
  have e7 : td = [] := by
    cases td with
    | nil => rfl
    | cons a l => cases h2
  subst e7
  rw [List.append_nil] at h1
  subst h1
  refine run_rt (S1 := S') (us := [.dat (phD dn) 0, .dat (phD qh) 0]) (by simp [fn_law_pairs, inWs, inW, W.fz]) ?_
  show exSs F gl fn_law_pairs.body [some (.dat (phD dn) 0), some (.dat (phD qh) 0), none, none, none] S' = _
  rw [hb, x_cons]
  refine (seq_nx (r1 := [some (.dat (phD dn) 0), some (.dat (phD qh) 0), some (.dat (.list []) 2), none, none]) (S1 := S') ?_).trans ?_
  · simp [asgE, lstE, datAll, dOf, useR, W.keep, full, fullAll]
  rw [x_cons]
  refine (seq_nx (x_loopV.trans ((loopV_of (w := .dat (phD dn) 0) (ys := dn.map fun i => PyData.int (i : Nat)) rfl rfl (by rw [List.length_map]; exact Nat.le_trans hl (by decide))).trans g1))).trans ?_
  rw [x_cons]
  refine seq_rt ?_
  rw [x_retV]
  rfl
/-! greatest and least years of a phase -/
def mxI : List Int → Int
  | [] => 0
  | n :: ns => maxI n ns
def mnI : List Int → Int
  | [] => 0
  | n :: ns => minI n ns
theorem mxI_mem : ∀ {l : List Int}, l ≠ [] → mxI l ∈ l
  | [], h => absurd rfl h
  | n :: ns, _ => by
    rcases maxI_mem ns n with h | h
    · show maxI n ns ∈ n :: ns
      rw [h]
      simp
    · exact List.mem_cons_of_mem _ h
theorem mxI_ge : ∀ {l : List Int} {x : Int}, x ∈ l → x ≤ mxI l
  | n :: ns, x, h => by
    have := maxI_ge ns n
    rcases List.mem_cons.mp h with e | h
    · rw [e]
      exact this.1
    · exact this.2 x h
theorem mnI_mem : ∀ {l : List Int}, l ≠ [] → mnI l ∈ l
  | [], h => absurd rfl h
  | n :: ns, _ => by
    rcases minI_mem ns n with h | h
    · show minI n ns ∈ n :: ns
      rw [h]
      simp
    · exact List.mem_cons_of_mem _ h
theorem mnI_le : ∀ {l : List Int} {x : Int}, x ∈ l → mnI l ≤ x
  | n :: ns, x, h => by
    have := minI_le ns n
    rcases List.mem_cons.mp h with e | h
    · rw [e]
      exact this.1
    · exact this.2 x h
theorem ai_map (l : List Int) : allInts (l.map PyData.int) = some l := by
  have := allInts_map (p := fun i : Int => i) (xs := l)
  rw [List.map_id''] at this
  · exact this
  · exact fun _ => rfl
theorem bi_max {l : List Int} (h : l ≠ []) : biop S .maxL [.dat (.list (l.map PyData.int)) m] = some (.dat (.int (mxI l)) 0) := by
  cases l with
  | nil => exact absurd rfl h
  | cons n ns =>
    simp only [biop]
    rw [ai_map]
    rfl
theorem bi_min {l : List Int} (h : l ≠ []) : biop S .minL [.dat (.list (l.map PyData.int)) m] = some (.dat (.int (mnI l)) 0) := by
  cases l with
  | nil => exact absurd rfl h
  | cons n ns =>
    simp only [biop]
    rw [ai_map]
    rfl
end K81
end

section
set_option maxRecDepth 100000
/-! K81AE: what the formulas say in a world. -/
namespace K81
open PySem MP

def yrs (ph : List Nat) (w : List Int) : List Int := ph.map (wv w)
theorem yrs_ne {ph : List Nat} {w : List Int} (h : ph ≠ []) : yrs ph w ≠ [] := by
  cases ph with
  | nil => exact absurd rfl h
  | cons a r => exact fun z => by cases z
theorem mx_of {ph : List Nat} (w : List Int) (h : ph ≠ []) : ∃ a ∈ ph, wv w a = mxI (yrs ph w) := List.mem_map.mp (mxI_mem (yrs_ne h))
theorem mn_of {ph : List Nat} (w : List Int) (h : ph ≠ []) : ∃ a ∈ ph, wv w a = mnI (yrs ph w) := List.mem_map.mp (mnI_mem (yrs_ne h))
theorem mx_ge {ph : List Nat} (w : List Int) {a : Nat} (h : a ∈ ph) : wv w a ≤ mxI (yrs ph w) := mxI_ge (List.mem_map.mpr ⟨a, h, rfl⟩)
theorem mn_le {ph : List Nat} (w : List Int) {a : Nat} (h : a ∈ ph) : mnI (yrs ph w) ≤ wv w a := mnI_le (List.mem_map.mpr ⟨a, h, rfl⟩)
theorem mem_pr {ph qh : List Nat} {a b : Nat} (ha : a ∈ ph) (hb : b ∈ qh) (h : a ≠ b) : (a, b) ∈ pr ph qh :=
  List.mem_flatMap.mpr ⟨a, ha, List.mem_map.mpr ⟨b, List.mem_filter.mpr ⟨hb, by simpa using h⟩, rfl⟩⟩
theorem so_most {ph : List Nat} {w : List Int} {y : Int} (h : ph ≠ []) (hy : 0 ≤ y) : so (fMost ph y) w = decide (mxI (yrs ph w) - mnI (yrs ph w) ≤ y) := by
  rw [Bool.eq_iff_iff, decide_eq_true_eq]
  unfold so fMost
  rw [List.all_map, List.all_eq_true]
  constructor
  · intro H
    obtain ⟨a, ha, e1⟩ := mx_of w h
    obtain ⟨b, hb, e2⟩ := mn_of w h
    by_cases e : a = b
    · subst e
      omega
    · have := H (b, a) (mem_pr hb ha (Ne.symm e))
      have : wv w a + (0 - y) ≤ wv w b := by simpa [Cl.tr] using this
      omega
  · intro H p hp
    obtain ⟨h1, h2, _⟩ := pr_mem hp
    have g1 := mx_ge w h2
    have g2 := mn_le w h1
    have : wv w p.2 + (0 - y) ≤ wv w p.1 := by omega
    simpa [Cl.tr] using this
theorem so_least {ph : List Nat} {w : List Int} {y : Int} (h : 2 ≤ ph.length) (hu : Up ph) (hy : 0 ≤ y) : so (fLeast ph y) w = decide (y ≤ mxI (yrs ph w) - mnI (yrs ph w)) := by
  have hne : ph ≠ [] := fun z => by rw [z] at h; cases h
  rw [Bool.eq_iff_iff, decide_eq_true_eq]
  unfold so fLeast
  rw [List.all_cons, List.all_nil, Bool.and_true, List.any_map, List.any_eq_true]
  constructor
  · rintro ⟨p, hp, H⟩
    obtain ⟨h1, h2, _⟩ := pr_mem hp
    have g1 := mx_ge w h1
    have g2 := mn_le w h2
    have H : wv w p.2 + y ≤ wv w p.1 := by simpa [Cl.tr] using H
    omega
  · intro H
    obtain ⟨a, ha, e1⟩ := mx_of w hne
    obtain ⟨b, hb, e2⟩ := mn_of w hne
    by_cases e : a = b
    · subst e
      match ph, h, hu with
      | c :: d :: r, _, ⟨hu, _⟩ =>
        have c1 := mx_ge w (ph := c :: d :: r) (a := d) (by simp)
        have c2 := mn_le w (ph := c :: d :: r) (a := c) (by simp)
        refine ⟨(c, d), mem_pr (by simp) (by simp) (by omega), ?_⟩
        have : wv w d + y ≤ wv w c := by omega
        simpa [Cl.tr] using this
    · refine ⟨(a, b), mem_pr ha hb e, ?_⟩
      have : wv w b + y ≤ wv w a := by omega
      simpa [Cl.tr] using this
theorem so_in {ph : List Nat} {w : List Int} {b e : Int} (h : ph ≠ []) : so (fIn ph b e) w = (decide (b ≤ mnI (yrs ph w)) && decide (mxI (yrs ph w) ≤ e)) := by
  rw [Bool.eq_iff_iff, Bool.and_eq_true, decide_eq_true_eq, decide_eq_true_eq]
  unfold so fIn
  rw [List.all_flatMap, List.all_eq_true]
  constructor
  · intro H
    obtain ⟨a, ha, e1⟩ := mx_of w h
    obtain ⟨c, hc, e2⟩ := mn_of w h
    have h1 : b ≤ wv w a ∧ wv w a ≤ e := by simpa [Cl.tr] using H a ha
    have h2 : b ≤ wv w c ∧ wv w c ≤ e := by simpa [Cl.tr] using H c hc
    omega
  · intro H a ha
    have g1 := mx_ge w ha
    have g2 := mn_le w ha
    have : b ≤ wv w a ∧ wv w a ≤ e := by omega
    simpa [Cl.tr] using this
theorem so_end {ph qh : List Nat} {w : List Int} {y : Int} (h : ph ≠ []) (hq : qh ≠ []) : so (fEnd ph qh y) w = decide (mxI (yrs ph w) + y ≤ mnI (yrs qh w)) := by
  rw [Bool.eq_iff_iff, decide_eq_true_eq]
  unfold so fEnd
  rw [List.all_flatMap, List.all_eq_true]
  constructor
  · intro H
    obtain ⟨a, ha, e1⟩ := mx_of w h
    obtain ⟨b, hb, e2⟩ := mn_of w hq
    have h1 := H a ha
    rw [List.all_map, List.all_eq_true] at h1
    have : wv w a + y ≤ wv w b := by simpa [Cl.tr] using h1 b hb
    omega
  · intro H a ha
    rw [List.all_map, List.all_eq_true]
    intro b hb
    have g1 := mx_ge w ha
    have g2 := mn_le w hb
    have : wv w a + y ≤ wv w b := by omega
    simpa [Cl.tr] using this
theorem so_over {ph qh : List Nat} {w : List Int} (h : ph ≠ []) (hq : qh ≠ []) : so (fOver ph qh) w = (decide (mnI (yrs qh w) ≤ mxI (yrs ph w)) && decide (mnI (yrs ph w) ≤ mxI (yrs qh w))) := by
  rw [Bool.eq_iff_iff, Bool.and_eq_true, decide_eq_true_eq, decide_eq_true_eq]
  unfold so fOver
  rw [List.all_cons, List.all_cons, List.all_nil, Bool.and_true, Bool.and_eq_true, List.any_flatMap, List.any_flatMap, List.any_eq_true, List.any_eq_true]
  constructor
  · rintro ⟨⟨a, ha, H⟩, ⟨c, hc, G⟩⟩
    rw [List.any_map, List.any_eq_true] at H G
    obtain ⟨b, hb, H⟩ := H
    obtain ⟨d, hd, G⟩ := G
    have H : wv w a ≤ wv w b := by simpa [Cl.tr] using H
    have G : wv w d ≤ wv w c := by simpa [Cl.tr] using G
    have g1 := mn_le w ha
    have g2 := mx_ge w hb
    have g3 := mn_le w hd
    have g4 := mx_ge w hc
    omega
  · rintro ⟨H, G⟩
    obtain ⟨a, ha, e1⟩ := mn_of w h
    obtain ⟨b, hb, e2⟩ := mx_of w hq
    obtain ⟨c, hc, e3⟩ := mx_of w h
    obtain ⟨d, hd, e4⟩ := mn_of w hq
    refine ⟨⟨a, ha, ?_⟩, ⟨c, hc, ?_⟩⟩
    · rw [List.any_map, List.any_eq_true]
      refine ⟨b, hb, ?_⟩
      have : wv w a ≤ wv w b := by omega
      simpa [Cl.tr] using this
    · rw [List.any_map, List.any_eq_true]
      refine ⟨d, hd, ?_⟩
      have : wv w d ≤ wv w c := by omega
      simpa [Cl.tr] using this
/-! sizes -/
theorem filt_len {a : Nat} : ∀ {ph : List Nat}, a ∈ ph → (ph.filter fun b => a != b).length + 1 ≤ ph.length
  | c :: r, h => by
    rw [List.filter_cons]
    by_cases e : a = c
    · subst e
      have := List.length_filter_le (fun b => a != b) r
      simp only [bne_self_eq_false, Bool.false_eq_true, if_false, List.length_cons]
      omega
    · have h : a ∈ r := by
        rcases List.mem_cons.mp h with h | h
        · exact absurd h e
        · exact h
      have := filt_len h
      rw [if_pos (by simpa using e), List.length_cons, List.length_cons]
      omega
theorem pr_len12 {ph : List Nat} (h : ph.length ≤ 4) : (pr ph ph).length ≤ 12 := by
  have : ∀ l : List Nat, (∀ a ∈ l, a ∈ ph) → (pr l ph).length ≤ 3 * l.length := fun l => by
    induction l with
    | nil => exact fun _ => Nat.le_refl _
    | cons a l ih =>
      intro hm
      have h1 := ih fun x hx => hm x (by simp [hx])
      have h2 := filt_len (hm a (by simp))
      unfold pr at h1 ⊢
      rw [List.flatMap_cons, List.length_append, List.length_map, List.length_cons]
      omega
  have := this ph fun _ h => h
  omega
theorem tame_str {x : Str} (h : (PyData.canLay0 (.str x) && decide ((reprText x).length ≤ 40)) = true) (g : PyData.strOk (reprText x) = true) : ∀ n, tame n (.str x) = true ∧ rok (.str x) = true := fun n => by
  refine ⟨?_, g⟩
  rw [← h]
  cases n <;> simp only [tame]
theorem tame_int {i : Int} (h : i.natAbs < 2 ^ 32) : ∀ n, tame n (.int i) = true ∧ rok (.int i) = true := fun n => by
  refine ⟨?_, rfl⟩
  cases n <;> simpa [tame] using h
theorem rp1 : ∀ n, tame n (.str "apart") = true ∧ rok (.str "apart") = true := tame_str (by decide +kernel) (by decide +kernel)
theorem rp2 : ∀ n, tame n (.str "since") = true ∧ rok (.str "since") = true := tame_str (by decide +kernel) (by decide +kernel)
theorem rp3 : ∀ n, tame n (.str "until") = true ∧ rok (.str "until") = true := tame_str (by decide +kernel) (by decide +kernel)
theorem rp4 : ∀ n, tame n (.str "dig") = true ∧ rok (.str "dig") = true := tame_str (by decide +kernel) (by decide +kernel)
theorem rp5 : ∀ n, tame n (.str "after") = true ∧ rok (.str "after") = true := tame_str (by decide +kernel) (by decide +kernel)
theorem rp6 : ∀ n, tame n (.str "before") = true ∧ rok (.str "before") = true := tame_str (by decide +kernel) (by decide +kernel)
theorem tame_list {n : Nat} {xs : List PyData} (h1 : ∀ x ∈ xs, tame n x = true ∧ rok x = true) (h2 : xs.length ≤ 12) : tame (n + 1) (.list xs) = true ∧ rok (.list xs) = true := by
  constructor
  · simp only [tame, Bool.and_eq_true, decide_eq_true_eq]
    exact ⟨tameAll_iff.mpr fun x hx => (h1 x hx).1, h2⟩
  · exact rokAll_iff.mpr fun x hx => (h1 x hx).2
theorem tame_tup {n : Nat} {xs : List PyData} (h1 : ∀ x ∈ xs, tame n x = true ∧ rok x = true) (h2 : xs.length ≤ 12) : tame (n + 1) (.tuple xs) = true ∧ rok (.tuple xs) = true := by
  constructor
  · simp only [tame, Bool.and_eq_true, decide_eq_true_eq]
    exact ⟨tameAll_iff.mpr fun x hx => (h1 x hx).1, h2⟩
  · exact rokAll_iff.mpr fun x hx => (h1 x hx).2
theorem tame_cl {n : Int} (hn : n ≤ 4) {c : Cl} (h : c.Ok n) : tame 1 c.d = true ∧ rok c.d = true := by
  cases c with
  | apart i j y =>
    obtain ⟨h1, h2, h3, h4, h5⟩ := h
    refine tame_tup (n := 0) (fun x hx => ?_) (by show 4 ≤ 12; decide)
    simp only [List.mem_cons, List.not_mem_nil, or_false] at hx
    rcases hx with rfl | rfl | rfl | rfl
    · exact rp1 0
    · exact tame_int (by omega) 0
    · exact tame_int (by omega) 0
    · exact tame_int (by omega) 0
  | since i y =>
    obtain ⟨h1, h4, h5⟩ := h
    refine tame_tup (n := 0) (fun x hx => ?_) (by show 3 ≤ 12; decide)
    simp only [List.mem_cons, List.not_mem_nil, or_false] at hx
    rcases hx with rfl | rfl | rfl
    · exact rp2 0
    · exact tame_int (by omega) 0
    · exact tame_int (by omega) 0
  | till i y =>
    obtain ⟨h1, h4, h5⟩ := h
    refine tame_tup (n := 0) (fun x hx => ?_) (by show 3 ≤ 12; decide)
    simp only [List.mem_cons, List.not_mem_nil, or_false] at hx
    rcases hx with rfl | rfl | rfl
    · exact rp3 0
    · exact tame_int (by omega) 0
    · exact tame_int (by omega) 0
/-- a formula that is told -/
structure FOk (n : Int) (f : List (List Cl)) : Prop where
  l1 : 1 ≤ f.length
  l2 : f.length ≤ 12
  l3 : ∀ c ∈ f, c.length ≤ 12
  ok : ∀ c ∈ f, ∀ x ∈ c, x.Ok n
theorem FOk.tame {n : Int} {f : List (List Cl)} (hn : n ≤ 4) (h : FOk n f) : tame 3 (fD f) = true ∧ rok (fD f) = true := by
  refine tame_list (fun x hx => ?_) (by rw [List.length_map]; exact h.l2)
  obtain ⟨c, hc, rfl⟩ := List.mem_map.mp hx
  refine tame_list (fun y hy => ?_) (by rw [List.length_map]; exact h.l3 c hc)
  obtain ⟨z, hz, rfl⟩ := List.mem_map.mp hy
  exact tame_cl hn (h.ok c hc z hz)
theorem tame_dig {g : Dg} (h : g.Ok) (hf : ∀ f ∈ g.fs, tame 1 f = true) : tame 4 g.d = true ∧ rok g.d = true := by
  have n2 := h.n2
  have n1 := h.n1
  have b1 := h.b1
  have b2 := h.b2
  have e1 := h.e1
  have e2 := h.e2
  refine tame_tup (n := 3) (fun x hx => ?_) (by show 5 ≤ 12; decide)
  simp only [List.mem_cons, List.not_mem_nil, or_false] at hx
  rcases hx with rfl | rfl | rfl | rfl | rfl
  · exact rp4 3
  · exact tame_int (by omega) 3
  · refine tame_tup (n := 2) (fun y hy => ?_) (by show 2 ≤ 12; decide)
    simp only [List.mem_cons, List.not_mem_nil, or_false] at hy
    rcases hy with rfl | rfl
    · exact tame_int (by omega) 2
    · exact tame_int (by omega) 2
  · refine tame_tup (n := 2) (fun y hy => ?_) (by rw [List.length_map]; exact h.l1)
    obtain ⟨z, hz, rfl⟩ := List.mem_map.mp hy
    refine ⟨tame_up (tame_lk n2 (h.l2 z hz)), ?_⟩
    cases z <;> rfl
  · refine tame_tup (n := 2) (fun y hy => ⟨tame_up (hf y hy), ?_⟩) h.f1
    rcases h.f2 y hy with rfl | ⟨s, l, yy, t, rfl, hs, _⟩
    · rfl
    · rcases hs with rfl | rfl
      · have e : PyData.strOk (reprText ("after" : Str)) = true := (rp5 0).2
        simp only [rok, rokAll, e, Bool.and_self]
      · have e : PyData.strOk (reprText ("before" : Str)) = true := (rp6 0).2
        simp only [rok, rokAll, e, Bool.and_self]
theorem f_most {n : Int} {ph : List Nat} {y : Int} (h : PhOk n ph) (h2 : 2 ≤ ph.length) (y1 : 0 ≤ y) (y2 : y ≤ 100) : FOk n (fMost ph y) := by
  have hl := pr_len12 h.l2
  refine ⟨?_, by unfold fMost; rw [List.length_map]; exact hl, fun c hc => ?_, fun c hc x hx => ?_⟩
  · match ph, h2, h.up with
    | c :: d :: r, _, ⟨hu, _⟩ =>
      have := List.length_pos_of_mem (mem_pr (ph := c :: d :: r) (qh := c :: d :: r) (a := c) (b := d) (by simp) (by simp) (by omega))
      unfold fMost
      rw [List.length_map]
      exact this
  · obtain ⟨p, hp, rfl⟩ := List.mem_map.mp hc
    show 1 ≤ 12
    decide
  · obtain ⟨p, hp, rfl⟩ := List.mem_map.mp hc
    obtain ⟨h1, h2, h3⟩ := pr_mem hp
    rw [List.mem_singleton.mp hx]
    exact ⟨h.lt _ h1, h.lt _ h2, h3, by omega, by omega⟩
theorem f_least {n : Int} {ph : List Nat} {y : Int} (h : PhOk n ph) (y1 : 0 ≤ y) (y2 : y ≤ 100) : FOk n (fLeast ph y) := by
  have hl := pr_len12 h.l2
  refine ⟨Nat.le_refl _, by show 1 ≤ 12; decide, fun c hc => ?_, fun c hc x hx => ?_⟩
  · rw [List.mem_singleton.mp hc, List.length_map]
    exact hl
  · rw [List.mem_singleton.mp hc] at hx
    obtain ⟨p, hp, rfl⟩ := List.mem_map.mp hx
    obtain ⟨h1, h2, h3⟩ := pr_mem hp
    exact ⟨h.lt _ h1, h.lt _ h2, h3, by omega, by omega⟩
theorem f_in {n : Int} {ph : List Nat} {b e : Int} (h : PhOk n ph) (b1 : -1000 ≤ b) (b2 : b ≤ 1000) (e1 : -1000 ≤ e) (e2 : e ≤ 1000) : FOk n (fIn ph b e) := by
  have l1 := h.l1
  have l2 := h.l2
  have hl := fIn_len (b := b) (e := e) ph
  refine ⟨?_, by omega, fun c hc => ?_, fun c hc x hx => ?_⟩
  · match ph, l1 with
    | a :: r, _ =>
      unfold fIn
      rw [List.flatMap_cons, List.length_append]
      show 1 ≤ 2 + _
      omega
  · obtain ⟨a, ha, hc⟩ := List.mem_flatMap.mp hc
    simp only [List.mem_cons, List.not_mem_nil, or_false] at hc
    rcases hc with rfl | rfl <;> (show 1 ≤ 12; decide)
  · obtain ⟨a, ha, hc⟩ := List.mem_flatMap.mp hc
    have := h.lt a ha
    simp only [List.mem_cons, List.not_mem_nil, or_false] at hc
    rcases hc with rfl | rfl
    · rw [List.mem_singleton.mp hx]
      exact ⟨this, by omega, by omega⟩
    · rw [List.mem_singleton.mp hx]
      exact ⟨this, by omega, by omega⟩
theorem fm_len {α : Type} {ph qh : List Nat} (f : Nat → Nat → α) : (ph.flatMap fun a => qh.map fun b => f a b).length = ph.length * qh.length := by
  induction ph with
  | nil => simp
  | cons a r ih =>
    rw [List.flatMap_cons, List.length_append, ih, List.length_map, List.length_cons, Nat.succ_mul]
    omega
theorem mul12 {a b : Nat} (h1 : 1 ≤ a) (h2 : 1 ≤ b) (h : a + b ≤ 4) : 1 ≤ a * b ∧ a * b ≤ 12 := by
  have : a = 1 ∨ a = 2 ∨ a = 3 := by omega
  rcases this with rfl | rfl | rfl <;> omega
theorem f_end {n : Int} {ph qh : List Nat} {y : Int} (h : PhOk n ph) (hq : PhOk n qh) (dj : ∀ i ∈ qh, i ∉ ph) (hl : ph.length + qh.length ≤ 4) (y1 : -100 ≤ y) (y2 : y ≤ 100) : FOk n (fEnd ph qh y) := by
  have := mul12 h.l1 hq.l1 hl
  have e := fm_len (ph := ph) (qh := qh) fun a b => [Cl.apart b a y]
  refine ⟨by unfold fEnd; omega, by unfold fEnd; omega, fun c hc => ?_, fun c hc x hx => ?_⟩
  · obtain ⟨a, ha, hc⟩ := List.mem_flatMap.mp hc
    obtain ⟨b, hb, rfl⟩ := List.mem_map.mp hc
    show 1 ≤ 12
    decide
  · obtain ⟨a, ha, hc⟩ := List.mem_flatMap.mp hc
    obtain ⟨b, hb, rfl⟩ := List.mem_map.mp hc
    rw [List.mem_singleton.mp hx]
    exact ⟨hq.lt _ hb, h.lt _ ha, fun z => dj b hb (z ▸ ha), by omega, by omega⟩
theorem f_over {n : Int} {ph qh : List Nat} (h : PhOk n ph) (hq : PhOk n qh) (dj : ∀ i ∈ qh, i ∉ ph) (hl : ph.length + qh.length ≤ 4) : FOk n (fOver ph qh) := by
  have := mul12 h.l1 hq.l1 hl
  have e1 := fm_len (ph := ph) (qh := qh) fun a b => Cl.apart b a 0
  have e2 := fm_len (ph := ph) (qh := qh) fun a b => Cl.apart a b 0
  refine ⟨by show 1 ≤ 2; decide, by show 2 ≤ 12; decide, fun c hc => ?_, fun c hc x hx => ?_⟩
  · simp only [fOver, List.mem_cons, List.not_mem_nil, or_false] at hc
    rcases hc with rfl | rfl <;> omega
  · simp only [fOver, List.mem_cons, List.not_mem_nil, or_false] at hc
    rcases hc with rfl | rfl
    · obtain ⟨a, ha, hc⟩ := List.mem_flatMap.mp hx
      obtain ⟨b, hb, rfl⟩ := List.mem_map.mp hc
      exact ⟨hq.lt _ hb, h.lt _ ha, fun z => dj b hb (z ▸ ha), by omega, by omega⟩
    · obtain ⟨a, ha, hc⟩ := List.mem_flatMap.mp hx
      obtain ⟨b, hb, rfl⟩ := List.mem_map.mp hc
      exact ⟨h.lt _ ha, hq.lt _ hb, fun z => dj b hb (z ▸ ha), by omega, by omega⟩
end K81
end

section
set_option maxRecDepth 100000
/-! K81AF: the law's right: the dig, its phase, its worlds. -/
namespace K81
open PySem MP
variable {k : Nat} {S : Sto} {m m1 m2 m3 : Nat}
variable {v0 v1 v2 v3 v4 v5 v6 v7 v8 v9 v10 v11 v12 v13 v14 v15 v16 v17 v18 v19 v20 v21 v22 v23 v24 v25 v26 : Option W}

theorem st_cons {F : Fns} {s : Sm} {ss : List Sm} {r r1 : Rho} {S1 : Sto} (h : exS F gl s r S = some (.nx r1 S1)) : exSs F gl (s :: ss) r S = exSs F gl ss r1 S1 := by
  rw [x_cons]
  exact seq_nx h
structure RC (g : Dg) (ph : List Nat) : Prop where
  ok : g.Ok
  pot : ∃ p, Pot g p
  n2 : 2 ≤ g.n
  fs : ∀ f ∈ g.fs, tame 1 f = true
  phk : PhOk g.n ph
  p2 : 2 ≤ ph.length
def R0 : Sm := .asg 1 (.call "_law_narrow" [.v 0, .c (.int 4), .c (.int 5), .c (.int 2)])
def R1 : Sm := .asg 1 (.ite (.cmp .eq (.idx (.v 1) (.c (.int 1))) (.c (.int 1))) (.tup [.c (.str "dig"), .c (.int 2), .idx (.v 1) (.c (.int 2)), .tup [], .tup []]) (.v 1))
def R2 : Sm := .asg 2 (.call "_law_phase" [.v 0, .v 1, .c (.int 2)])
def R3 : Sm := .asgP [3, 4, 5] [.call "_law_worlds" [.v 1], .bi .repr [.v 1], .call "_law_draw" [.v 0, .c (.int 6)]]
theorem nol_dig {g : Dg} (h : g.Ok) : nol g.d = true := by
  have h1 : nolAll g.fs = true := nolAll_iff.mpr fun x hx => nol_fd (h.f2 x hx)
  simp only [Dg.d, nol, nolAll, nol_lks, h1, Bool.and_self]
theorem keep_dig {g : Dg} (h : g.Ok) {m : Nat} : (W.dat g.d m).keep = true := by
  have := nol_dig h
  simp only [Dg.d, nol] at this
  simp only [W.keep, Dg.d, full]
  exact this
theorem r_stageA {l : Nat} (hp : PotAt l S) : ∃ g ph S', RC g ph ∧ PotAt l S' ∧ ∀ ss, exSs (FT tab gl (k + 12)) gl (R0 :: R1 :: R2 :: ss) [some (.loc l), none, none, none, none, none, none, none, none, none, none, none, none, none, none, none, none, none, none, none, none, none, none, none, none, none, none] S = exSs (FT tab gl (k + 12)) gl ss [some (.loc l), some (.dat g.d 0), some (.dat (phD ph) 0), none, none, none, none, none, none, none, none, none, none, none, none, none, none, none, none, none, none, none, none, none, none, none, none] S' := by
  obtain ⟨g0, S1, q1, ok0, ⟨p0, hp0⟩, p1, t0, _, _⟩ := r_narrow (k := k + 8) (S := S) (m := 0) (m1 := 0) (m2 := 0) hp
  have s0 : exS (FT tab gl (k + 12)) gl R0 [some (.loc l), none, none, none, none, none, none, none, none, none, none, none, none, none, none, none, none, none, none, none, none, none, none, none, none, none, none] S = some (.nx [some (.loc l), some (.dat g0.d 0), none, none, none, none, none, none, none, none, none, none, none, none, none, none, none, none, none, none, none, none, none, none, none, none, none] S1) := by
    unfold R0
    rw [x_asg]
    refine (asg_of (S1 := S1) (w := .dat g0.d 0) ?_).trans ?_
    · rw [e_call]
      refine call_of (S1 := S) (ws := [.loc l, .dat (.int 4) 0, .dat (.int 5) 0, .dat (.int 2) 0]) (by simp [consE, W.fz]) ?_
      rw [c_law_narrow]
      exact q1
    · rw [useR_keep (keep_dig ok0)]
      rfl
  have key : ∃ g : Dg, g.Ok ∧ (∃ p, Pot g p) ∧ 2 ≤ g.n ∧ (∀ f ∈ g.fs, tame 1 f = true) ∧ exS (FT tab gl (k + 12)) gl R1 [some (.loc l), some (.dat g0.d 0), none, none, none, none, none, none, none, none, none, none, none, none, none, none, none, none, none, none, none, none, none, none, none, none, none] S1 = some (.nx [some (.loc l), some (.dat g.d 0), none, none, none, none, none, none, none, none, none, none, none, none, none, none, none, none, none, none, none, none, none, none, none, none, none] S1) := by
    have n1 := ok0.n1
    have hc : ∀ b, (g0.n == 1) = b → evE (FT tab gl (k + 12)) gl (.cmp .eq (.idx (.v 1) (.c (.int 1))) (.c (.int 1))) [some (.loc l), some (.dat g0.d 0), none, none, none, none, none, none, none, none, none, none, none, none, none, none, none, none, none, none, none, none, none, none, none, none, none] S1 = some (.dat (.bool b) 0, S1) := fun b hb => by
      rw [e_cmp]
      refine cmp_of (d := .int g0.n) (m := 0) (S1 := S1) (by simp [idxE, W.fz, Dg.d, idxop, ixD]) e_c ?_
      rw [cmp_eq (sh_int _) (sh_int _), eqv_int, hb]
    by_cases h : g0.n = 1
    · refine ⟨⟨2, g0.b, g0.e, [], []⟩, ⟨by show (1 : Int) ≤ 2; decide, by show (2 : Int) ≤ 4; decide, ok0.b1, ok0.b2, ok0.e1, ok0.e2, Nat.zero_le _, fun _ z => (by cases z), List.nodup_nil, fun _ _ _ z => (by cases z), Nat.zero_le _, fun _ z => (by cases z)⟩, ⟨fun i => if i = 2 then 0 else g0.b, if_pos rfl, fun i i0 i1 => ?_, fun _ _ _ z => (by cases z)⟩, Int.le_refl _, fun _ z => (by cases z), ?_⟩
      · have i1 : i < 2 := i1
        show g0.b ≤ (if i = 2 then 0 else g0.b) ∧ (if i = 2 then 0 else g0.b) ≤ g0.e
        rw [if_neg (by omega)]
        exact ⟨Int.le_refl _, ok0.e1⟩
      · unfold R1
        rw [x_asg]
        refine (asg_of (S1 := S1) (w := .dat (Dg.d ⟨2, g0.b, g0.e, [], []⟩) 0) ?_).trans ?_
        · rw [e_ite]
          refine (ite_t (hc true (by rw [h]; rfl))).trans ?_
          simp [tupE, consE, idxE, W.fz, Dg.d, idxop, ixD, datAll, LIM]
        · rw [useR_keep (by simp [W.keep, Dg.d, full, nolAll, nol])]
          rfl
    · refine ⟨g0, ok0, ⟨p0, hp0⟩, by omega, t0, ?_⟩
      unfold R1
      rw [x_asg]
      refine (asg_of (S1 := S1) (w := .dat g0.d 0) ?_).trans ?_
      · rw [e_ite]
        refine (ite_f (hc false (by simpa using h))).trans ?_
        simp [W.fz]
      · rw [useR_keep (keep_dig ok0)]
        rfl
  obtain ⟨g, ok, pot, n2, fs, s1⟩ := key
  obtain ⟨ph, S2, q2, ph1, ph2, p2⟩ := r_phase (k := k + 10) (S := S1) (m := 0) (m1 := 0) (g := g) p1 n2 ok.n2
  have s2 : exS (FT tab gl (k + 12)) gl R2 [some (.loc l), some (.dat g.d 0), none, none, none, none, none, none, none, none, none, none, none, none, none, none, none, none, none, none, none, none, none, none, none, none, none] S1 = some (.nx [some (.loc l), some (.dat g.d 0), some (.dat (phD ph) 0), none, none, none, none, none, none, none, none, none, none, none, none, none, none, none, none, none, none, none, none, none, none, none, none] S2) := by
    unfold R2
    rw [x_asg]
    refine (asg_of (S1 := S2) (w := .dat (phD ph) 0) ?_).trans ?_
    · rw [e_call]
      refine call_of (S1 := S1) (ws := [.loc l, .dat g.d 0, .dat (.int 2) 0]) (by simp [consE, W.fz]) ?_
      rw [c_law_phase]
      exact q2
    · rw [useR_same rfl]
      rfl
  exact ⟨g, ph, S2, ⟨ok, pot, n2, fs, ph1, ph2⟩, p2, fun ss => (st_cons s0).trans ((st_cons s1).trans (st_cons s2))⟩
theorem r_stageB {l : Nat} {g : Dg} {ph : List Nat} (hp : PotAt l S) (h : RC g ph) : ∃ (ws : List (List Int)) (mw : Nat) (y : Int) (S' : Sto), (∀ w ∈ ws, (w.length : Int) = g.n) ∧ ws.length ≤ 625 ∧ 0 ≤ y ∧ y ≤ 5 ∧ PotAt l S' ∧ exS (FT tab gl (k + 12)) gl R3 [some (.loc l), some (.dat g.d 0), some (.dat (phD ph) 0), v3, v4, v5, v6, v7, v8, v9, v10, v11, v12, v13, v14, v15, v16, v17, v18, v19, v20, v21, v22, v23, v24, v25, v26] S = some (.nx [some (.loc l), some (.dat g.d 0), some (.dat (phD ph) 0), some (.dat (.list (ws.map wD)) (mw + 1)), some (.dat (.str g.d.shown) 0), some (.dat (.int y) 0), v6, v7, v8, v9, v10, v11, v12, v13, v14, v15, v16, v17, v18, v19, v20, v21, v22, v23, v24, v25, v26] S') := by
  obtain ⟨ws, mw, q1, w1, w2⟩ := r_worlds (F := FT tab gl (k + 11)) (S := S) (m := 0) h.ok
  obtain ⟨y, S1, q2, y1, y2, p1⟩ := e_draw (k := k + 11) (S := S) (l := l) (n := 6) (r := [some (.loc l), some (.dat g.d 0), some (.dat (phD ph) 0), v3, v4, v5, v6, v7, v8, v9, v10, v11, v12, v13, v14, v15, v16, v17, v18, v19, v20, v21, v22, v23, v24, v25, v26]) (e := .c (.int 6)) rfl (fun T => by simp) hp (by omega) (by omega)
  have rp : biop S .repr [.dat g.d 0] = some (.dat (.str g.d.shown) 0) := tame_repr (tame_dig h.ok h.fs).1
  refine ⟨ws, mw, y, S1, w1, w2, y1, by omega, p1, ?_⟩
  unfold R3
  rw [x_asgP]
  refine asgP_of (ws := [.dat (.list (ws.map wD)) (mw + 1), .dat (.str g.d.shown) 0, .dat (.int y) 0]) (S1 := S1) ?_ ?_ rfl
  · rw [e_cons]
    refine cons_of (S1 := S) (w := .dat (.list (ws.map wD)) (mw + 1)) ?_ ?_
    · rw [e_call]
      refine call_of (S1 := S) (ws := [.dat g.d 0]) (by simp [consE, W.fz]) ?_
      rw [c_law_worlds]
      exact q1
    · rw [e_cons]
      refine cons_of (S1 := S) (w := .dat (.str g.d.shown) 0) ?_ ?_
      · rw [e_bi]
        unfold biE
        rw [show evEs (FT tab gl (k + 12)) gl [.v 1] [some (.loc l), some (.dat g.d 0), some (.dat (phD ph) 0), v3, v4, v5, v6, v7, v8, v9, v10, v11, v12, v13, v14, v15, v16, v17, v18, v19, v20, v21, v22, v23, v24, v25, v26] S = some ([.dat g.d 0], S) by simp [consE, W.fz]]
        dsimp only
        rw [rp]
      · rw [e_cons]
        exact cons_of q2 e_nil
  · have hn : nolAll (ws.map wD) = true := nolAll_iff.mpr fun x hx => by
      obtain ⟨w, _, rfl⟩ := List.mem_map.mp hx
      exact nol_ints w
    rw [List.all_cons, keep_nol hn]
    rfl
end K81
end

section
set_option maxRecDepth 100000
/-! K81AG: the law's right: its own formulas, the told ones. -/
namespace K81
open PySem MP
variable {k : Nat} {S : Sto} {m m1 m2 m3 : Nat}
variable {v0 v1 v2 v3 v4 v5 v6 v7 v8 v9 v10 v11 v12 v13 v14 v15 v16 v17 v18 v19 v20 v21 v22 v23 v24 v25 v26 : Option W}

theorem e_prs {ph qh : List Nat} {r : Rho} {a b i j ma mb mm : Nat} {elt : E} {f : Nat × Nat → PyData} (ha : r[a]? = some (some (.dat (phD ph) ma))) (hb : r[b]? = some (some (.dat (phD qh) mb))) (hl : ph.length ≤ 4) (hq : qh.length ≤ 4)
    (he : ∀ p ∈ pr ph qh, evE (FT tab gl (k + 1)) gl elt ((r.set i (some (.dat (.int (p.1 : Nat)) 0))).set j (some (.dat (.int (p.2 : Nat)) 0))) S = some (.dat (f p) mm, S)) (hm : ∀ p, isL (f p) = false ∨ mm ≠ 0) :
    evE (FT tab gl (k + 1)) gl (.comp elt [i, j] false .seq [.call "_law_pairs" [.v a, .v b]] []) r S = some (.dat (.list ((pr ph qh).map f)) 2, S) := by
  refine comp_mapd (as := pr ph qh) (d := prT) (g := fun p => (f p, mm)) (ws := [.dat (prD (pr ph qh)) 2]) ?_ rfl (Nat.le_trans (pr_len hl hq) (by decide)) (fun p hp => step_two (he p hp)) (fun p _ => hm p)
  simp [callE, consE, ha, hb, W.fz, c_law_pairs, r_law_pairs hl hq]
theorem cl_nol (c : Cl) : nol c.d = true := by cases c <;> rfl
theorem keep_f (f : List (List Cl)) (n : Nat) : (W.dat (fD f) (n + 2)).keep = true := by
  have h0 : ∀ (c : List Cl), nolAll (c.map Cl.d) = true := fun c => nolAll_iff.mpr fun x hx => by
    obtain ⟨y, _, rfl⟩ := List.mem_map.mp hx
    exact cl_nol y
  have h1 : ∀ f : List (List Cl), fullAll (f.map fun c => PyData.list (c.map Cl.d)) (n + 1) = true := fun f => by
    induction f with
    | nil => rfl
    | cons c f ih =>
      simp only [List.map_cons, fullAll, full, ih, Bool.and_true]
      exact fullAll_nol (h0 c)
  exact h1 f
def R4 : Sm := .asg 6 (.comp (.lst [.tup [.c (.str "apart"), .v 7, .v 8, .bin .sub (.c (.int 0)) (.v 5)]]) [7, 8] false .seq [.call "_law_pairs" [.v 2, .v 2]] [])
def R5 : Sm := .asg 9 (.lst [.comp (.tup [.c (.str "apart"), .v 7, .v 8, .v 5]) [7, 8] false .seq [.call "_law_pairs" [.v 2, .v 2]] []])
theorem x_R4 {ph : List Nat} {y : Int} (hl : ph.length ≤ 4) : exS (FT tab gl (k + 12)) gl R4 [v0, v1, some (.dat (phD ph) 0), v3, v4, some (.dat (.int y) 0), v6, v7, v8, v9, v10, v11, v12, v13, v14, v15, v16, v17, v18, v19, v20, v21, v22, v23, v24, v25, v26] S = some (.nx [v0, v1, some (.dat (phD ph) 0), v3, v4, some (.dat (.int y) 0), some (.dat (fD (fMost ph y)) 2), v7, v8, v9, v10, v11, v12, v13, v14, v15, v16, v17, v18, v19, v20, v21, v22, v23, v24, v25, v26] S) := by
  have e := e_prs (k := k + 11) (S := S) (ph := ph) (qh := ph) (r := [v0, v1, some (.dat (phD ph) 0), v3, v4, some (.dat (.int y) 0), v6, v7, v8, v9, v10, v11, v12, v13, v14, v15, v16, v17, v18, v19, v20, v21, v22, v23, v24, v25, v26]) (a := 2) (b := 2) (i := 7) (j := 8) (ma := 0) (mb := 0) (mm := 2) (elt := .lst [.tup [.c (.str "apart"), .v 7, .v 8, .bin .sub (.c (.int 0)) (.v 5)]]) (f := fun p => .list [(Cl.apart p.1 p.2 (0 - y)).d]) rfl rfl hl hl (fun p _ => by
    simp [lstE, tupE, consE, W.fz, datAll, LIM, binE, binop, dOf, isL, Cl.d]) fun _ => .inr (by simp)
  have e2 : PyData.list ((pr ph ph).map fun p => .list [(Cl.apart p.1 p.2 (0 - y)).d]) = fD (fMost ph y) := by
    unfold fD fMost
    rw [List.map_map]
    rfl
  rw [e2] at e
  unfold R4
  rw [x_asg]
  refine (asg_of e).trans ?_
  rw [useR_keep (keep_f _ 0)]
  rfl
theorem x_R5 {ph : List Nat} {y : Int} (hl : ph.length ≤ 4) : exS (FT tab gl (k + 12)) gl R5 [v0, v1, some (.dat (phD ph) 0), v3, v4, some (.dat (.int y) 0), v6, v7, v8, v9, v10, v11, v12, v13, v14, v15, v16, v17, v18, v19, v20, v21, v22, v23, v24, v25, v26] S = some (.nx [v0, v1, some (.dat (phD ph) 0), v3, v4, some (.dat (.int y) 0), v6, v7, v8, some (.dat (fD (fLeast ph y)) 2), v10, v11, v12, v13, v14, v15, v16, v17, v18, v19, v20, v21, v22, v23, v24, v25, v26] S) := by
  have e := e_prs (k := k + 11) (S := S) (ph := ph) (qh := ph) (r := [v0, v1, some (.dat (phD ph) 0), v3, v4, some (.dat (.int y) 0), v6, v7, v8, v9, v10, v11, v12, v13, v14, v15, v16, v17, v18, v19, v20, v21, v22, v23, v24, v25, v26]) (a := 2) (b := 2) (i := 7) (j := 8) (ma := 0) (mb := 0) (mm := 0) (elt := .tup [.c (.str "apart"), .v 7, .v 8, .v 5]) (f := fun p => (Cl.apart p.1 p.2 y).d) rfl rfl hl hl (fun p _ => by
    simp [tupE, consE, W.fz, datAll, LIM, Cl.d]) fun _ => .inl rfl
  have e3 : evE (FT tab gl (k + 12)) gl (.lst [.comp (.tup [.c (.str "apart"), .v 7, .v 8, .v 5]) [7, 8] false .seq [.call "_law_pairs" [.v 2, .v 2]] []]) [v0, v1, some (.dat (phD ph) 0), v3, v4, some (.dat (.int y) 0), v6, v7, v8, v9, v10, v11, v12, v13, v14, v15, v16, v17, v18, v19, v20, v21, v22, v23, v24, v25, v26] S = some (.dat (fD (fLeast ph y)) 2, S) := by
    rw [e_lst]
    unfold lstE
    rw [e_cons, show consE _ _ _ S = some ([_], S) from cons_of e e_nil]
    simp only [datAll]
    rw [if_pos (by show 1 ≤ LIM; decide)]
    unfold fD fLeast
    simp only [List.map_cons, List.map_nil, List.map_map]
    rfl
  unfold R5
  rw [x_asg]
  refine (asg_of e3).trans ?_
  rw [useR_keep (keep_f _ 0)]
  rfl
def R6 : Sm := .asgP [10, 11] [.bin .sub (.bin .add (.idx (.idx (.v 1) (.c (.int 2))) (.c (.int 0))) (.call "_law_draw" [.v 0, .c (.int 4)])) (.c (.int 1)), .bin .add (.bin .sub (.idx (.idx (.v 1) (.c (.int 2))) (.c (.int 1))) (.call "_law_draw" [.v 0, .c (.int 4)])) (.c (.int 1))]
theorem x_R6 {l : Nat} {g : Dg} (hp : PotAt l S) (h : g.Ok) : ∃ (b e : Int) (S' : Sto), -100 ≤ b ∧ b ≤ 100 ∧ -100 ≤ e ∧ e ≤ 100 ∧ PotAt l S' ∧ exS (FT tab gl (k + 12)) gl R6 [some (.loc l), some (.dat g.d 0), v2, v3, v4, v5, v6, v7, v8, v9, v10, v11, v12, v13, v14, v15, v16, v17, v18, v19, v20, v21, v22, v23, v24, v25, v26] S = some (.nx [some (.loc l), some (.dat g.d 0), v2, v3, v4, v5, v6, v7, v8, v9, some (.dat (.int b) 0), some (.dat (.int e) 0), v12, v13, v14, v15, v16, v17, v18, v19, v20, v21, v22, v23, v24, v25, v26] S') := by
  have b1 := h.b1
  have b2 := h.b2
  have e1 := h.e1
  have e2 := h.e2
  obtain ⟨x, S1, q1, x1, x2, p1⟩ := e_draw (k := k + 11) (S := S) (l := l) (n := 4) (r := [some (.loc l), some (.dat g.d 0), v2, v3, v4, v5, v6, v7, v8, v9, v10, v11, v12, v13, v14, v15, v16, v17, v18, v19, v20, v21, v22, v23, v24, v25, v26]) (e := .c (.int 4)) rfl (fun T => by simp) hp (by omega) (by omega)
  obtain ⟨y, S2, q2, y1, y2, p2⟩ := e_draw (k := k + 11) (S := S1) (l := l) (n := 4) (r := [some (.loc l), some (.dat g.d 0), v2, v3, v4, v5, v6, v7, v8, v9, v10, v11, v12, v13, v14, v15, v16, v17, v18, v19, v20, v21, v22, v23, v24, v25, v26]) (e := .c (.int 4)) rfl (fun T => by simp) p1 (by omega) (by omega)
  refine ⟨g.b + x - 1, g.e - y + 1, S2, by omega, by omega, by omega, by omega, p2, ?_⟩
  unfold R6
  rw [x_asgP]
  refine asgP_of (ws := [.dat (.int (g.b + x - 1)) 0, .dat (.int (g.e - y + 1)) 0]) (S1 := S2) ?_ rfl rfl
  rw [e_cons]
  refine cons_of (S1 := S1) (w := .dat (.int (g.b + x - 1)) 0) ?_ ?_
  · rw [e_bin]
    refine bin_of (d := .int (g.b + x)) (m := 0) (S1 := S1) ?_ e_c rfl
    rw [e_bin]
    exact bin_of (d := .int g.b) (m := 0) (S1 := S) (by simp [idxE, W.fz, Dg.d, idxop, ixD]) q1 rfl
  · rw [e_cons]
    refine cons_of (S1 := S2) (w := .dat (.int (g.e - y + 1)) 0) ?_ e_nil
    rw [e_bin]
    refine bin_of (d := .int (g.e - y)) (m := 0) (S1 := S2) ?_ e_c rfl
    rw [e_bin]
    exact bin_of (d := .int g.e) (m := 0) (S1 := S1) (by simp [idxE, W.fz, Dg.d, idxop, ixD]) q2 rfl
def R7 : Sm := .asg 12 (.lst [])
def bodyR8 : List Sm := [.extd 12 (.lst [.lst [.tup [.c (.str "since"), .v 13, .v 10]], .lst [.tup [.c (.str "until"), .v 13, .v 11]]])]
def R8 : Sm := .loopV [13] true .seq 2 bodyR8
theorem x_R7 : exS (FT tab gl (k + 12)) gl R7 [v0, v1, v2, v3, v4, v5, v6, v7, v8, v9, v10, v11, v12, v13, v14, v15, v16, v17, v18, v19, v20, v21, v22, v23, v24, v25, v26] S = some (.nx [v0, v1, v2, v3, v4, v5, v6, v7, v8, v9, v10, v11, some (.dat (.list []) 2), v13, v14, v15, v16, v17, v18, v19, v20, v21, v22, v23, v24, v25, v26] S) := by
  unfold R7
  rw [x_asg]
  refine (asg_of (S1 := S) (w := .dat (.list []) 2) (by simp [lstE, datAll, dOf])).trans ?_
  rw [useR_keep rfl]
  rfl
theorem r8_step {F : Fns} {b e : Int} {i n : Nat} {xs : List PyData} (hl : xs.length ≤ 1000) :
    exSs F gl bodyR8 [v0, v1, v2, v3, v4, v5, v6, v7, v8, v9, some (.dat (.int b) 0), some (.dat (.int e) 0), some (.dat (.list xs) (n + 1)), some (.dat (.int (i : Nat)) 0), v14, v15, v16, v17, v18, v19, v20, v21, v22, v23, v24, v25, v26] S =
      some (.nx [v0, v1, v2, v3, v4, v5, v6, v7, v8, v9, some (.dat (.int b) 0), some (.dat (.int e) 0), some (.dat (.list (xs ++ [.list [(Cl.since i b).d], .list [(Cl.till i e).d]])) 1), some (.dat (.int (i : Nat)) 0), v14, v15, v16, v17, v18, v19, v20, v21, v22, v23, v24, v25, v26] S) := by
  have h1 : xs.length + 2 ≤ LIM := by
    have : LIM = 100000 := rfl
    omega
  have e1 : evE F gl (.lst [.lst [.tup [.c (.str "since"), .v 13, .v 10]], .lst [.tup [.c (.str "until"), .v 13, .v 11]]]) [v0, v1, v2, v3, v4, v5, v6, v7, v8, v9, some (.dat (.int b) 0), some (.dat (.int e) 0), some (.dat (.list xs) (n + 1)), some (.dat (.int (i : Nat)) 0), v14, v15, v16, v17, v18, v19, v20, v21, v22, v23, v24, v25, v26] S = some (.dat (.list [.list [(Cl.since i b).d], .list [(Cl.till i e).d]]) 2, S) := by
    simp [lstE, tupE, consE, W.fz, datAll, LIM, dOf, isL, Cl.d]
  have k1 : (W.dat (.list [.list [(Cl.since i b).d], .list [(Cl.till i e).d]]) 2).keep = true := by
    simp [W.keep, full, fullAll, Cl.d, nolAll, nol]
  have k2 : nolAll [PyData.list [(Cl.since i b).d], .list [(Cl.till i e).d]] = false := by simp [nolAll, nol]
  unfold bodyR8
  rw [x_cons]
  refine (seq_nx (x_extd.trans ?_)).trans x_nil
  unfold extdE
  rw [e1]
  dsimp only
  rw [useR_keep k1]
  simp only [List.getElem?_cons_succ, List.getElem?_cons_zero]
  refine (if_pos h1).trans ?_
  rw [k2]
  rfl
theorem x_R8 {ph : List Nat} {b e : Int} (hl : ph.length ≤ 4) : ∃ n o, exS (FT tab gl (k + 12)) gl R8 [v0, v1, some (.dat (phD ph) 0), v3, v4, v5, v6, v7, v8, v9, some (.dat (.int b) 0), some (.dat (.int e) 0), some (.dat (.list []) 2), v13, v14, v15, v16, v17, v18, v19, v20, v21, v22, v23, v24, v25, v26] S = some (.nx [v0, v1, some (.dat (phD ph) 0), v3, v4, v5, v6, v7, v8, v9, some (.dat (.int b) 0), some (.dat (.int e) 0), some (.dat (fD (fIn ph b e)) (n + 1)), o, v14, v15, v16, v17, v18, v19, v20, v21, v22, v23, v24, v25, v26] S) := by
  obtain ⟨r', S', g1, e0, n, o, dn, td, e4, e5, e6⟩ := forGo_all (tg := [13]) (one := true) (body := exSs (FT tab gl (k + 12)) gl bodyR8) (xs := ph.map fun i => PyData.int (i : Nat)) (r := [v0, v1, some (.dat (phD ph) 0), v3, v4, v5, v6, v7, v8, v9, some (.dat (.int b) 0), some (.dat (.int e) 0), some (.dat (.list []) 2), v13, v14, v15, v16, v17, v18, v19, v20, v21, v22, v23, v24, v25, v26]) (S := S)
    (P := fun rest r S' => S' = S ∧ ∃ n o, ∃ dn td : List Nat, dn ++ td = ph ∧ rest = td.map (fun i => PyData.int (i : Nat)) ∧ r = [v0, v1, some (.dat (phD ph) 0), v3, v4, v5, v6, v7, v8, v9, some (.dat (.int b) 0), some (.dat (.int e) 0), some (.dat (.list ((fIn dn b e).map fun c => .list (c.map Cl.d))) (n + 1)), o, v14, v15, v16, v17, v18, v19, v20, v21, v22, v23, v24, v25, v26])
    ⟨rfl, 1, v13, [], ph, rfl, rfl, rfl⟩ fun x xs r S' ⟨e0, n, o, dn, td, e1, e2, e3⟩ => by
      subst e0
      subst e3
      match td, e2 with
      | i :: td, e2 =>
        injection e2 with e4 e5
        subst e4
        refine ⟨_, rfl, _, _, .inl (r8_step (n := n) ?_), rfl, 0, some (.dat (.int (i : Nat)) 0), dn ++ [i], td, by rw [← e1, List.append_assoc]; rfl, e5, ?_⟩
        · have := fIn_len (b := b) (e := e) dn
          have hd : dn.length ≤ ph.length := by
            rw [← e1, List.length_append]
            omega
          rw [List.length_map]
          omega
        · unfold fIn
          simp only [List.flatMap_append, List.map_append]
          rfl
  have e7 : td = [] := by
    cases td with
    | nil => rfl
    | cons a l => cases e5
  subst e7
  rw [List.append_nil] at e4
  subst e4
  subst e0
  subst e6
  refine ⟨n, o, ?_⟩
  unfold R8
  exact x_loopV.trans ((loopV_of (w := .dat (phD dn) 0) (ys := dn.map fun i => PyData.int (i : Nat)) rfl rfl (by rw [List.length_map]; exact Nat.le_trans hl (by decide))).trans g1)
theorem callK_of {F : Fns} {f : Str} {es kes : Evs} {ks : List Str} {r : Rho} {S1 S2 S3 : Sto} {ws vs : List W} {w : W} (h1 : es r S = some (ws, S1)) (h2 : kes r S1 = some (vs, S2)) (h3 : F f (ws.map W.fz) (ks.zip (vs.map W.fz)) S2 = some (w, S3)) : callKE F f es ks kes r S = some (w, S3) := by
  unfold callKE
  rw [h1]
  dsimp only
  rw [h2]
  exact h3
def R9 : Sm := .asg 14 (.lst [.call "lasted_at_most" [.v 1, .v 2, .v 5], .callK "lasted_at_least" [] ["years", "phase", "dig"] [.v 5, .v 2, .v 1], .call "within" [.v 1, .v 2, .v 10, .v 11]])
theorem nokeep (f : List (List Cl)) (fs : List PyData) (h : f ≠ []) : (W.dat (.list (fD f :: fs)) 2).keep = false := by
  cases f with
  | nil => exact absurd rfl h
  | cons c f => simp [W.keep, full, fullAll, fD]
theorem x_R9 {g : Dg} {ph : List Nat} {y b e : Int} (h : RC g ph) (y1 : 0 ≤ y) (y2 : y ≤ 5) (b1 : -100 ≤ b) (b2 : b ≤ 100) (e1 : -100 ≤ e) (e2 : e ≤ 100) :
    exS (FT tab gl (k + 12)) gl R9 [v0, some (.dat g.d 0), some (.dat (phD ph) 0), v3, v4, some (.dat (.int y) 0), v6, v7, v8, v9, some (.dat (.int b) 0), some (.dat (.int e) 0), v12, v13, v14, v15, v16, v17, v18, v19, v20, v21, v22, v23, v24, v25, v26] S = some (.nx ((fzAll [v0, some (.dat g.d 0), some (.dat (phD ph) 0), v3, v4, some (.dat (.int y) 0), v6, v7, v8, v9, some (.dat (.int b) 0), some (.dat (.int e) 0), v12, v13, v14, v15, v16, v17, v18, v19, v20, v21, v22, v23, v24, v25, v26]).set 14 (some (.dat (.list [fD (fMost ph y), fD (fLeast ph y), fD (fIn ph b e)]) 2))) S) := by
  obtain ⟨p, hp⟩ := h.pot
  have c1 := r_most (k := k + 1) (S := S) (m := 0) (m1 := 0) (m2 := 0) h.ok hp h.phk h.p2 y1 (by omega)
  have c2 := r_least (k := k + 1) (S := S) (m := 0) (m1 := 0) (m2 := 0) h.ok hp h.phk h.p2 y1 (by omega)
  obtain ⟨mi, c3⟩ := r_within (k := k + 1) (S := S) (m := 0) (m1 := 0) (m2 := 0) (m3 := 0) (b := b) (e := e) h.ok hp h.phk (by omega) (by omega) (by omega) (by omega)
  have ev : evE (FT tab gl (k + 12)) gl (.lst [.call "lasted_at_most" [.v 1, .v 2, .v 5], .callK "lasted_at_least" [] ["years", "phase", "dig"] [.v 5, .v 2, .v 1], .call "within" [.v 1, .v 2, .v 10, .v 11]]) [v0, some (.dat g.d 0), some (.dat (phD ph) 0), v3, v4, some (.dat (.int y) 0), v6, v7, v8, v9, some (.dat (.int b) 0), some (.dat (.int e) 0), v12, v13, v14, v15, v16, v17, v18, v19, v20, v21, v22, v23, v24, v25, v26] S = some (.dat (.list [fD (fMost ph y), fD (fLeast ph y), fD (fIn ph b e)]) 2, S) := by
    rw [e_lst]
    unfold lstE
    rw [e_cons, show consE _ _ _ S = some ([.dat (fD (fMost ph y)) 2, .dat (fD (fLeast ph y)) 2, .dat (fD (fIn ph b e)) (mi + 1)], S) from cons_of (S1 := S) (by
      rw [e_call]
      refine call_of (S1 := S) (ws := [.dat g.d 0, .dat (phD ph) 0, .dat (.int y) 0]) (by simp [consE, W.fz]) ?_
      rw [c_lasted_at_most]
      exact c1) (by
      rw [e_cons]
      refine cons_of (S1 := S) ?_ ?_
      · rw [e_callK]
        refine callK_of (S1 := S) (S2 := S) (ws := []) (vs := [.dat (.int y) 0, .dat (phD ph) 0, .dat g.d 0]) e_nil (by simp [consE, W.fz]) ?_
        refine (c_lasted_at_leastk (k + 11) (.dat (.int y) 0) (.dat (phD ph) 0) (.dat g.d 0) S).trans ?_
        exact c2
      · rw [e_cons]
        refine cons_of (S1 := S) ?_ e_nil
        rw [e_call]
        refine call_of (S1 := S) (ws := [.dat g.d 0, .dat (phD ph) 0, .dat (.int b) 0, .dat (.int e) 0]) (by simp [consE, W.fz]) ?_
        rw [c_within]
        exact c3)]
    simp only [datAll]
    rw [if_pos (by show 3 ≤ LIM; decide), dOf_two (fun z hz => by
      simp only [List.mem_cons, List.not_mem_nil, or_false] at hz
      rcases hz with rfl | rfl | rfl
      · exact .inr (by simp)
      · exact .inr (by simp)
      · exact .inr (by simp))]
    rfl
  have ne : fMost ph y ≠ [] := fun z => by
    have := (f_most (n := g.n) h.phk h.p2 y1 (by omega : y ≤ 100)).l1
    rw [z] at this
    cases this
  unfold R9
  rw [x_asg]
  refine (asg_of ev).trans ?_
  unfold useR
  rw [nokeep _ _ ne]
  rfl
def R10 : Sm := .ifs (.or (.cmp .ne (.bi .repr [.v 14]) (.bi .repr [.lst [.v 6, .v 9, .v 12]])) (.or (.not (.bi .all [.comp (.call "is_formula" [.v 1, .v 7]) [7] true .seq [.v 14] []])) (.notB (.call "is_phase" [.v 1, .v 2]) true))) [.ret (.c (.bool false))] []
theorem tame_told {n : Int} (hn : n ≤ 4) {fs : List (List (List Cl))} (h : ∀ f ∈ fs, FOk n f) (hl : fs.length ≤ 12) : tame 4 (.list (fs.map fD)) = true ∧ rok (.list (fs.map fD)) = true := by
  refine tame_list (fun x hx => ?_) (by rw [List.length_map]; exact hl)
  obtain ⟨f, hf, rfl⟩ := List.mem_map.mp hx
  exact FOk.tame hn (h f hf)
theorem e_isf {g : Dg} {p : Int → Int} {r : Rho} {fs : List (List (List Cl))} {i : Nat} {mt : Nat} (ok : g.Ok) (hp : Pot g p) (h1 : ∀ x, (r.set i x)[1]? = some (some (.dat g.d 0))) (h2 : r[14]? = some (some (.dat (.list (fs.map fD)) mt))) (hi : ∀ x, (r.set i x)[i]? = some x) (h : ∀ f ∈ fs, FOk g.n f) (hl : fs.length ≤ 12) :
    evE (FT tab gl (k + 12)) gl (.bi .all [.comp (.call "is_formula" [.v 1, .v i]) [i] true .seq [.v 14] []]) r S = some (.dat (.bool true) 0, S) := by
  have e := all_mapd (F := FT tab gl (k + 12)) (S := S) (elt := .call "is_formula" [.v 1, .v i]) (i := i) (its := [.v 14]) (r := r) (ws := [.dat (.list (fs.map fD)) 0]) (as := fs) (d := fD) (p := fun _ => true) (by simp [consE, h2, W.fz]) rfl (Nat.le_trans hl (by decide)) fun f hf => by
    have o := h f hf
    have l2 := o.l2
    have q := r_is_formula (k := k + 2) (S := S) (m := 0) (m1 := 0) (f := f) ok hp o.l1 (by omega) (fun c hc => by have := o.l3 c hc; omega) o.ok
    simp [callE, consE, h1, hi, W.fz, c_is_formula, q]
  rw [e]
  simp
theorem e_repr2 {F : Fns} {r : Rho} {es fs : List E} {D : PyData} {ma mb : Nat} {e1 e2 : E} (h1 : evE F gl e1 r S = some (.dat D ma, S)) (h2 : evE F gl e2 r S = some (.dat D mb, S)) (t : tame 4 D = true ∧ rok D = true) :
    evE F gl (.cmp .ne (.bi .repr [e1]) (.bi .repr [e2])) r S = some (.dat (.bool false) 0, S) ∧ evE F gl (.cmp .eq (.bi .repr [e1]) (.bi .repr [e2])) r S = some (.dat (.bool true) 0, S) := by
  have q : ∀ (e : E) (m : Nat), evE F gl e r S = some (.dat D m, S) → evE F gl (.bi .repr [e]) r S = some (.dat (.str D.shown) 0, S) := fun e m h => by
    rw [e_bi]
    unfold biE
    rw [show evEs F gl [e] r S = some ([.dat D m], S) by rw [e_cons]; exact cons_of h e_nil]
    dsimp only
    rw [tame_repr t.1]
  constructor
  · rw [e_cmp]
    exact cmp_of (q e1 ma h1) (q e2 mb h2) (rok_ne t.2)
  · rw [e_cmp]
    exact cmp_of (q e1 ma h1) (q e2 mb h2) (rok_eq t.2)
theorem x_R10 {g : Dg} {ph : List Nat} {y b e : Int} {m6 m9 m12 : Nat} (h : RC g ph) (y1 : 0 ≤ y) (y2 : y ≤ 5) (b1 : -100 ≤ b) (b2 : b ≤ 100) (e1 : -100 ≤ e) (e2 : e ≤ 100) :
    exS (FT tab gl (k + 12)) gl R10 [v0, some (.dat g.d 0), some (.dat (phD ph) 0), v3, v4, v5, some (.dat (fD (fMost ph y)) m6), v7, v8, some (.dat (fD (fLeast ph y)) m9), v10, v11, some (.dat (fD (fIn ph b e)) m12), v13, some (.dat (.list [fD (fMost ph y), fD (fLeast ph y), fD (fIn ph b e)]) 2), v15, v16, v17, v18, v19, v20, v21, v22, v23, v24, v25, v26] S = some (.nx [v0, some (.dat g.d 0), some (.dat (phD ph) 0), v3, v4, v5, some (.dat (fD (fMost ph y)) m6), v7, v8, some (.dat (fD (fLeast ph y)) m9), v10, v11, some (.dat (fD (fIn ph b e)) m12), v13, some (.dat (.list [fD (fMost ph y), fD (fLeast ph y), fD (fIn ph b e)]) 2), v15, v16, v17, v18, v19, v20, v21, v22, v23, v24, v25, v26] S) := by
  obtain ⟨p, hp⟩ := h.pot
  have all3 : ∀ f ∈ [fMost ph y, fLeast ph y, fIn ph b e], FOk g.n f := fun f hf => by
    simp only [List.mem_cons, List.not_mem_nil, or_false] at hf
    rcases hf with rfl | rfl | rfl
    · exact f_most h.phk h.p2 y1 (by omega)
    · exact f_least h.phk y1 (by omega)
    · exact f_in h.phk (by omega) (by omega) (by omega) (by omega)
  have t := tame_told h.ok.n2 all3 (by show 3 ≤ 12; decide)
  unfold R10
  rw [x_ifs]
  refine (if_f (m := 0) (S1 := S) ?_).trans x_nil
  rw [e_or]
  refine (or_f (m := 0) (S1 := S) (e_repr2 (es := []) (fs := []) (ma := 0) (mb := 1) (D := .list [fD (fMost ph y), fD (fLeast ph y), fD (fIn ph b e)]) (by simp [W.fz]) ?_ t).1).trans ?_
  · rw [e_lst]
    unfold lstE
    rw [show evEs (FT tab gl (k + 12)) gl [.v 6, .v 9, .v 12] [v0, some (.dat g.d 0), some (.dat (phD ph) 0), v3, v4, v5, some (.dat (fD (fMost ph y)) m6), v7, v8, some (.dat (fD (fLeast ph y)) m9), v10, v11, some (.dat (fD (fIn ph b e)) m12), v13, some (.dat (.list [fD (fMost ph y), fD (fLeast ph y), fD (fIn ph b e)]) 2), v15, v16, v17, v18, v19, v20, v21, v22, v23, v24, v25, v26] S = some ([.dat (fD (fMost ph y)) 0, .dat (fD (fLeast ph y)) 0, .dat (fD (fIn ph b e)) 0], S) by simp [consE, W.fz]]
    simp only [datAll]
    rw [if_pos (by show 3 ≤ LIM; decide)]
    rfl
  rw [e_or]
  refine (or_f (m := 0) (S1 := S) ?_).trans ?_
  · rw [e_not]
    exact not_of (b := true) (e_isf (fs := [fMost ph y, fLeast ph y, fIn ph b e]) (mt := 2) h.ok hp (fun _ => rfl) rfl (fun _ => rfl) all3 (by show 3 ≤ 12; decide))
  · have q := r_is_phase (k := k + 3) (S := S) (m := 0) (m1 := 0) h.ok hp h.phk
    simp [notBE, callE, consE, W.fz, c_is_phase, q]
end K81
end

section
set_option maxRecDepth 100000
/-! K81AH: the law's right: all worlds, first part. -/
namespace K81
open PySem MP
variable {k : Nat} {S : Sto} {m m1 m2 m3 : Nat}
variable {v0 v1 v2 v3 v4 v5 v6 v7 v8 v9 v10 v11 v12 v13 v14 v15 v16 v17 v18 v19 v20 v21 v22 v23 v24 v25 v26 : Option W}

theorem e_yrs {F : Fns} {r : Rho} {w : List Int} {ph : List Nat} {a mm mw : Nat} (h15 : ∀ x, (r.set 13 x)[15]? = some (some (.dat (wD w) mw))) (ha : r[a]? = some (some (.dat (phD ph) mm))) (h13 : ∀ x, (r.set 13 x)[13]? = some x) (hl : ph.length ≤ 4) (hw : ∀ i ∈ ph, i < w.length) :
    evE F gl (.comp (.idx (.v 15) (.v 13)) [13] true .seq [.v a] []) r S = some (.dat (.list ((yrs ph w).map PyData.int)) 2, S) := by
  have e := comp_mapd (F := F) (S := S) (S1 := S) (elt := .idx (.v 15) (.v 13)) (tg := [13]) (one := true) (kk := .seq) (its := [.v a]) (ifs := []) (r := r) (ws := [.dat (phD ph) 0]) (as := ph) (d := fun i => PyData.int (i : Nat)) (g := fun i => (.int (wv w i), 0)) (by simp [consE, ha, W.fz]) rfl (Nat.le_trans hl (by decide)) (fun i hi => by
    refine step_one ?_
    have := idx_w (S := S) (w := w) (i := i) (m := 0) (hw i hi)
    simp [idxE, h15, h13, W.fz, this, wv]) fun _ _ => .inl rfl
  rw [e]
  unfold yrs
  rw [List.map_map]
  rfl
theorem keep_ints (l : List Int) (n : Nat) : (W.dat (.list (l.map PyData.int)) (n + 1)).keep = true := keep_nol (nol_ints l)
theorem e_so {r : Rho} {w : List Int} {fs : List (List (List Cl))} {n : Int} {e : E} {mt mw : Nat} (h15 : ∀ x, (r.set 18 x)[15]? = some (some (.dat (wD w) mw))) (he : evE (FT tab gl (k + 2)) gl e r S = some (.dat (.list (fs.map fD)) mt, S)) (h18 : ∀ x, (r.set 18 x)[18]? = some x) (h : ∀ f ∈ fs, FOk n f) (hl : fs.length ≤ 12) (hw : (w.length : Int) = n) :
    evE (FT tab gl (k + 2)) gl (.comp (.call "_law_is_so" [.v 18, .v 15]) [18] true .seq [e] []) r S = some (.dat (.list ((fs.map fun f => so f w).map PyData.bool)) 2, S) := by
  have e := comp_mapd (F := FT tab gl (k + 2)) (S := S) (S1 := S) (elt := .call "_law_is_so" [.v 18, .v 15]) (tg := [18]) (one := true) (kk := .seq) (its := [e]) (ifs := []) (r := r) (ws := [.dat (.list (fs.map fD)) mt]) (as := fs) (d := fD) (g := fun f => (.bool (so f w), 0)) (by rw [e_cons]; exact cons_of he e_nil) rfl (Nat.le_trans hl (by decide)) (fun f hf => by
    refine step_one ?_
    have o := h f hf
    have l2 := o.l2
    have q := r_is_so (k := k) (S := S) (m := 0) (m1 := 0) (f := f) (w := w) (n := n) (by omega) (fun c hc => by have := o.l3 c hc; omega) o.ok hw
    simp [callE, consE, h15, h18, W.fz, c_law_is_so, q]) fun _ _ => .inl rfl
  rw [e, List.map_map]
  rfl
theorem lay_bools : ∀ l : List Bool, PyData.canLayAll0 (l.map PyData.bool) = true ∧ PyData.depthAll (l.map PyData.bool) = 0 ∧ PyData.eqvAll (l.map PyData.bool) (l.map PyData.bool) = true
  | [] => ⟨rfl, rfl, by simp [PyData.eqvAll]⟩
  | a :: l => by
    obtain ⟨h1, h2, h3⟩ := lay_bools l
    refine ⟨?_, ?_, ?_⟩
    · rw [List.map_cons]
      simp only [PyData.canLayAll0, PyData.canLay0, h1, Bool.and_self]
    · rw [List.map_cons]
      simp only [PyData.depthAll, PyData.depth, h2, Nat.max_self]
    · rw [List.map_cons]
      simp [PyData.eqvAll, PyData.eqv, h3]
theorem ne_bools (l : List Bool) : cmpop .ne (.list (l.map PyData.bool)) (.list (l.map PyData.bool)) = some false := by
  obtain ⟨h1, h2, h3⟩ := lay_bools l
  have hs : SeqAt.shaped (.list (l.map PyData.bool)) = true := by
    unfold SeqAt.shaped
    simp only [PyData.canLay0, PyData.depth, h1, h2, Bool.true_and]
    decide
  rw [cmp_ne hs hs]
  simp only [PyData.eqv, h3]
  rfl
def W1 : Sm := .asg 16 (.comp (.idx (.v 15) (.v 13)) [13] true .seq [.v 2] [])
def W2 : Sm := .asg 17 (.lst [.cmp .le (.bin .sub (.bi .maxL [.v 16]) (.bi .minL [.v 16])) (.v 5), .cmp .ge (.bin .sub (.bi .maxL [.v 16]) (.bi .minL [.v 16])) (.v 5), .and (.cmp .le (.v 10) (.bi .minL [.v 16])) (.cmp .le (.bi .maxL [.v 16]) (.v 11))])
def W3 : Sm := .ifs (.cmp .ne (.comp (.call "_law_is_so" [.v 18, .v 15]) [18] true .seq [.v 14] []) (.v 17)) [.ret (.c (.bool false))] []
theorem x_W1 {F : Fns} {w : List Int} {ph : List Nat} (hl : ph.length ≤ 4) (hw : ∀ i ∈ ph, i < w.length) : exS F gl W1 [v0, v1, some (.dat (phD ph) 0), v3, v4, v5, v6, v7, v8, v9, v10, v11, v12, v13, v14, some (.dat (wD w) 0), v16, v17, v18, v19, v20, v21, v22, v23, v24, v25, v26] S = some (.nx [v0, v1, some (.dat (phD ph) 0), v3, v4, v5, v6, v7, v8, v9, v10, v11, v12, v13, v14, some (.dat (wD w) 0), some (.dat (.list ((yrs ph w).map PyData.int)) 2), v17, v18, v19, v20, v21, v22, v23, v24, v25, v26] S) := by
  unfold W1
  rw [x_asg]
  refine (asg_of (e_yrs (mw := 0) (mm := 0) (fun _ => rfl) rfl (fun _ => rfl) hl hw)).trans ?_
  rw [useR_keep (keep_ints _ 1)]
  rfl
theorem x_W2 {F : Fns} {l : List Int} {y b e : Int} (hl : l ≠ []) : exS F gl W2 [v0, v1, v2, v3, v4, some (.dat (.int y) 0), v6, v7, v8, v9, some (.dat (.int b) 0), some (.dat (.int e) 0), v12, v13, v14, v15, some (.dat (.list (l.map PyData.int)) 2), v17, v18, v19, v20, v21, v22, v23, v24, v25, v26] S = some (.nx [v0, v1, v2, v3, v4, some (.dat (.int y) 0), v6, v7, v8, v9, some (.dat (.int b) 0), some (.dat (.int e) 0), v12, v13, v14, v15, some (.dat (.list (l.map PyData.int)) 2), some (.dat (.list ([decide (mxI l - mnI l ≤ y), decide (y ≤ mxI l - mnI l), decide (b ≤ mnI l) && decide (mxI l ≤ e)].map PyData.bool)) 2), v18, v19, v20, v21, v22, v23, v24, v25, v26] S) := by
  have q1 : biop S .maxL [.dat (.list (l.map PyData.int)) 0] = some (.dat (.int (mxI l)) 0) := bi_max hl
  have q2 : biop S .minL [.dat (.list (l.map PyData.int)) 0] = some (.dat (.int (mnI l)) 0) := bi_min hl
  unfold W2
  rw [x_asg]
  refine (asg_of (S1 := S) (w := .dat (.list ([decide (mxI l - mnI l ≤ y), decide (y ≤ mxI l - mnI l), decide (b ≤ mnI l) && decide (mxI l ≤ e)].map PyData.bool)) 2) ?_).trans ?_
  · by_cases c : b ≤ mnI l
    · simp [lstE, consE, cmpE, binE, biE, andE, W.fz, q1, q2, binop, cmpop, datAll, LIM, dOf, isL, c]
    · simp [lstE, consE, cmpE, binE, biE, andE, W.fz, q1, q2, binop, cmpop, datAll, LIM, dOf, isL, c]
  · rw [useR_keep (keep_nol rfl)]
    rfl
theorem x_W3 {w : List Int} {fs : List (List (List Cl))} {n : Int} {bs : List Bool} {mt : Nat} (h : ∀ f ∈ fs, FOk n f) (hl : fs.length ≤ 12) (hw : (w.length : Int) = n) (hb : fs.map (fun f => so f w) = bs) :
    exS (FT tab gl (k + 2)) gl W3 [v0, v1, v2, v3, v4, v5, v6, v7, v8, v9, v10, v11, v12, v13, some (.dat (.list (fs.map fD)) mt), some (.dat (wD w) 0), v16, some (.dat (.list (bs.map PyData.bool)) 2), v18, v19, v20, v21, v22, v23, v24, v25, v26] S = some (.nx [v0, v1, v2, v3, v4, v5, v6, v7, v8, v9, v10, v11, v12, v13, some (.dat (.list (fs.map fD)) mt), some (.dat (wD w) 0), v16, some (.dat (.list (bs.map PyData.bool)) 2), v18, v19, v20, v21, v22, v23, v24, v25, v26] S) := by
  unfold W3
  rw [x_ifs]
  refine (if_f (m := 0) (S1 := S) ?_).trans x_nil
  rw [e_cmp]
  refine cmp_of (S1 := S) (m := 2) (d := .list (bs.map PyData.bool)) (m2 := 0) (e := .list (bs.map PyData.bool)) ?_ (by simp [W.fz]) (ne_bools bs)
  rw [← hb]
  exact e_so (k := k) (mw := 0) (mt := 0) (n := n) (fun _ => rfl) (by simp [W.fz]) (fun _ => rfl) h hl hw
def R11 : Sm := .loopV [15] true .seq 3 [W1, W2, W3]
theorem x_R11 {g : Dg} {ph : List Nat} {y b e : Int} {ws : List (List Int)} {mw : Nat} (h : RC g ph) (hw : ∀ w ∈ ws, (w.length : Int) = g.n) (hl : ws.length ≤ 625) (y1 : 0 ≤ y) (y2 : y ≤ 5) (b1 : -100 ≤ b) (b2 : b ≤ 100) (e1 : -100 ≤ e) (e2 : e ≤ 100) :
    ∃ o15 o16 o17, exS (FT tab gl (k + 12)) gl R11 [v0, v1, some (.dat (phD ph) 0), some (.dat (.list (ws.map wD)) mw), v4, some (.dat (.int y) 0), v6, v7, v8, v9, some (.dat (.int b) 0), some (.dat (.int e) 0), v12, v13, some (.dat (.list [fD (fMost ph y), fD (fLeast ph y), fD (fIn ph b e)]) 2), v15, v16, v17, v18, v19, v20, v21, v22, v23, v24, v25, v26] S = some (.nx [v0, v1, some (.dat (phD ph) 0), some (.dat (.list (ws.map wD)) 0), v4, some (.dat (.int y) 0), v6, v7, v8, v9, some (.dat (.int b) 0), some (.dat (.int e) 0), v12, v13, some (.dat (.list [fD (fMost ph y), fD (fLeast ph y), fD (fIn ph b e)]) 2), o15, o16, o17, v18, v19, v20, v21, v22, v23, v24, v25, v26] S) := by
  have hne : ph ≠ [] := fun z => by
    have := h.p2
    rw [z] at this
    cases this
  have all3 : ∀ f ∈ [fMost ph y, fLeast ph y, fIn ph b e], FOk g.n f := fun f hf => by
    simp only [List.mem_cons, List.not_mem_nil, or_false] at hf
    rcases hf with rfl | rfl | rfl
    · exact f_most h.phk h.p2 y1 (by omega)
    · exact f_least h.phk y1 (by omega)
    · exact f_in h.phk (by omega) (by omega) (by omega) (by omega)
  obtain ⟨r', S', g1, rfl, o15, o16, o17, td, t1, t2, rfl⟩ := forGo_all (tg := [15]) (one := true) (body := exSs (FT tab gl (k + 12)) gl [W1, W2, W3]) (xs := ws.map wD) (r := [v0, v1, some (.dat (phD ph) 0), some (.dat (.list (ws.map wD)) 0), v4, some (.dat (.int y) 0), v6, v7, v8, v9, some (.dat (.int b) 0), some (.dat (.int e) 0), v12, v13, some (.dat (.list [fD (fMost ph y), fD (fLeast ph y), fD (fIn ph b e)]) 2), v15, v16, v17, v18, v19, v20, v21, v22, v23, v24, v25, v26]) (S := S)
    (P := fun rest r S' => S' = S ∧ ∃ o15 o16 o17, ∃ td : List (List Int), rest = td.map wD ∧ (∀ w ∈ td, (w.length : Int) = g.n) ∧ r = [v0, v1, some (.dat (phD ph) 0), some (.dat (.list (ws.map wD)) 0), v4, some (.dat (.int y) 0), v6, v7, v8, v9, some (.dat (.int b) 0), some (.dat (.int e) 0), v12, v13, some (.dat (.list [fD (fMost ph y), fD (fLeast ph y), fD (fIn ph b e)]) 2), o15, o16, o17, v18, v19, v20, v21, v22, v23, v24, v25, v26])
    ⟨rfl, v15, v16, v17, ws, rfl, hw, rfl⟩ fun x xs r S' ⟨e0, o15, o16, o17, td, t1, t2, t3⟩ => by
      subst e0
      subst t3
      match td, t1 with
      | w :: td, t1 =>
        injection t1 with t4 t5
        subst t4
        have hwl := t2 w (by simp)
        have hlt : ∀ i ∈ ph, i < w.length := fun i hi => by
          have := h.phk.lt i hi
          omega
        refine ⟨_, rfl, _, S', .inl ?_, rfl, some (.dat (wD w) 0), some (.dat (.list ((yrs ph w).map PyData.int)) 2), some (.dat (.list ([decide (mxI (yrs ph w) - mnI (yrs ph w) ≤ y), decide (y ≤ mxI (yrs ph w) - mnI (yrs ph w)), decide (b ≤ mnI (yrs ph w)) && decide (mxI (yrs ph w) ≤ e)].map PyData.bool)) 2), td, t5, fun y hy => t2 y (by simp [hy]), rfl⟩
        refine (st_cons (x_W1 (w := w) (ph := ph) h.phk.l2 hlt)).trans ?_
        refine (st_cons (x_W2 (y := y) (b := b) (e := e) (yrs_ne (w := w) hne))).trans ?_
        refine (st_cons (x_W3 (k := k + 10) (mt := 2) (w := w) (fs := [fMost ph y, fLeast ph y, fIn ph b e]) (n := g.n) all3 (by show 3 ≤ 12; decide) hwl ?_)).trans x_nil
        simp only [List.map_cons, List.map_nil, so_most hne y1, so_least h.p2 h.phk.up y1, so_in hne]
  refine ⟨o15, o16, o17, ?_⟩
  unfold R11
  exact x_loopV.trans ((loopV_of (w := .dat (.list (ws.map wD)) mw) (ys := ws.map wD) rfl rfl (by rw [List.length_map]; exact Nat.le_trans hl (by decide))).trans g1)
end K81
end

section
set_option maxRecDepth 100000
/-! K81AI: the law's right: two phases. -/
namespace K81
open PySem MP
variable {k : Nat} {S : Sto} {m m1 m2 m3 : Nat}
variable {v0 v1 v2 v3 v4 v5 v6 v7 v8 v9 v10 v11 v12 v13 v14 v15 v16 v17 v18 v19 v20 v21 v22 v23 v24 v25 v26 : Option W}

def R12 : Sm := .asgP [19, 20] [.bin .add (.c (.int 1)) (.call "_law_draw" [.v 0, .bin .sub (.bi .len [.v 2]) (.c (.int 1))]), .bin .sub (.call "_law_draw" [.v 0, .c (.int 7)]) (.c (.int 3))]
def R13 : Sm := .asgP [7, 8] [.slH (.v 2) (.v 19), .slL (.v 2) (.v 19)]
def R14 : Sm := .ifs (.cmp .eq (.call "_law_draw" [.v 0, .c (.int 2)]) (.c (.int 0))) [.asgP [7, 8] [.v 8, .v 7]] []
theorem up_pw : ∀ {l : List Nat}, Up l → l.Pairwise (· < ·)
  | [], _ => List.Pairwise.nil
  | [a], _ => List.pairwise_singleton _ _
  | a :: b :: r, ⟨h, u⟩ => by
    have ih := up_pw u
    refine List.pairwise_cons.mpr ⟨fun x hx => ?_, ih⟩
    rcases List.mem_cons.mp hx with e | hx
    · rw [e]
      exact h
    · exact Nat.lt_trans h ((List.pairwise_cons.mp ih).1 x hx)
theorem ph_sub {n : Int} {ph qh : List Nat} (h : PhOk n ph) (s : qh.Sublist ph) (l : 1 ≤ qh.length) : PhOk n qh :=
  ⟨l, Nat.le_trans s.length_le h.l2, fun i hi => h.lt i (s.subset hi), up_of ((up_pw h.up).sublist s)⟩
theorem r_stageC {l : Nat} {g : Dg} {ph : List Nat} (hp : PotAt l S) (h : RC g ph) : ∃ (ph1 ph2 : List Nat) (gap : Int) (o19 : Option W) (S' : Sto), PhOk g.n ph1 ∧ PhOk g.n ph2 ∧ (∀ i ∈ ph2, i ∉ ph1) ∧ ph1.length + ph2.length ≤ 4 ∧ -3 ≤ gap ∧ gap ≤ 3 ∧ PotAt l S' ∧
    ∀ ss, exSs (FT tab gl (k + 12)) gl (R12 :: R13 :: R14 :: ss) [some (.loc l), v1, some (.dat (phD ph) 0), v3, v4, v5, v6, v7, v8, v9, v10, v11, v12, v13, v14, v15, v16, v17, v18, v19, v20, v21, v22, v23, v24, v25, v26] S = exSs (FT tab gl (k + 12)) gl ss [some (.loc l), v1, some (.dat (phD ph) 0), v3, v4, v5, v6, some (.dat (phD ph1) 0), some (.dat (phD ph2) 0), v9, v10, v11, v12, v13, v14, v15, v16, v17, v18, o19, some (.dat (.int gap) 0), v21, v22, v23, v24, v25, v26] S' := by
  have p2 := h.p2
  have l2 := h.phk.l2
  obtain ⟨x, S1, q1, x1, x2, p1⟩ := e_draw (k := k + 11) (S := S) (l := l) (n := ph.length - 1) (r := [some (.loc l), v1, some (.dat (phD ph) 0), v3, v4, v5, v6, v7, v8, v9, v10, v11, v12, v13, v14, v15, v16, v17, v18, v19, v20, v21, v22, v23, v24, v25, v26]) (e := .bin .sub (.bi .len [.v 2]) (.c (.int 1))) rfl (fun T => by
    have : ph.length ≤ 100000 := by omega
    simp [binE, biE, consE, W.fz, phD, biop, LIM, this, binop]) hp (by omega) (by omega)
  obtain ⟨y, S2, q2, y1, y2, p2'⟩ := e_draw (k := k + 11) (S := S1) (l := l) (n := 7) (r := [some (.loc l), v1, some (.dat (phD ph) 0), v3, v4, v5, v6, v7, v8, v9, v10, v11, v12, v13, v14, v15, v16, v17, v18, v19, v20, v21, v22, v23, v24, v25, v26]) (e := .c (.int 7)) rfl (fun T => by simp) p1 (by omega) (by omega)
  obtain ⟨c, hc⟩ : ∃ c : Nat, 1 + x = c := ⟨(1 + x).toNat, by omega⟩
  have s12 : exS (FT tab gl (k + 12)) gl R12 [some (.loc l), v1, some (.dat (phD ph) 0), v3, v4, v5, v6, v7, v8, v9, v10, v11, v12, v13, v14, v15, v16, v17, v18, v19, v20, v21, v22, v23, v24, v25, v26] S = some (.nx [some (.loc l), v1, some (.dat (phD ph) 0), v3, v4, v5, v6, v7, v8, v9, v10, v11, v12, v13, v14, v15, v16, v17, v18, some (.dat (.int (c : Nat)) 0), some (.dat (.int (y - 3)) 0), v21, v22, v23, v24, v25, v26] S2) := by
    unfold R12
    rw [x_asgP]
    refine asgP_of (ws := [.dat (.int (c : Nat)) 0, .dat (.int (y - 3)) 0]) (S1 := S2) ?_ rfl rfl
    rw [e_cons]
    refine cons_of (S1 := S1) (w := .dat (.int (c : Nat)) 0) ?_ ?_
    · rw [e_bin]
      exact bin_of e_c q1 (by show some (W.dat (.int (1 + x)) 0) = _; rw [hc])
    · rw [e_cons]
      refine cons_of (S1 := S2) (w := .dat (.int (y - 3)) 0) ?_ e_nil
      rw [e_bin]
      exact bin_of q2 e_c rfl
  have nn : ∀ l : List Nat, nolAll (l.map fun i => PyData.int (i : Nat)) = true := fun l => nolAll_iff.mpr fun x hx => by
    obtain ⟨i, _, rfl⟩ := List.mem_map.mp hx
    rfl
  have kp : ∀ l : List Nat, (W.dat (phD l) 0).keep = true := fun l => nn l
  have cl : clampD (ph.map fun i => PyData.int (i : Nat)).length (c : Nat) = c := by
    rw [List.length_map]
    unfold clampD
    rw [if_neg (by omega), Int.toNat_natCast]
    omega
  have sH : slHop (phD ph) (.int (c : Nat)) = some (.dat (phD (ph.take c)) 0) := by
    show some (W.dat (.tuple ((ph.map fun i => PyData.int (i : Nat)).take (clampD _ _))) 0) = _
    rw [cl, ← List.map_take]
    rfl
  have sL : slLop (phD ph) (.int (c : Nat)) = some (.dat (phD (ph.drop c)) 0) := by
    show some (W.dat (.tuple ((ph.map fun i => PyData.int (i : Nat)).drop (clampD _ _))) 0) = _
    rw [cl, ← List.map_drop]
    rfl
  have s13 : exS (FT tab gl (k + 12)) gl R13 [some (.loc l), v1, some (.dat (phD ph) 0), v3, v4, v5, v6, v7, v8, v9, v10, v11, v12, v13, v14, v15, v16, v17, v18, some (.dat (.int (c : Nat)) 0), some (.dat (.int (y - 3)) 0), v21, v22, v23, v24, v25, v26] S2 = some (.nx [some (.loc l), v1, some (.dat (phD ph) 0), v3, v4, v5, v6, some (.dat (phD (ph.take c)) 0), some (.dat (phD (ph.drop c)) 0), v9, v10, v11, v12, v13, v14, v15, v16, v17, v18, some (.dat (.int (c : Nat)) 0), some (.dat (.int (y - 3)) 0), v21, v22, v23, v24, v25, v26] S2) := by
    unfold R13
    rw [x_asgP]
    refine asgP_of (ws := [.dat (phD (ph.take c)) 0, .dat (phD (ph.drop c)) 0]) (S1 := S2) ?_ ?_ rfl
    · simp [consE, slHE, slLE, W.fz, sH, sL]
    · simp only [List.all_cons, List.all_nil, kp, Bool.and_self]
  obtain ⟨z, S3, q3, z1, z2, p3⟩ := e_draw (k := k + 11) (S := S2) (l := l) (n := 2) (r := [some (.loc l), v1, some (.dat (phD ph) 0), v3, v4, v5, v6, some (.dat (phD (ph.take c)) 0), some (.dat (phD (ph.drop c)) 0), v9, v10, v11, v12, v13, v14, v15, v16, v17, v18, some (.dat (.int (c : Nat)) 0), some (.dat (.int (y - 3)) 0), v21, v22, v23, v24, v25, v26]) (e := .c (.int 2)) rfl (fun T => by simp) p2' (by omega) (by omega)
  have o1 : PhOk g.n (ph.take c) := ph_sub h.phk (List.take_sublist _ _) (by rw [List.length_take]; omega)
  have o2 : PhOk g.n (ph.drop c) := ph_sub h.phk (List.drop_sublist _ _) (by rw [List.length_drop]; omega)
  have nd : (ph.take c ++ ph.drop c).Nodup := by
    rw [List.take_append_drop]
    exact (up_pw h.phk.up).imp fun {a b} h => by omega
  have dj := (List.nodup_append.mp nd).2.2
  have hcnd : ∀ b, (z == 0) = b → evE (FT tab gl (k + 12)) gl (.cmp .eq (.call "_law_draw" [.v 0, .c (.int 2)]) (.c (.int 0))) [some (.loc l), v1, some (.dat (phD ph) 0), v3, v4, v5, v6, some (.dat (phD (ph.take c)) 0), some (.dat (phD (ph.drop c)) 0), v9, v10, v11, v12, v13, v14, v15, v16, v17, v18, some (.dat (.int (c : Nat)) 0), some (.dat (.int (y - 3)) 0), v21, v22, v23, v24, v25, v26] S2 = some (.dat (.bool b) 0, S3) := fun b hb => by
    rw [e_cmp]
    refine cmp_of q3 e_c ?_
    rw [cmp_eq (sh_int _) (sh_int _), eqv_int, hb]
  by_cases hz : z = 0
  · refine ⟨ph.drop c, ph.take c, y - 3, some (.dat (.int (c : Nat)) 0), S3, o2, o1, fun i hi hj => dj i hi i hj rfl, by rw [List.length_take, List.length_drop]; omega, by omega, by omega, p3, fun ss => (st_cons s12).trans ((st_cons s13).trans (st_cons ?_))⟩
    unfold R14
    rw [x_ifs]
    refine (if_t (hcnd true (by rw [hz]; rfl))).trans ?_
    rw [x_cons]
    refine (seq_nx (x_asgP.trans (asgP_of (ws := [.dat (phD (ph.drop c)) 0, .dat (phD (ph.take c)) 0]) (S1 := S3) ?_ ?_ rfl))).trans x_nil
    · simp [consE, W.fz]
    · simp only [List.all_cons, List.all_nil, kp, Bool.and_self]
  · refine ⟨ph.take c, ph.drop c, y - 3, some (.dat (.int (c : Nat)) 0), S3, o1, o2, fun i hi hj => dj i hj i hi rfl, by rw [List.length_take, List.length_drop]; omega, by omega, by omega, p3, fun ss => (st_cons s12).trans ((st_cons s13).trans (st_cons ?_))⟩
    unfold R14
    rw [x_ifs]
    exact (if_f (hcnd false (by simpa using hz))).trans x_nil
/-- two phases of the dig without a common layer -/
structure R2C (g : Dg) (p1 p2 : List Nat) : Prop where
  a : PhOk g.n p1
  b : PhOk g.n p2
  dj : ∀ i ∈ p2, i ∉ p1
  l : p1.length + p2.length ≤ 4
def R15 : Sm := .asg 21 (.comp (.lst [.tup [.c (.str "apart"), .v 23, .v 22, .v 20]]) [22, 23] false .seq [.call "_law_pairs" [.v 7, .v 8]] [])
def R16 : Sm := .asg 24 (.lst [.comp (.tup [.c (.str "apart"), .v 23, .v 22, .c (.int 0)]) [22, 23] false .seq [.call "_law_pairs" [.v 7, .v 8]] [], .comp (.tup [.c (.str "apart"), .v 22, .v 23, .c (.int 0)]) [22, 23] false .seq [.call "_law_pairs" [.v 7, .v 8]] []])
theorem pr_dj {ph qh : List Nat} (dj : ∀ i ∈ qh, i ∉ ph) : pr ph qh = ph.flatMap fun a => qh.map fun b => (a, b) := by
  have : ∀ l : List Nat, (∀ a ∈ l, a ∈ ph) → pr l qh = l.flatMap fun a => qh.map fun b => (a, b) := fun l => by
    induction l with
    | nil => exact fun _ => rfl
    | cons a l ih =>
      intro hm
      have h1 := ih fun x hx => hm x (by simp [hx])
      have h2 : (qh.filter fun b => a != b) = qh := List.filter_eq_self.mpr fun b hb => by
        have : a ≠ b := fun z => dj b hb (z ▸ hm a (by simp))
        simpa using this
      unfold pr at h1 ⊢
      rw [List.flatMap_cons, List.flatMap_cons, h1, h2]
  exact this ph fun _ h => h
theorem x_R15 {g : Dg} {p1 p2 : List Nat} {y : Int} (h : R2C g p1 p2) : exS (FT tab gl (k + 12)) gl R15 [v0, v1, v2, v3, v4, v5, v6, some (.dat (phD p1) 0), some (.dat (phD p2) 0), v9, v10, v11, v12, v13, v14, v15, v16, v17, v18, v19, some (.dat (.int y) 0), v21, v22, v23, v24, v25, v26] S = some (.nx [v0, v1, v2, v3, v4, v5, v6, some (.dat (phD p1) 0), some (.dat (phD p2) 0), v9, v10, v11, v12, v13, v14, v15, v16, v17, v18, v19, some (.dat (.int y) 0), some (.dat (fD (fEnd p1 p2 y)) 2), v22, v23, v24, v25, v26] S) := by
  have e := e_prs (k := k + 11) (S := S) (ph := p1) (qh := p2) (r := [v0, v1, v2, v3, v4, v5, v6, some (.dat (phD p1) 0), some (.dat (phD p2) 0), v9, v10, v11, v12, v13, v14, v15, v16, v17, v18, v19, some (.dat (.int y) 0), v21, v22, v23, v24, v25, v26]) (a := 7) (b := 8) (i := 22) (j := 23) (ma := 0) (mb := 0) (mm := 2) (elt := .lst [.tup [.c (.str "apart"), .v 23, .v 22, .v 20]]) (f := fun p => .list [(Cl.apart p.2 p.1 y).d]) rfl rfl h.a.l2 h.b.l2 (fun p _ => by
    simp [lstE, tupE, consE, W.fz, datAll, LIM, dOf, isL, Cl.d]) fun _ => .inr (by simp)
  have e2 : PyData.list ((pr p1 p2).map fun p => .list [(Cl.apart p.2 p.1 y).d]) = fD (fEnd p1 p2 y) := by
    rw [pr_dj h.dj]
    unfold fD fEnd
    simp only [List.map_flatMap, List.map_map]
    rfl
  rw [e2] at e
  unfold R15
  rw [x_asg]
  refine (asg_of e).trans ?_
  rw [useR_keep (keep_f _ 0)]
  rfl
theorem x_R16 {g : Dg} {p1 p2 : List Nat} (h : R2C g p1 p2) : exS (FT tab gl (k + 12)) gl R16 [v0, v1, v2, v3, v4, v5, v6, some (.dat (phD p1) 0), some (.dat (phD p2) 0), v9, v10, v11, v12, v13, v14, v15, v16, v17, v18, v19, v20, v21, v22, v23, v24, v25, v26] S = some (.nx [v0, v1, v2, v3, v4, v5, v6, some (.dat (phD p1) 0), some (.dat (phD p2) 0), v9, v10, v11, v12, v13, v14, v15, v16, v17, v18, v19, v20, v21, v22, v23, some (.dat (fD (fOver p1 p2)) 2), v25, v26] S) := by
  have ea := e_prs (k := k + 11) (S := S) (ph := p1) (qh := p2) (r := [v0, v1, v2, v3, v4, v5, v6, some (.dat (phD p1) 0), some (.dat (phD p2) 0), v9, v10, v11, v12, v13, v14, v15, v16, v17, v18, v19, v20, v21, v22, v23, v24, v25, v26]) (a := 7) (b := 8) (i := 22) (j := 23) (ma := 0) (mb := 0) (mm := 0) (elt := .tup [.c (.str "apart"), .v 23, .v 22, .c (.int 0)]) (f := fun p => (Cl.apart p.2 p.1 0).d) rfl rfl h.a.l2 h.b.l2 (fun p _ => by
    simp [tupE, consE, W.fz, datAll, LIM, Cl.d]) fun _ => .inl rfl
  have eb := e_prs (k := k + 11) (S := S) (ph := p1) (qh := p2) (r := [v0, v1, v2, v3, v4, v5, v6, some (.dat (phD p1) 0), some (.dat (phD p2) 0), v9, v10, v11, v12, v13, v14, v15, v16, v17, v18, v19, v20, v21, v22, v23, v24, v25, v26]) (a := 7) (b := 8) (i := 22) (j := 23) (ma := 0) (mb := 0) (mm := 0) (elt := .tup [.c (.str "apart"), .v 22, .v 23, .c (.int 0)]) (f := fun p => (Cl.apart p.1 p.2 0).d) rfl rfl h.a.l2 h.b.l2 (fun p _ => by
    simp [tupE, consE, W.fz, datAll, LIM, Cl.d]) fun _ => .inl rfl
  have e3 : evE (FT tab gl (k + 12)) gl (.lst [.comp (.tup [.c (.str "apart"), .v 23, .v 22, .c (.int 0)]) [22, 23] false .seq [.call "_law_pairs" [.v 7, .v 8]] [], .comp (.tup [.c (.str "apart"), .v 22, .v 23, .c (.int 0)]) [22, 23] false .seq [.call "_law_pairs" [.v 7, .v 8]] []]) [v0, v1, v2, v3, v4, v5, v6, some (.dat (phD p1) 0), some (.dat (phD p2) 0), v9, v10, v11, v12, v13, v14, v15, v16, v17, v18, v19, v20, v21, v22, v23, v24, v25, v26] S = some (.dat (fD (fOver p1 p2)) 2, S) := by
    rw [e_lst]
    unfold lstE
    rw [e_cons, show consE _ _ _ S = some ([_, _], S) from cons_of ea (by rw [e_cons]; exact cons_of eb e_nil)]
    simp only [datAll]
    rw [if_pos (by show 2 ≤ LIM; decide), pr_dj h.dj]
    unfold fD fOver
    simp only [List.map_cons, List.map_nil, List.map_flatMap, List.map_map]
    rfl
  unfold R16
  rw [x_asg]
  refine (asg_of e3).trans ?_
  rw [useR_keep (keep_f _ 0)]
  rfl
def R17 : Sm := .asg 14 (.lst [.call "ended_before" [.v 1, .v 7, .v 8, .v 20], .call "overlapped" [.v 1, .v 7, .v 8], .callK "ended_before" [] ["years", "other_phase", "phase", "dig"] [.v 20, .v 8, .v 7, .v 1]])
theorem e_ended {g : Dg} {ph p1 p2 : List Nat} {y : Int} (h : RC g ph) (q : R2C g p1 p2) (y1 : -3 ≤ y) (y2 : y ≤ 3) : evE (FT tab gl (k + 12)) gl (.call "ended_before" [.v 1, .v 7, .v 8, .v 20]) [v0, some (.dat g.d 0), v2, v3, v4, v5, v6, some (.dat (phD p1) 0), some (.dat (phD p2) 0), v9, v10, v11, v12, v13, v14, v15, v16, v17, v18, v19, some (.dat (.int y) 0), v21, v22, v23, v24, v25, v26] S = some (.dat (fD (fEnd p1 p2 y)) 2, S) := by
  obtain ⟨p, hp⟩ := h.pot
  have c1 := r_end (k := k) (S := S) (m := 0) (m1 := 0) (m2 := 0) (m3 := 0) (y := y) h.ok hp q.a q.b q.dj (by omega) (by omega)
  rw [e_call]
  refine call_of (S1 := S) (ws := [.dat g.d 0, .dat (phD p1) 0, .dat (phD p2) 0, .dat (.int y) 0]) (by simp [consE, W.fz]) ?_
  rw [c_ended_before_4]
  exact c1
theorem x_R17 {g : Dg} {ph p1 p2 : List Nat} {y : Int} (h : RC g ph) (q : R2C g p1 p2) (y1 : -3 ≤ y) (y2 : y ≤ 3) :
    exS (FT tab gl (k + 12)) gl R17 [v0, some (.dat g.d 0), v2, v3, v4, v5, v6, some (.dat (phD p1) 0), some (.dat (phD p2) 0), v9, v10, v11, v12, v13, v14, v15, v16, v17, v18, v19, some (.dat (.int y) 0), v21, v22, v23, v24, v25, v26] S = some (.nx ((fzAll [v0, some (.dat g.d 0), v2, v3, v4, v5, v6, some (.dat (phD p1) 0), some (.dat (phD p2) 0), v9, v10, v11, v12, v13, v14, v15, v16, v17, v18, v19, some (.dat (.int y) 0), v21, v22, v23, v24, v25, v26]).set 14 (some (.dat (.list [fD (fEnd p1 p2 y), fD (fOver p1 p2), fD (fEnd p1 p2 y)]) 2))) S) := by
  obtain ⟨p, hp⟩ := h.pot
  have c1 := r_end (k := k) (S := S) (m := 0) (m1 := 0) (m2 := 0) (m3 := 0) (y := y) h.ok hp q.a q.b q.dj (by omega) (by omega)
  have c2 := r_over (k := k) (S := S) (m := 0) (m1 := 0) (m2 := 0) h.ok hp q.a q.b q.dj
  have ev : evE (FT tab gl (k + 12)) gl (.lst [.call "ended_before" [.v 1, .v 7, .v 8, .v 20], .call "overlapped" [.v 1, .v 7, .v 8], .callK "ended_before" [] ["years", "other_phase", "phase", "dig"] [.v 20, .v 8, .v 7, .v 1]]) [v0, some (.dat g.d 0), v2, v3, v4, v5, v6, some (.dat (phD p1) 0), some (.dat (phD p2) 0), v9, v10, v11, v12, v13, v14, v15, v16, v17, v18, v19, some (.dat (.int y) 0), v21, v22, v23, v24, v25, v26] S = some (.dat (.list [fD (fEnd p1 p2 y), fD (fOver p1 p2), fD (fEnd p1 p2 y)]) 2, S) := by
    rw [e_lst]
    unfold lstE
    rw [e_cons, show consE _ _ _ S = some ([.dat (fD (fEnd p1 p2 y)) 2, .dat (fD (fOver p1 p2)) 1, .dat (fD (fEnd p1 p2 y)) 2], S) from cons_of (S1 := S) (e_ended h q y1 y2) (by
      rw [e_cons]
      refine cons_of (S1 := S) ?_ ?_
      · rw [e_call]
        refine call_of (S1 := S) (ws := [.dat g.d 0, .dat (phD p1) 0, .dat (phD p2) 0]) (by simp [consE, W.fz]) ?_
        rw [c_overlapped]
        exact c2
      · rw [e_cons]
        refine cons_of (S1 := S) ?_ e_nil
        rw [e_callK]
        refine callK_of (S1 := S) (S2 := S) (ws := []) (vs := [.dat (.int y) 0, .dat (phD p2) 0, .dat (phD p1) 0, .dat g.d 0]) e_nil (by simp [consE, W.fz]) ?_
        exact (c_ended_before_0k (k + 11) (.dat (.int y) 0) (.dat (phD p2) 0) (.dat (phD p1) 0) (.dat g.d 0) S).trans c1)]
    simp only [datAll]
    rw [if_pos (by show 3 ≤ LIM; decide), dOf_two (fun z hz => by
      simp only [List.mem_cons, List.not_mem_nil, or_false] at hz
      rcases hz with rfl | rfl | rfl
      · exact .inr (by simp)
      · exact .inr (by simp)
      · exact .inr (by simp))]
    rfl
  have ne : fEnd p1 p2 y ≠ [] := fun z => by
    have := (f_end (n := g.n) (y := y) q.a q.b q.dj q.l (by omega) (by omega)).l1
    rw [z] at this
    cases this
  unfold R17
  rw [x_asg]
  refine (asg_of ev).trans ?_
  unfold useR
  rw [nokeep _ _ ne]
  rfl
def R18 : Sm := .ifs (.or (.cmp .ne (.bi .repr [.v 14]) (.bi .repr [.lst [.v 21, .v 24, .v 21]])) (.not (.bi .all [.comp (.call "is_formula" [.v 1, .v 16]) [16] true .seq [.v 14] []]))) [.ret (.c (.bool false))] []
theorem all2 {g : Dg} {p1 p2 : List Nat} {y : Int} (q : R2C g p1 p2) (y1 : -3 ≤ y) (y2 : y ≤ 3) : ∀ f ∈ [fEnd p1 p2 y, fOver p1 p2, fEnd p1 p2 y], FOk g.n f := fun f hf => by
  simp only [List.mem_cons, List.not_mem_nil, or_false] at hf
  rcases hf with rfl | rfl | rfl
  · exact f_end q.a q.b q.dj q.l (by omega) (by omega)
  · exact f_over q.a q.b q.dj q.l
  · exact f_end q.a q.b q.dj q.l (by omega) (by omega)
theorem x_R18 {g : Dg} {ph p1 p2 : List Nat} {y : Int} {mA mB : Nat} (h : RC g ph) (q : R2C g p1 p2) (y1 : -3 ≤ y) (y2 : y ≤ 3) :
    exS (FT tab gl (k + 12)) gl R18 [v0, some (.dat g.d 0), v2, v3, v4, v5, v6, v7, v8, v9, v10, v11, v12, v13, some (.dat (.list [fD (fEnd p1 p2 y), fD (fOver p1 p2), fD (fEnd p1 p2 y)]) 2), v15, v16, v17, v18, v19, v20, some (.dat (fD (fEnd p1 p2 y)) mA), v22, v23, some (.dat (fD (fOver p1 p2)) mB), v25, v26] S = some (.nx [v0, some (.dat g.d 0), v2, v3, v4, v5, v6, v7, v8, v9, v10, v11, v12, v13, some (.dat (.list [fD (fEnd p1 p2 y), fD (fOver p1 p2), fD (fEnd p1 p2 y)]) 2), v15, v16, v17, v18, v19, v20, some (.dat (fD (fEnd p1 p2 y)) mA), v22, v23, some (.dat (fD (fOver p1 p2)) mB), v25, v26] S) := by
  obtain ⟨p, hp⟩ := h.pot
  have all3 := all2 (y := y) q y1 y2
  have t := tame_told h.ok.n2 all3 (by show 3 ≤ 12; decide)
  unfold R18
  rw [x_ifs]
  refine (if_f (m := 0) (S1 := S) ?_).trans x_nil
  rw [e_or]
  refine (or_f (m := 0) (S1 := S) (e_repr2 (es := []) (fs := []) (ma := 0) (mb := 1) (D := .list [fD (fEnd p1 p2 y), fD (fOver p1 p2), fD (fEnd p1 p2 y)]) (by simp [W.fz]) ?_ t).1).trans ?_
  · rw [e_lst]
    unfold lstE
    rw [show evEs (FT tab gl (k + 12)) gl [.v 21, .v 24, .v 21] [v0, some (.dat g.d 0), v2, v3, v4, v5, v6, v7, v8, v9, v10, v11, v12, v13, some (.dat (.list [fD (fEnd p1 p2 y), fD (fOver p1 p2), fD (fEnd p1 p2 y)]) 2), v15, v16, v17, v18, v19, v20, some (.dat (fD (fEnd p1 p2 y)) mA), v22, v23, some (.dat (fD (fOver p1 p2)) mB), v25, v26] S = some ([.dat (fD (fEnd p1 p2 y)) 0, .dat (fD (fOver p1 p2)) 0, .dat (fD (fEnd p1 p2 y)) 0], S) by simp [consE, W.fz]]
    simp only [datAll]
    rw [if_pos (by show 3 ≤ LIM; decide)]
    rfl
  rw [e_not]
  exact not_of (b := true) (e_isf (fs := [fEnd p1 p2 y, fOver p1 p2, fEnd p1 p2 y]) (mt := 2) h.ok hp (fun _ => rfl) rfl (fun _ => rfl) all3 (by show 3 ≤ 12; decide))
end K81
end

section
set_option maxRecDepth 100000
/-! K81AJ: the law's right: all worlds, second part; the end. -/
namespace K81
open PySem MP
variable {k : Nat} {S : Sto} {m m1 m2 m3 : Nat}
variable {v0 v1 v2 v3 v4 v5 v6 v7 v8 v9 v10 v11 v12 v13 v14 v15 v16 v17 v18 v19 v20 v21 v22 v23 v24 v25 v26 : Option W}

def V1 : Sm := .asgP [25, 26] [.comp (.idx (.v 15) (.v 13)) [13] true .seq [.v 7] [], .comp (.idx (.v 15) (.v 13)) [13] true .seq [.v 8] []]
def V2 : Sm := .asg 17 (.lst [.cmp .ge (.bi .minL [.v 26]) (.bin .add (.bi .maxL [.v 25]) (.v 20)), .and (.cmp .le (.bi .minL [.v 26]) (.bi .maxL [.v 25])) (.cmp .le (.bi .minL [.v 25]) (.bi .maxL [.v 26]))])
def V3 : Sm := .ifs (.cmp .ne (.comp (.call "_law_is_so" [.v 18, .v 15]) [18] true .seq [.slH (.v 14) (.c (.int 2))] []) (.v 17)) [.ret (.c (.bool false))] []
theorem x_V1 {F : Fns} {w : List Int} {p1 p2 : List Nat} (hl : p1.length ≤ 4) (hl2 : p2.length ≤ 4) (hw : ∀ i ∈ p1, i < w.length) (hw2 : ∀ i ∈ p2, i < w.length) : exS F gl V1 [v0, v1, v2, v3, v4, v5, v6, some (.dat (phD p1) 0), some (.dat (phD p2) 0), v9, v10, v11, v12, v13, v14, some (.dat (wD w) 0), v16, v17, v18, v19, v20, v21, v22, v23, v24, v25, v26] S = some (.nx [v0, v1, v2, v3, v4, v5, v6, some (.dat (phD p1) 0), some (.dat (phD p2) 0), v9, v10, v11, v12, v13, v14, some (.dat (wD w) 0), v16, v17, v18, v19, v20, v21, v22, v23, v24, some (.dat (.list ((yrs p1 w).map PyData.int)) 2), some (.dat (.list ((yrs p2 w).map PyData.int)) 2)] S) := by
  unfold V1
  rw [x_asgP]
  refine asgP_of (ws := [.dat (.list ((yrs p1 w).map PyData.int)) 2, .dat (.list ((yrs p2 w).map PyData.int)) 2]) (S1 := S) ?_ ?_ rfl
  · rw [e_cons]
    refine cons_of (e_yrs (mw := 0) (mm := 0) (fun _ => rfl) rfl (fun _ => rfl) hl hw) ?_
    rw [e_cons]
    exact cons_of (e_yrs (mw := 0) (mm := 0) (fun _ => rfl) rfl (fun _ => rfl) hl2 hw2) e_nil
  · simp only [List.all_cons, List.all_nil, keep_ints _ 1, Bool.and_self]
theorem x_V2 {F : Fns} {l j : List Int} {y : Int} (hl : l ≠ []) (hj : j ≠ []) : exS F gl V2 [v0, v1, v2, v3, v4, v5, v6, v7, v8, v9, v10, v11, v12, v13, v14, v15, v16, v17, v18, v19, some (.dat (.int y) 0), v21, v22, v23, v24, some (.dat (.list (l.map PyData.int)) 2), some (.dat (.list (j.map PyData.int)) 2)] S = some (.nx [v0, v1, v2, v3, v4, v5, v6, v7, v8, v9, v10, v11, v12, v13, v14, v15, v16, some (.dat (.list ([decide (mxI l + y ≤ mnI j), decide (mnI j ≤ mxI l) && decide (mnI l ≤ mxI j)].map PyData.bool)) 2), v18, v19, some (.dat (.int y) 0), v21, v22, v23, v24, some (.dat (.list (l.map PyData.int)) 2), some (.dat (.list (j.map PyData.int)) 2)] S) := by
  have q1 : biop S .maxL [.dat (.list (l.map PyData.int)) 0] = some (.dat (.int (mxI l)) 0) := bi_max hl
  have q2 : biop S .minL [.dat (.list (l.map PyData.int)) 0] = some (.dat (.int (mnI l)) 0) := bi_min hl
  have q3 : biop S .maxL [.dat (.list (j.map PyData.int)) 0] = some (.dat (.int (mxI j)) 0) := bi_max hj
  have q4 : biop S .minL [.dat (.list (j.map PyData.int)) 0] = some (.dat (.int (mnI j)) 0) := bi_min hj
  unfold V2
  rw [x_asg]
  refine (asg_of (S1 := S) (w := .dat (.list ([decide (mxI l + y ≤ mnI j), decide (mnI j ≤ mxI l) && decide (mnI l ≤ mxI j)].map PyData.bool)) 2) ?_).trans ?_
  · by_cases c : mnI j ≤ mxI l
    · simp [lstE, consE, cmpE, binE, biE, andE, W.fz, q1, q2, q3, q4, binop, cmpop, datAll, LIM, dOf, isL, c]
    · simp [lstE, consE, cmpE, binE, biE, andE, W.fz, q1, q2, q3, q4, binop, cmpop, datAll, LIM, dOf, isL, c]
  · rw [useR_keep (keep_nol rfl)]
    rfl
theorem x_V3 {w : List Int} {f1 f2 f3 : List (List Cl)} {n : Int} {bs : List Bool} (h : ∀ f ∈ [f1, f2], FOk n f) (hw : (w.length : Int) = n) (hb : [so f1 w, so f2 w] = bs) :
    exS (FT tab gl (k + 2)) gl V3 [v0, v1, v2, v3, v4, v5, v6, v7, v8, v9, v10, v11, v12, v13, some (.dat (.list [fD f1, fD f2, fD f3]) 2), some (.dat (wD w) 0), v16, some (.dat (.list (bs.map PyData.bool)) 2), v18, v19, v20, v21, v22, v23, v24, v25, v26] S = some (.nx [v0, v1, v2, v3, v4, v5, v6, v7, v8, v9, v10, v11, v12, v13, some (.dat (.list [fD f1, fD f2, fD f3]) 2), some (.dat (wD w) 0), v16, some (.dat (.list (bs.map PyData.bool)) 2), v18, v19, v20, v21, v22, v23, v24, v25, v26] S) := by
  unfold V3
  rw [x_ifs]
  refine (if_f (m := 0) (S1 := S) ?_).trans x_nil
  rw [e_cmp]
  refine cmp_of (S1 := S) (m := 2) (d := .list (bs.map PyData.bool)) (m2 := 0) (e := .list (bs.map PyData.bool)) ?_ (by simp [W.fz]) (ne_bools bs)
  rw [← hb]
  have hs : slHop (.list [fD f1, fD f2, fD f3]) (.int 2) = some (.dat (.list [fD f1, fD f2]) 1) := rfl
  exact e_so (k := k) (mw := 0) (mt := 1) (n := n) (fs := [f1, f2]) (fun _ => rfl) (by simp [slHE, W.fz, hs]) (fun _ => rfl) h (by show 2 ≤ 12; decide) hw
def R19 : Sm := .loopV [15] true .seq 3 [V1, V2, V3]
theorem x_R19 {g : Dg} {p1 p2 : List Nat} {y : Int} {ws : List (List Int)} {mw : Nat} (q : R2C g p1 p2) (hw : ∀ w ∈ ws, (w.length : Int) = g.n) (hl : ws.length ≤ 625) (y1 : -3 ≤ y) (y2 : y ≤ 3) :
    ∃ o15 o17 o25 o26, exS (FT tab gl (k + 12)) gl R19 [v0, v1, v2, some (.dat (.list (ws.map wD)) mw), v4, v5, v6, some (.dat (phD p1) 0), some (.dat (phD p2) 0), v9, v10, v11, v12, v13, some (.dat (.list [fD (fEnd p1 p2 y), fD (fOver p1 p2), fD (fEnd p1 p2 y)]) 2), v15, v16, v17, v18, v19, some (.dat (.int y) 0), v21, v22, v23, v24, v25, v26] S = some (.nx [v0, v1, v2, some (.dat (.list (ws.map wD)) 0), v4, v5, v6, some (.dat (phD p1) 0), some (.dat (phD p2) 0), v9, v10, v11, v12, v13, some (.dat (.list [fD (fEnd p1 p2 y), fD (fOver p1 p2), fD (fEnd p1 p2 y)]) 2), o15, v16, o17, v18, v19, some (.dat (.int y) 0), v21, v22, v23, v24, o25, o26] S) := by
  have hne1 : p1 ≠ [] := fun z => by
    have := q.a.l1
    rw [z] at this
    cases this
  have hne2 : p2 ≠ [] := fun z => by
    have := q.b.l1
    rw [z] at this
    cases this
  have al : ∀ f ∈ [fEnd p1 p2 y, fOver p1 p2], FOk g.n f := fun f hf => all2 (y := y) q y1 y2 f (by
    rcases List.mem_cons.mp hf with rfl | hf
    · simp
    · rw [List.mem_singleton.mp hf]
      simp)
  obtain ⟨r', S', g1, rfl, o15, o17, o25, o26, td, t1, t2, rfl⟩ := forGo_all (tg := [15]) (one := true) (body := exSs (FT tab gl (k + 12)) gl [V1, V2, V3]) (xs := ws.map wD) (r := [v0, v1, v2, some (.dat (.list (ws.map wD)) 0), v4, v5, v6, some (.dat (phD p1) 0), some (.dat (phD p2) 0), v9, v10, v11, v12, v13, some (.dat (.list [fD (fEnd p1 p2 y), fD (fOver p1 p2), fD (fEnd p1 p2 y)]) 2), v15, v16, v17, v18, v19, some (.dat (.int y) 0), v21, v22, v23, v24, v25, v26]) (S := S)
    (P := fun rest r S' => S' = S ∧ ∃ o15 o17 o25 o26, ∃ td : List (List Int), rest = td.map wD ∧ (∀ w ∈ td, (w.length : Int) = g.n) ∧ r = [v0, v1, v2, some (.dat (.list (ws.map wD)) 0), v4, v5, v6, some (.dat (phD p1) 0), some (.dat (phD p2) 0), v9, v10, v11, v12, v13, some (.dat (.list [fD (fEnd p1 p2 y), fD (fOver p1 p2), fD (fEnd p1 p2 y)]) 2), o15, v16, o17, v18, v19, some (.dat (.int y) 0), v21, v22, v23, v24, o25, o26])
    ⟨rfl, v15, v17, v25, v26, ws, rfl, hw, rfl⟩ fun x xs r S' ⟨e0, o15, o17, o25, o26, td, t1, t2, t3⟩ => by
      subst e0
      subst t3
      match td, t1 with
      | w :: td, t1 =>
        injection t1 with t4 t5
        subst t4
        have hwl := t2 w (by simp)
        have hlt1 : ∀ i ∈ p1, i < w.length := fun i hi => by
          have := q.a.lt i hi
          omega
        have hlt2 : ∀ i ∈ p2, i < w.length := fun i hi => by
          have := q.b.lt i hi
          omega
        refine ⟨_, rfl, _, S', .inl ?_, rfl, some (.dat (wD w) 0), some (.dat (.list ([decide (mxI (yrs p1 w) + y ≤ mnI (yrs p2 w)), decide (mnI (yrs p2 w) ≤ mxI (yrs p1 w)) && decide (mnI (yrs p1 w) ≤ mxI (yrs p2 w))].map PyData.bool)) 2), some (.dat (.list ((yrs p1 w).map PyData.int)) 2), some (.dat (.list ((yrs p2 w).map PyData.int)) 2), td, t5, fun y hy => t2 y (by simp [hy]), rfl⟩
        refine (st_cons (x_V1 (w := w) (p1 := p1) (p2 := p2) q.a.l2 q.b.l2 hlt1 hlt2)).trans ?_
        refine (st_cons (x_V2 (y := y) (yrs_ne (w := w) hne1) (yrs_ne (w := w) hne2))).trans ?_
        refine (st_cons (x_V3 (k := k + 10) (w := w) (f1 := fEnd p1 p2 y) (f2 := fOver p1 p2) (f3 := fEnd p1 p2 y) (n := g.n) al hwl ?_)).trans x_nil
        rw [so_end hne1 hne2, so_over hne1 hne2]
  refine ⟨o15, o17, o25, o26, ?_⟩
  unfold R19
  exact x_loopV.trans ((loopV_of (w := .dat (.list (ws.map wD)) mw) (ys := ws.map wD) rfl rfl (by rw [List.length_map]; exact Nat.le_trans hl (by decide))).trans g1)
def R20 : Sm := .clr 14 (.c (.int 0))
def R21 : Sm := .ret (.and (.cmp .eq (.bi .repr [.call "ended_before" [.v 1, .v 7, .v 8, .v 20]]) (.bi .repr [.v 21])) (.cmp .eq (.bi .repr [.v 1]) (.v 4)))
theorem x_R20 {F : Fns} {f : List (List Cl)} {fs : List PyData} : exS F gl R20 [v0, v1, v2, v3, v4, v5, v6, v7, v8, v9, v10, v11, v12, v13, some (.dat (.list (fD f :: fs)) 2), v15, v16, v17, v18, v19, v20, v21, v22, v23, v24, v25, v26] S = some (.nx [v0, v1, v2, v3, v4, v5, v6, v7, v8, v9, v10, v11, v12, v13, some (.dat (.list (.list [] :: fs)) 2), v15, v16, v17, v18, v19, v20, v21, v22, v23, v24, v25, v26] S) := by
  have e : ixD (fD f :: fs).length 0 = some 0 := by
    unfold ixD
    rw [if_pos (Int.le_refl _), if_pos (by rw [List.length_cons]; omega)]
    rfl
  unfold R20
  rw [x_clr]
  unfold clrE
  simp only [List.getElem?_cons_succ, List.getElem?_cons_zero]
  rw [e]
  rfl
theorem x_R21 {g : Dg} {ph p1 p2 : List Nat} {y : Int} {mA : Nat} (h : RC g ph) (q : R2C g p1 p2) (y1 : -3 ≤ y) (y2 : y ≤ 3) {ss : List Sm} :
    exSs (FT tab gl (k + 12)) gl (R21 :: ss) [v0, some (.dat g.d 0), v2, v3, some (.dat (.str g.d.shown) 0), v5, v6, some (.dat (phD p1) 0), some (.dat (phD p2) 0), v9, v10, v11, v12, v13, v14, v15, v16, v17, v18, v19, some (.dat (.int y) 0), some (.dat (fD (fEnd p1 p2 y)) mA), v22, v23, v24, v25, v26] S = some (.rt (.dat (.bool true) 0) S) := by
  have o := all2 (y := y) q y1 y2 (fEnd p1 p2 y) (by simp)
  have t3 := FOk.tame h.ok.n2 o
  have td := tame_dig h.ok h.fs
  rw [x_cons]
  refine seq_rt ?_
  unfold R21
  rw [x_ret]
  refine ret_of ?_
  rw [e_and]
  refine (and_t (m := 0) (S1 := S) (e_repr2 (es := []) (fs := []) (D := fD (fEnd p1 p2 y)) (ma := 2) (mb := 0) (e_ended h q y1 y2) (by simp [W.fz]) ⟨tame_up t3.1, t3.2⟩).2).trans ?_
  rw [e_cmp]
  refine cmp_of (S1 := S) (d := .str g.d.shown) (m := 0) (e := .str g.d.shown) (m2 := 0) ?_ (by simp [W.fz]) (rok_eq td.2)
  rw [e_bi]
  unfold biE
  rw [show evEs (FT tab gl (k + 12)) gl [.v 1] [v0, some (.dat g.d 0), v2, v3, some (.dat (.str g.d.shown) 0), v5, v6, some (.dat (phD p1) 0), some (.dat (phD p2) 0), v9, v10, v11, v12, v13, v14, v15, v16, v17, v18, v19, some (.dat (.int y) 0), some (.dat (fD (fEnd p1 p2 y)) mA), v22, v23, v24, v25, v26] S = some ([.dat g.d 0], S) by simp [consE, W.fz]]
  dsimp only
  rw [tame_repr td.1]
theorem r_right {l : Nat} (hp : PotAt l S) : ∃ S', fn_law_right.run (FT tab gl (k + 12)) gl [.loc l] S = some (.dat (.bool true) 0, S') := by
  have hb : fn_law_right.body = [R0, R1, R2, R3, R4, R5, R6, R7, R8, R9, R10, R11, R12, R13, R14, R15, R16, R17, R18, R19, R20, R21] := rfl
  obtain ⟨g, ph, S1, rc, p1, A⟩ := r_stageA (k := k) hp
  obtain ⟨ws, mw, y, S2, w1, w2, y1, y2, p2, B⟩ := r_stageB (k := k) (v3 := none) (v4 := none) (v5 := none) (v6 := none) (v7 := none) (v8 := none) (v9 := none) (v10 := none) (v11 := none) (v12 := none) (v13 := none) (v14 := none) (v15 := none) (v16 := none) (v17 := none) (v18 := none) (v19 := none) (v20 := none) (v21 := none) (v22 := none) (v23 := none) (v24 := none) (v25 := none) (v26 := none) p1 rc
  obtain ⟨b, e, S3, b1, b2, e1, e2, p3, C⟩ := x_R6 (k := k) (v2 := some (.dat (phD ph) 0)) (v3 := some (.dat (.list (ws.map wD)) (mw + 1))) (v4 := some (.dat (.str g.d.shown) 0)) (v5 := some (.dat (.int y) 0)) (v6 := some (.dat (fD (fMost ph y)) 2)) (v7 := none) (v8 := none) (v9 := some (.dat (fD (fLeast ph y)) 2)) (v10 := none) (v11 := none) (v12 := none) (v13 := none) (v14 := none) (v15 := none) (v16 := none) (v17 := none) (v18 := none) (v19 := none) (v20 := none) (v21 := none) (v22 := none) (v23 := none) (v24 := none) (v25 := none) (v26 := none) p2 rc.ok
  obtain ⟨n12, o13, D⟩ := x_R8 (k := k) (S := S3) (b := b) (e := e) (v0 := some (.loc l)) (v1 := some (.dat g.d 0)) (v3 := some (.dat (.list (ws.map wD)) (mw + 1))) (v4 := some (.dat (.str g.d.shown) 0)) (v5 := some (.dat (.int y) 0)) (v6 := some (.dat (fD (fMost ph y)) 2)) (v7 := none) (v8 := none) (v9 := some (.dat (fD (fLeast ph y)) 2)) (v13 := none) (v14 := none) (v15 := none) (v16 := none) (v17 := none) (v18 := none) (v19 := none) (v20 := none) (v21 := none) (v22 := none) (v23 := none) (v24 := none) (v25 := none) (v26 := none) rc.phk.l2
  obtain ⟨o15, o16, o17, L1⟩ := x_R11 (k := k) (S := S3) (y := y) (b := b) (e := e) (mw := 0) (ws := ws) (v0 := some (.loc l)) (v1 := some (.dat g.d 0)) (v4 := some (.dat (.str g.d.shown) 0)) (v6 := some (.dat (fD (fMost ph y)) 0)) (v7 := none) (v8 := none) (v9 := some (.dat (fD (fLeast ph y)) 0)) (v12 := some (.dat (fD (fIn ph b e)) 0)) (v13 := o13.map W.fz) (v15 := none) (v16 := none) (v17 := none) (v18 := none) (v19 := none) (v20 := none) (v21 := none) (v22 := none) (v23 := none) (v24 := none) (v25 := none) (v26 := none) rc w1 w2 y1 y2 b1 b2 e1 e2
  obtain ⟨ph1, ph2, gap, o19, S4, c1, c2, c3, c4, g1, g2, p4, M⟩ := r_stageC (k := k) (S := S3) (v1 := some (.dat g.d 0)) (v3 := some (.dat (.list (ws.map wD)) 0)) (v4 := some (.dat (.str g.d.shown) 0)) (v5 := some (.dat (.int y) 0)) (v6 := some (.dat (fD (fMost ph y)) 0)) (v7 := none) (v8 := none) (v9 := some (.dat (fD (fLeast ph y)) 0)) (v10 := some (.dat (.int b) 0)) (v11 := some (.dat (.int e) 0)) (v12 := some (.dat (fD (fIn ph b e)) 0)) (v13 := o13.map W.fz) (v14 := some (.dat (.list [fD (fMost ph y), fD (fLeast ph y), fD (fIn ph b e)]) 2)) (v15 := o15) (v16 := o16) (v17 := o17) (v18 := none) (v19 := none) (v20 := none) (v21 := none) (v22 := none) (v23 := none) (v24 := none) (v25 := none) (v26 := none) p3 rc
  have q : R2C g ph1 ph2 := ⟨c1, c2, c3, c4⟩
  obtain ⟨u15, u17, u25, u26, L2⟩ := x_R19 (k := k) (S := S4) (y := gap) (mw := 0) (ws := ws) (v0 := some (.loc l)) (v1 := some (.dat g.d 0)) (v2 := some (.dat (phD ph) 0)) (v4 := some (.dat (.str g.d.shown) 0)) (v5 := some (.dat (.int y) 0)) (v6 := some (.dat (fD (fMost ph y)) 0)) (v9 := some (.dat (fD (fLeast ph y)) 0)) (v10 := some (.dat (.int b) 0)) (v11 := some (.dat (.int e) 0)) (v12 := some (.dat (fD (fIn ph b e)) 0)) (v13 := (o13.map W.fz).map W.fz) (v15 := o15.map W.fz) (v16 := o16.map W.fz) (v17 := o17.map W.fz) (v18 := none) (v19 := o19.map W.fz) (v21 := some (.dat (fD (fEnd ph1 ph2 gap)) 0)) (v22 := none) (v23 := none) (v24 := some (.dat (fD (fOver ph1 ph2)) 0)) (v25 := none) (v26 := none) q w1 w2 g1 g2
  refine ⟨S4, run_rt (S1 := S) (us := [.loc l]) (by simp [fn_law_right, inWs, inW, promo]) ?_⟩
  show exSs (FT tab gl (k + 12)) gl fn_law_right.body [some (.loc l), none, none, none, none, none, none, none, none, none, none, none, none, none, none, none, none, none, none, none, none, none, none, none, none, none, none] S = _
  rw [hb]
  refine (A _).trans ?_
  refine (st_cons B).trans ?_
  refine (st_cons (x_R4 rc.phk.l2)).trans ?_
  refine (st_cons (x_R5 rc.phk.l2)).trans ?_
  refine (st_cons C).trans ?_
  refine (st_cons x_R7).trans ?_
  refine (st_cons D).trans ?_
  refine (st_cons (x_R9 rc y1 y2 b1 b2 e1 e2)).trans ?_
  refine (st_cons (x_R10 (m6 := 0) (m9 := 0) (m12 := 0) rc y1 y2 b1 b2 e1 e2)).trans ?_
  refine (st_cons L1).trans ?_
  refine (M _).trans ?_
  refine (st_cons (x_R15 q)).trans ?_
  refine (st_cons (x_R16 q)).trans ?_
  refine (st_cons (x_R17 rc q g1 g2)).trans ?_
  refine (st_cons (x_R18 (mA := 0) (mB := 0) rc q g1 g2)).trans ?_
  refine (st_cons L2).trans ?_
  refine (st_cons x_R20).trans ?_
  exact x_R21 (mA := 0) rc q g1 g2
end K81
end

section
set_option maxRecDepth 100000
/-! K81Law: the law. -/
namespace K81
open PySem MP
variable {k : Nat} {S : Sto} {m m1 m2 m3 : Nat}

theorem r_pot {F : Fns} {ns : List Int} {i : Nat} (hn : ns.length ≤ 63) (hi : i ≤ 10) : ∃ a b : Int, fn_law_pot.run F gl [.scr ns, .dat (.int (i : Nat)) m] S = some (.dat (.list [.int a, .int b]) 2, S) ∧ 0 ≤ a ∧ 0 ≤ b ∧ b ≤ 2147483563 := by
  have hl : ns.length ≤ LIM := Nat.le_trans hn (by decide)
  have e1 : ∃ c : Int, evE F gl (.ite (.cmp .lt (.v 1) (.bi .len [.v 0])) (.bi .abs [.idx (.v 0) (.v 1)]) (.bin .add (.bin .mul (.c (.int 1831)) (.v 1)) (.c (.int 991)))) [some (.scr ns), some (.dat (.int (i : Nat)) 0), none] S = some (.dat (.int c) 0, S) := by
    have hlen : biop S .len [.scr ns] = some (.dat (.int ns.length) 0) := by
      simp only [biop]
      rw [if_pos hl]
    by_cases h : i < ns.length
    · have hix : idxop S (.scr ns) (.int (i : Nat)) = some (.int ns[i]) := by
        simp only [idxop]
        rw [ix_nat h]
        show (ns[i]?).map PyData.int = _
        rw [List.getElem?_eq_getElem h]
        rfl
      refine ⟨if ns[i] < 0 then -ns[i] else ns[i], ?_⟩
      rw [e_ite]
      refine (ite_t (m := 0) (S1 := S) (by simp [cmpE, biE, consE, W.fz, hlen, cmpop, h])).trans ?_
      simp [biE, consE, idxE, W.fz, hix, biop]
    · refine ⟨1831 * (i : Nat) + 991, ?_⟩
      rw [e_ite]
      refine (ite_f (m := 0) (S1 := S) (by simp [cmpE, biE, consE, W.fz, hlen, cmpop]; omega)).trans ?_
      simp [binE, W.fz, binop, small]
  obtain ⟨c, e1⟩ := e1
  obtain ⟨c1, c2⟩ := fmod_rng (i := c) (j := 2147483549) (by decide)
  obtain ⟨d1, d2⟩ := fmod_rng (i := c.fmod 2147483549 * 40867 + 991 * (i : Nat) + 1831) (j := 2147483563) (by decide)
  have s1 : small (c.fmod 2147483549) = true := by
    unfold small
    exact decide_eq_true ⟨by omega, by omega⟩
  refine ⟨if c - 10 ^ 18 > 0 then c - 10 ^ 18 else 0, (c.fmod 2147483549 * 40867 + 991 * (i : Nat) + 1831).fmod 2147483563 + 1, run_rt (S1 := S) (us := [.scr ns, .dat (.int (i : Nat)) 0]) (by simp [fn_law_pot, inWs, inW, W.fz]) ?_, by split <;> omega, by omega, by omega⟩
  have hb : fn_law_pot.body = [.asg 2 (.ite (.cmp .lt (.v 1) (.bi .len [.v 0])) (.bi .abs [.idx (.v 0) (.v 1)]) (.bin .add (.bin .mul (.c (.int 1831)) (.v 1)) (.c (.int 991)))),
   .ret (.lst [.bi .max2 [.c (.int 0), .bin .sub (.v 2) (.bin .pow (.c (.int 10)) (.c (.int 18)))], .bin .add (.bin .mod (.bi .int [.bin .add (.bin .add (.bin .mul (.bin .mod (.bi .int [.v 2]) (.c (.int 2147483549))) (.c (.int 40867))) (.bin .mul (.c (.int 991)) (.v 1))) (.c (.int 1831))]) (.c (.int 2147483563))) (.c (.int 1))])] := rfl
  show exSs F gl fn_law_pot.body [some (.scr ns), some (.dat (.int (i : Nat)) 0), none] S = _
  rw [hb]
  refine (st_cons (x_asg.trans (asg_of e1))).trans ?_
  rw [useR_same rfl, x_cons]
  refine seq_rt ?_
  rw [x_ret]
  refine ret_of ?_
  have s2 : small 991 = true := by decide
  simp [lstE, consE, biE, binE, W.fz, binop, biop, s1, s2, datAll, LIM, dOf, isL]
theorem compGo_st {f : PyData → Sto → Option (Option (PyData × Nat) × Sto)} : ∀ {xs : List PyData} (S : Sto), (∀ x ∈ xs, ∀ S, ∃ S', f x S = some (some (.bool true, 0), S')) → ∃ S', compGo f xs S = some (xs.map fun _ => (.bool true, 0), S')
  | [], S, _ => ⟨S, rfl⟩
  | x :: xs, S, h => by
    obtain ⟨S1, h1⟩ := h x (by simp) S
    obtain ⟨S2, h2⟩ := compGo_st (xs := xs) S1 fun y hy => h y (by simp [hy])
    refine ⟨S2, ?_⟩
    unfold compGo
    rw [h1]
    dsimp only
    rw [h2]
    rfl
theorem all_of2 {F : Fns} {e : E} {r : Rho} {S1 : Sto} {xs : List PyData} (h : evE F gl e r S = some (.dat (.list (xs.map fun _ => .bool true)) m, S1)) : evE F gl (.bi .all [e]) r S = some (.dat (.bool true) 0, S1) := by
  have b1 : allBools (xs.map fun _ => PyData.bool true) = some (xs.map fun _ => true) := allBools_map (p := fun _ => true)
  have b2 : ((xs.map fun _ => true).all id) = true := by simp
  rw [e_bi]
  unfold biE
  rw [show evEs F gl [e] r S = some ([_], S1) by rw [e_cons]; exact cons_of h e_nil]
  dsimp only
  rw [show biop S1 .all [.dat (.list (xs.map fun _ => .bool true)) m] = some (.dat (.bool true) 0) by
    show (allBools _).map _ = _
    rw [b1]
    show some (W.dat (.bool _) 0) = _
    rw [b2]]
def deep : Nat := 14
theorem tab_law : tab "law" = some fn_law := by kernel_rfl
theorem law_true : ∀ ns : List Int, ns.length ≤ 63 → ∃ m S', fn_law.run (FT tab gl deep) gl [.scr ns] [] = some (.dat (.bool true) m, S') := by
  intro ns hn
  have hl : ns.length ≤ LIM := Nat.le_trans hn (by decide)
  have hb : fn_law.body = [.ret (.bi .all [.comp (.call "_law_right" [.call "_law_pot" [.v 0, .v 1]]) [1] true .range1 [.bi .max2 [.c (.int 1), .bi .min2 [.c (.int 2), .bi .len [.v 0]]]] []])] := rfl
  have en : ∃ n : Nat, n ≤ 2 ∧ evEs (FT tab gl deep) gl [.bi .max2 [.c (.int 1), .bi .min2 [.c (.int 2), .bi .len [.v 0]]]] [some (.scr ns), none] [] = some ([.dat (.int (n : Nat)) 0], []) := by
    have hlen : biop [] .len [.scr ns] = some (.dat (.int ns.length) 0) := by
      simp only [biop]
      rw [if_pos hl]
    by_cases h : ns.length < 2
    · have a1 : ((ns.length : Int) < 2) = True := eq_true (by omega)
      have a2 : ¬ (1 < (ns.length : Int)) := by omega
      exact ⟨1, by decide, by simp [consE, biE, W.fz, biop, hl, a1, a2]⟩
    · have a1 : ¬ ((ns.length : Int) < 2) := by omega
      exact ⟨2, by decide, by simp [consE, biE, W.fz, biop, hl, a1]⟩
  obtain ⟨n, hn2, en⟩ := en
  obtain ⟨S', hg⟩ := compGo_st (f := stepE (evE (FT tab gl deep) gl (.call "_law_right" [.call "_law_pot" [.v 0, .v 1]])) (evTs (FT tab gl deep) gl []) [1] true [some (.scr ns), none]) (xs := (List.range n).map fun i => PyData.int (i : Nat)) [] fun x hx S => by
    obtain ⟨i, hi, rfl⟩ := mem_rng hx
    obtain ⟨a, b, q1, a0, b0, b1⟩ := r_pot (F := FT tab gl 13) (ns := ns) (i := i) (m := 0) (S := S) hn (by omega)
    have hp : PotAt S.length (S ++ [[.int a, .int b]]) := ⟨a, b, by simp, a0, b0, b1⟩
    obtain ⟨S2, q2⟩ := r_right (k := 1) hp
    refine ⟨S2, ?_⟩
    have ev : evE (FT tab gl deep) gl (.call "_law_right" [.call "_law_pot" [.v 0, .v 1]]) [some (.scr ns), some (.dat (.int (i : Nat)) 0)] S = some (.dat (.bool true) 0, S2) := by
      rw [e_call]
      refine call_of (S1 := S) (ws := [.dat (.list [.int a, .int b]) 2]) ?_ ?_
      · rw [e_cons]
        refine cons_of ?_ e_nil
        rw [e_call]
        refine call_of (S1 := S) (ws := [.scr ns, .dat (.int (i : Nat)) 0]) (by simp [consE, W.fz]) ?_
        exact (c_law_pot 13 _ _ S).trans q1
      · refine (c_law_right 13 _ S).trans (Eq.trans ?_ q2)
        have : inWs fn_law_right.ps [.dat (.list [.int a, .int b]) 2] S = inWs fn_law_right.ps [.loc S.length] (S ++ [[.int a, .int b]]) := by
          simp [fn_law_right, inWs, inW, promo, nolAll, nol]
        unfold Fn.run
        rw [this]
    unfold stepE bindT
    rw [evt_nil]
    simp only [ts0]
    show (match evE (FT tab gl deep) gl (.call "_law_right" [.call "_law_pot" [.v 0, .v 1]]) [some (.scr ns), some (.dat (.int (i : Nat)) 0)] S with
      | some (.dat d m, S3) => some (some (d, m), S3)
      | _ => none) = _
    rw [ev]
  have e := comp_of (k := .range1) en (items_r1 (by omega)) (by rw [List.length_map, List.length_range]; exact Nat.le_trans (by omega : n ≤ 10) (by decide)) hg
  rw [List.map_map] at e
  refine ⟨0, S', run_rt (S1 := []) (us := [.scr ns]) (by simp [fn_law, inWs, inW, W.fz]) ?_⟩
  show exSs (FT tab gl deep) gl fn_law.body [some (.scr ns), none] [] = _
  rw [hb, x_cons]
  refine seq_rt ?_
  rw [x_ret]
  exact ret_of (all_of2 (xs := (List.range n).map fun i => PyData.int (i : Nat)) e)
end K81
end

section
open PySem PySem.W PyProof.Rows
set_option maxRecDepth 100000
set_option maxHeartbeats 0 in
theorem PySem.Challenge.cw_datedlayers_k81_whole_what_phases_say_holds : PySem.Challenge.rw_datedlayers_k81_whole_what_phases_say.Holds := by
  w_on; o_law; k_head; (case hw => w_witness2)
  k_fill
  refine MP.law_mp (l := PySem.Challenge.rw_datedlayers_k81_whole_what_phases_say) (n := 63) (k := K81.deep) (tab := K81.tab) (G := K81.gl) (fn := K81.fn_law) rfl (by decide) rfl ⟨⟨rfl, by decide, by decide⟩, rfl⟩ (fun w h Y => PySem.W.kIn_of Y) ?F K81.tab_law rfl (by decide) K81.law_true
  case F =>
    intro w mg h KX G
    refine' MP.facts_mk (tl := K81.tabL) (gl := K81.glL) ?defs ?bi ?gv
    case bi =>
      refine' MP.bi1 KX G ?_ (MP.bi1 KX G ?_ (MP.bi1 KX G ?_ (MP.bi1 KX G ?_ (MP.bi1 KX G ?_ (MP.bi1 KX G ?_ (MP.bi1 KX G ?_ (MP.bi1 KX G ?_ (MP.bi1 KX G ?_ (MP.bi1 KX G ?_ (MP.bi1 KX G ?_ (MP.bi1 KX G ?_ (MP.bi1 KX G ?_ (MP.bi1 KX G ?_ (MP.bi1 KX G ?_ (MP.bi1 KX G ?_ (MP.bi1 KX G ?_ (MP.bi1 KX G ?_ (MP.bi1 KX G ?_ (MP.bi0)))))))))))))))))))
      all_goals k_is
    case gv =>
      refine' MP.gl1 (MP.g_int KX G ?a ?e) ?_
      (case a => k_is); (case e => exact ⟨_, rfl⟩)
      refine' MP.gl1 (MP.g_int KX G ?a ?e) ?_
      (case a => k_is); (case e => exact ⟨_, rfl⟩)
      refine' MP.gl1 (MP.g_int KX G ?a ?e) ?_
      (case a => k_is); (case e => exact ⟨_, rfl⟩)
      refine' MP.gl1 (MP.g_int KX G ?a ?e) ?_
      (case a => k_is); (case e => exact ⟨_, rfl⟩)
      refine' MP.gl1 (MP.g_int KX G ?a ?e) ?_
      (case a => k_is); (case e => exact ⟨_, rfl⟩)
      refine' MP.gl1 (MP.g_int KX G ?a ?e) ?_
      (case a => k_is); (case e => exact ⟨_, rfl⟩)
      refine' MP.gl1 (MP.g_str KX G ?a ?e) ?_
      (case a => k_is); (case e => exact ⟨_, rfl⟩)
      refine' MP.gl1 (MP.g_str KX G ?a ?e) ?_
      (case a => k_is); (case e => exact ⟨_, rfl⟩)
      refine' MP.gl1 (MP.g_int KX G ?a ?e) ?_
      (case a => k_is); (case e => exact ⟨_, rfl⟩)
      refine' MP.gl1 (MP.g_int KX G ?a ?e) ?_
      (case a => k_is); (case e => exact ⟨_, rfl⟩)
      refine' MP.gl1 (MP.g_int KX G ?a ?e) ?_
      (case a => k_is); (case e => exact ⟨_, rfl⟩)
      refine' MP.gl1 (MP.g_int KX G ?a ?e) ?_
      (case a => k_is); (case e => exact ⟨_, rfl⟩)
      refine' MP.gl1 (MP.g_int KX G ?a ?e) ?_
      (case a => k_is); (case e => exact ⟨_, rfl⟩)
      exact MP.gl0
    case defs =>
      refine' MP.all1 (y := (("is_integer" : Str), K81.fn_is_integer)) ?_ ?_
      · refine' MP.def_mk (st := K81.topS 9) KX G ?a ?l ?c ?k K81.sc_is_integer K81.bo_is_integer (by decide) K81.bn_is_integer
        (case a => k_is); (case l => k_is); (case c => k_is); (case k => k_is)
      refine' MP.all1 (y := (("is_count" : Str), K81.fn_is_count)) ?_ ?_
      · refine' MP.def_mk (st := K81.topS 10) KX G ?a ?l ?c ?k K81.sc_is_count K81.bo_is_count (by decide) K81.bn_is_count
        (case a => k_is); (case l => k_is); (case c => k_is); (case k => k_is)
      refine' MP.all1 (y := (("is_within" : Str), K81.fn_is_within)) ?_ ?_
      · refine' MP.def_mk (st := K81.topS 11) KX G ?a ?l ?c ?k K81.sc_is_within K81.bo_is_within (by decide) K81.bn_is_within
        (case a => k_is); (case l => k_is); (case c => k_is); (case k => k_is)
      refine' MP.all1 (y := (("is_year" : Str), K81.fn_is_year)) ?_ ?_
      · refine' MP.def_mk (st := K81.topS 12) KX G ?a ?l ?c ?k K81.sc_is_year K81.bo_is_year (by decide) K81.bn_is_year
        (case a => k_is); (case l => k_is); (case c => k_is); (case k => k_is)
      refine' MP.all1 (y := (("is_list" : Str), K81.fn_is_list)) ?_ ?_
      · refine' MP.def_mk (st := K81.topS 13) KX G ?a ?l ?c ?k K81.sc_is_list K81.bo_is_list (by decide) K81.bn_is_list
        (case a => k_is); (case l => k_is); (case c => k_is); (case k => k_is)
      refine' MP.all1 (y := (("is_link_of" : Str), K81.fn_is_link_of)) ?_ ?_
      · refine' MP.def_mk (st := K81.topS 22) KX G ?a ?l ?c ?k K81.sc_is_link_of K81.bo_is_link_of (by decide) K81.bn_is_link_of
        (case a => k_is); (case l => k_is); (case c => k_is); (case k => k_is)
      refine' MP.all1 (y := (("is_find_of" : Str), K81.fn_is_find_of)) ?_ ?_
      · refine' MP.def_mk (st := K81.topS 23) KX G ?a ?l ?c ?k K81.sc_is_find_of K81.bo_is_find_of (by decide) K81.bn_is_find_of
        (case a => k_is); (case l => k_is); (case c => k_is); (case k => k_is)
      refine' MP.all1 (y := (("is_span" : Str), K81.fn_is_span)) ?_ ?_
      · refine' MP.def_mk (st := K81.topS 24) KX G ?a ?l ?c ?k K81.sc_is_span K81.bo_is_span (by decide) K81.bn_is_span
        (case a => k_is); (case l => k_is); (case c => k_is); (case k => k_is)
      refine' MP.all1 (y := (("are_links" : Str), K81.fn_are_links)) ?_ ?_
      · refine' MP.def_mk (st := K81.topS 25) KX G ?a ?l ?c ?k K81.sc_are_links K81.bo_are_links (by decide) K81.bn_are_links
        (case a => k_is); (case l => k_is); (case c => k_is); (case k => k_is)
      refine' MP.all1 (y := (("are_finds" : Str), K81.fn_are_finds)) ?_ ?_
      · refine' MP.def_mk (st := K81.topS 26) KX G ?a ?l ?c ?k K81.sc_are_finds K81.bo_are_finds (by decide) K81.bn_are_finds
        (case a => k_is); (case l => k_is); (case c => k_is); (case k => k_is)
      refine' MP.all1 (y := (("flaw" : Str), K81.fn_flaw)) ?_ ?_
      · refine' MP.def_mk (st := K81.topS 27) KX G ?a ?l ?c ?k K81.sc_flaw K81.bo_flaw (by decide) K81.bn_flaw
        (case a => k_is); (case l => k_is); (case c => k_is); (case k => k_is)
      refine' MP.all1 (y := (("check_dig" : Str), K81.fn_check_dig)) ?_ ?_
      · refine' MP.def_mk (st := K81.topS 28) KX G ?a ?l ?c ?k K81.sc_check_dig K81.bo_check_dig (by decide) K81.bn_check_dig
        (case a => k_is); (case l => k_is); (case c => k_is); (case k => k_is)
      refine' MP.all1 (y := (("nodes_of" : Str), K81.fn_nodes_of)) ?_ ?_
      · refine' MP.def_mk (st := K81.topS 30) KX G ?a ?l ?c ?k K81.sc_nodes_of K81.bo_nodes_of (by decide) K81.bn_nodes_of
        (case a => k_is); (case l => k_is); (case c => k_is); (case k => k_is)
      refine' MP.all1 (y := (("hard_legs" : Str), K81.fn_hard_legs)) ?_ ?_
      · refine' MP.def_mk (st := K81.topS 31) KX G ?a ?l ?c ?k K81.sc_hard_legs K81.bo_hard_legs (by decide) K81.bn_hard_legs
        (case a => k_is); (case l => k_is); (case c => k_is); (case k => k_is)
      refine' MP.all1 (y := (("has_ring" : Str), K81.fn_has_ring)) ?_ ?_
      · refine' MP.def_mk (st := K81.topS 32) KX G ?a ?l ?c ?k K81.sc_has_ring K81.bo_has_ring (by decide) K81.bn_has_ring
        (case a => k_is); (case l => k_is); (case c => k_is); (case k => k_is)
      refine' MP.all1 (y := (("sums_on" : Str), K81.fn_sums_on)) ?_ ?_
      · refine' MP.def_mk (st := K81.topS 33) KX G ?a ?l ?c ?k K81.sc_sums_on K81.bo_sums_on (by decide) K81.bn_sums_on
        (case a => k_is); (case l => k_is); (case c => k_is); (case k => k_is)
      refine' MP.all1 (y := (("first_ring" : Str), K81.fn_first_ring)) ?_ ?_
      · refine' MP.def_mk (st := K81.topS 34) KX G ?a ?l ?c ?k K81.sc_first_ring K81.bo_first_ring (by decide) K81.bn_first_ring
        (case a => k_is); (case l => k_is); (case c => k_is); (case k => k_is)
      refine' MP.all1 (y := (("led_on" : Str), K81.fn_led_on)) ?_ ?_
      · refine' MP.def_mk (st := K81.topS 35) KX G ?a ?l ?c ?k K81.sc_led_on K81.bo_led_on (by decide) K81.bn_led_on
        (case a => k_is); (case l => k_is); (case c => k_is); (case k => k_is)
      refine' MP.all1 (y := (("told_legs" : Str), K81.fn_told_legs)) ?_ ?_
      · refine' MP.def_mk (st := K81.topS 36) KX G ?a ?l ?c ?k K81.sc_told_legs K81.bo_told_legs (by decide) K81.bn_told_legs
        (case a => k_is); (case l => k_is); (case c => k_is); (case k => k_is)
      refine' MP.all1 (y := (("fault_of" : Str), K81.fn_fault_of)) ?_ ?_
      · refine' MP.def_mk (st := K81.topS 37) KX G ?a ?l ?c ?k K81.sc_fault_of K81.bo_fault_of (by decide) K81.bn_fault_of
        (case a => k_is); (case l => k_is); (case c => k_is); (case k => k_is)
      refine' MP.all1 (y := (("check_sound" : Str), K81.fn_check_sound)) ?_ ?_
      · refine' MP.def_mk (st := K81.topS 38) KX G ?a ?l ?c ?k K81.sc_check_sound K81.bo_check_sound (by decide) K81.bn_check_sound
        (case a => k_is); (case l => k_is); (case c => k_is); (case k => k_is)
      refine' MP.all1 (y := (("are_two" : Str), K81.fn_are_two)) ?_ ?_
      · refine' MP.def_mk (st := K81.topS 42) KX G ?a ?l ?c ?k K81.sc_are_two K81.bo_are_two (by decide) K81.bn_are_two
        (case a => k_is); (case l => k_is); (case c => k_is); (case k => k_is)
      refine' MP.all1 (y := (("is_claim_of" : Str), K81.fn_is_claim_of)) ?_ ?_
      · refine' MP.def_mk (st := K81.topS 43) KX G ?a ?l ?c ?k K81.sc_is_claim_of K81.bo_is_claim_of (by decide) K81.bn_is_claim_of
        (case a => k_is); (case l => k_is); (case c => k_is); (case k => k_is)
      refine' MP.all1 (y := (("are_claims_of" : Str), K81.fn_are_claims_of)) ?_ ?_
      · refine' MP.def_mk (st := K81.topS 44) KX G ?a ?l ?c ?k K81.sc_are_claims_of K81.bo_are_claims_of (by decide) K81.bn_are_claims_of
        (case a => k_is); (case l => k_is); (case c => k_is); (case k => k_is)
      refine' MP.all1 (y := (("is_claims" : Str), K81.fn_is_claims)) ?_ ?_
      · refine' MP.def_mk (st := K81.topS 45) KX G ?a ?l ?c ?k K81.sc_is_claims K81.bo_is_claims (by decide) K81.bn_is_claims
        (case a => k_is); (case l => k_is); (case c => k_is); (case k => k_is)
      refine' MP.all1 (y := (("is_formula" : Str), K81.fn_is_formula)) ?_ ?_
      · refine' MP.def_mk (st := K81.topS 48) KX G ?a ?l ?c ?k K81.sc_is_formula K81.bo_is_formula (by decide) K81.bn_is_formula
        (case a => k_is); (case l => k_is); (case c => k_is); (case k => k_is)
      refine' MP.all1 (y := (("is_phase" : Str), K81.fn_is_phase)) ?_ ?_
      · refine' MP.def_mk (st := K81.topS 52) KX G ?a ?l ?c ?k K81.sc_is_phase K81.bo_is_phase (by decide) K81.bn_is_phase
        (case a => k_is); (case l => k_is); (case c => k_is); (case k => k_is)
      refine' MP.all1 (y := (("check_phase" : Str), K81.fn_check_phase)) ?_ ?_
      · refine' MP.def_mk1 (st := K81.topS 53) KX G ?a ?l ?c ?k ?t K81.sc_check_phase K81.bo_check_phase (by decide) K81.bn_check_phase
        (case a => k_is); (case l => k_is); (case c => k_is); (case k => k_is); (case t => k_is)
      refine' MP.all1 (y := (("check_both" : Str), K81.fn_check_both)) ?_ ?_
      · refine' MP.def_mk (st := K81.topS 54) KX G ?a ?l ?c ?k K81.sc_check_both K81.bo_check_both (by decide) K81.bn_check_both
        (case a => k_is); (case l => k_is); (case c => k_is); (case k => k_is)
      refine' MP.all1 (y := (("check_years" : Str), K81.fn_check_years)) ?_ ?_
      · refine' MP.def_mk (st := K81.topS 55) KX G ?a ?l ?c ?k K81.sc_check_years K81.bo_check_years (by decide) K81.bn_check_years
        (case a => k_is); (case l => k_is); (case c => k_is); (case k => k_is)
      refine' MP.all1 (y := (("check_length" : Str), K81.fn_check_length)) ?_ ?_
      · refine' MP.def_mk (st := K81.topS 56) KX G ?a ?l ?c ?k K81.sc_check_length K81.bo_check_length (by decide) K81.bn_check_length
        (case a => k_is); (case l => k_is); (case c => k_is); (case k => k_is)
      refine' MP.all1 (y := (("pairs_of" : Str), K81.fn_pairs_of)) ?_ ?_
      · refine' MP.def_mk (st := K81.topS 57) KX G ?a ?l ?c ?k K81.sc_pairs_of K81.bo_pairs_of (by decide) K81.bn_pairs_of
        (case a => k_is); (case l => k_is); (case c => k_is); (case k => k_is)
      refine' MP.all1 (y := (("ended_before" : Str), K81.fn_ended_before)) ?_ ?_
      · refine' MP.def_mk (st := K81.topS 58) KX G ?a ?l ?c ?k K81.sc_ended_before K81.bo_ended_before (by decide) K81.bn_ended_before
        (case a => k_is); (case l => k_is); (case c => k_is); (case k => k_is)
      refine' MP.all1 (y := (("lasted_at_most" : Str), K81.fn_lasted_at_most)) ?_ ?_
      · refine' MP.def_mk (st := K81.topS 59) KX G ?a ?l ?c ?k K81.sc_lasted_at_most K81.bo_lasted_at_most (by decide) K81.bn_lasted_at_most
        (case a => k_is); (case l => k_is); (case c => k_is); (case k => k_is)
      refine' MP.all1 (y := (("lasted_at_least" : Str), K81.fn_lasted_at_least)) ?_ ?_
      · refine' MP.def_mk (st := K81.topS 60) KX G ?a ?l ?c ?k K81.sc_lasted_at_least K81.bo_lasted_at_least (by decide) K81.bn_lasted_at_least
        (case a => k_is); (case l => k_is); (case c => k_is); (case k => k_is)
      refine' MP.all1 (y := (("overlapped" : Str), K81.fn_overlapped)) ?_ ?_
      · refine' MP.def_mk (st := K81.topS 61) KX G ?a ?l ?c ?k K81.sc_overlapped K81.bo_overlapped (by decide) K81.bn_overlapped
        (case a => k_is); (case l => k_is); (case c => k_is); (case k => k_is)
      refine' MP.all1 (y := (("within" : Str), K81.fn_within)) ?_ ?_
      · refine' MP.def_mk (st := K81.topS 62) KX G ?a ?l ?c ?k K81.sc_within K81.bo_within (by decide) K81.bn_within
        (case a => k_is); (case l => k_is); (case c => k_is); (case k => k_is)
      refine' MP.all1 (y := (("_law_pot" : Str), K81.fn_law_pot)) ?_ ?_
      · refine' MP.def_mk (st := K81.topS 64) KX G ?a ?l ?c ?k K81.sc_law_pot K81.bo_law_pot (by decide) K81.bn_law_pot
        (case a => k_is); (case l => k_is); (case c => k_is); (case k => k_is)
      refine' MP.all1 (y := (("_law_draw" : Str), K81.fn_law_draw)) ?_ ?_
      · refine' MP.def_mk (st := K81.topS 65) KX G ?a ?l ?c ?k K81.sc_law_draw K81.bo_law_draw (by decide) K81.bn_law_draw
        (case a => k_is); (case l => k_is); (case c => k_is); (case k => k_is)
      refine' MP.all1 (y := (("_law_pick" : Str), K81.fn_law_pick)) ?_ ?_
      · refine' MP.def_mk (st := K81.topS 66) KX G ?a ?l ?c ?k K81.sc_law_pick K81.bo_law_pick (by decide) K81.bn_law_pick
        (case a => k_is); (case l => k_is); (case c => k_is); (case k => k_is)
      refine' MP.all1 (y := (("_law_denied" : Str), K81.fn_law_denied)) ?_ ?_
      · refine' MP.def_mk (st := K81.topS 67) KX G ?a ?l ?c ?k K81.sc_law_denied K81.bo_law_denied (by decide) K81.bn_law_denied
        (case a => k_is); (case l => k_is); (case c => k_is); (case k => k_is)
      refine' MP.all1 (y := (("_law_hard" : Str), K81.fn_law_hard)) ?_ ?_
      · refine' MP.def_mk (st := K81.topS 68) KX G ?a ?l ?c ?k K81.sc_law_hard K81.bo_law_hard (by decide) K81.bn_law_hard
        (case a => k_is); (case l => k_is); (case c => k_is); (case k => k_is)
      refine' MP.all1 (y := (("_law_soft" : Str), K81.fn_law_soft)) ?_ ?_
      · refine' MP.def_mk (st := K81.topS 69) KX G ?a ?l ?c ?k K81.sc_law_soft K81.bo_law_soft (by decide) K81.bn_law_soft
        (case a => k_is); (case l => k_is); (case c => k_is); (case k => k_is)
      refine' MP.all1 (y := (("_law_least" : Str), K81.fn_law_least)) ?_ ?_
      · refine' MP.def_mk (st := K81.topS 70) KX G ?a ?l ?c ?k K81.sc_law_least K81.bo_law_least (by decide) K81.bn_law_least
        (case a => k_is); (case l => k_is); (case c => k_is); (case k => k_is)
      refine' MP.all1 (y := (("_law_with" : Str), K81.fn_law_with)) ?_ ?_
      · refine' MP.def_mk (st := K81.topS 72) KX G ?a ?l ?c ?k K81.sc_law_with K81.bo_law_with (by decide) K81.bn_law_with
        (case a => k_is); (case l => k_is); (case c => k_is); (case k => k_is)
      refine' MP.all1 (y := (("_law_link" : Str), K81.fn_law_link)) ?_ ?_
      · refine' MP.def_mk (st := K81.topS 73) KX G ?a ?l ?c ?k K81.sc_law_link K81.bo_law_link (by decide) K81.bn_law_link
        (case a => k_is); (case l => k_is); (case c => k_is); (case k => k_is)
      refine' MP.all1 (y := (("_law_links" : Str), K81.fn_law_links)) ?_ ?_
      · refine' MP.def_mk (st := K81.topS 74) KX G ?a ?l ?c ?k K81.sc_law_links K81.bo_law_links (by decide) K81.bn_law_links
        (case a => k_is); (case l => k_is); (case c => k_is); (case k => k_is)
      refine' MP.all1 (y := (("_law_find" : Str), K81.fn_law_find)) ?_ ?_
      · refine' MP.def_mk (st := K81.topS 75) KX G ?a ?l ?c ?k K81.sc_law_find K81.bo_law_find (by decide) K81.bn_law_find
        (case a => k_is); (case l => k_is); (case c => k_is); (case k => k_is)
      refine' MP.all1 (y := (("_law_worlds" : Str), K81.fn_law_worlds)) ?_ ?_
      · refine' MP.def_mk (st := K81.topS 76) KX G ?a ?l ?c ?k K81.sc_law_worlds K81.bo_law_worlds (by decide) K81.bn_law_worlds
        (case a => k_is); (case l => k_is); (case c => k_is); (case k => k_is)
      refine' MP.all1 (y := (("_law_holds" : Str), K81.fn_law_holds)) ?_ ?_
      · refine' MP.def_mk (st := K81.topS 77) KX G ?a ?l ?c ?k K81.sc_law_holds K81.bo_law_holds (by decide) K81.bn_law_holds
        (case a => k_is); (case l => k_is); (case c => k_is); (case k => k_is)
      refine' MP.all1 (y := (("_law_narrow" : Str), K81.fn_law_narrow)) ?_ ?_
      · refine' MP.def_mk (st := K81.topS 78) KX G ?a ?l ?c ?k K81.sc_law_narrow K81.bo_law_narrow (by decide) K81.bn_law_narrow
        (case a => k_is); (case l => k_is); (case c => k_is); (case k => k_is)
      refine' MP.all1 (y := (("_law_phase" : Str), K81.fn_law_phase)) ?_ ?_
      · refine' MP.def_mk (st := K81.topS 79) KX G ?a ?l ?c ?k K81.sc_law_phase K81.bo_law_phase (by decide) K81.bn_law_phase
        (case a => k_is); (case l => k_is); (case c => k_is); (case k => k_is)
      refine' MP.all1 (y := (("_law_is_so" : Str), K81.fn_law_is_so)) ?_ ?_
      · refine' MP.def_mk (st := K81.topS 80) KX G ?a ?l ?c ?k K81.sc_law_is_so K81.bo_law_is_so (by decide) K81.bn_law_is_so
        (case a => k_is); (case l => k_is); (case c => k_is); (case k => k_is)
      refine' MP.all1 (y := (("_law_pairs" : Str), K81.fn_law_pairs)) ?_ ?_
      · refine' MP.def_mk (st := K81.topS 81) KX G ?a ?l ?c ?k K81.sc_law_pairs K81.bo_law_pairs (by decide) K81.bn_law_pairs
        (case a => k_is); (case l => k_is); (case c => k_is); (case k => k_is)
      refine' MP.all1 (y := (("_law_right" : Str), K81.fn_law_right)) ?_ ?_
      · refine' MP.def_mk (st := K81.topS 82) KX G ?a ?l ?c ?k K81.sc_law_right K81.bo_law_right (by decide) K81.bn_law_right
        (case a => k_is); (case l => k_is); (case c => k_is); (case k => k_is)
      refine' MP.all1 (y := (("law" : Str), K81.fn_law)) ?_ ?_
      · refine' MP.def_mk (st := K81.topS 83) KX G ?a ?l ?c ?k K81.sc_law K81.bo_law (by decide) K81.bn_law
        (case a => k_is); (case l => k_is); (case c => k_is); (case k => k_is)
      exact MP.all0
end
