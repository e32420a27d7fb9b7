import PyProof.Rows.All
import Wide.All
import OpenK.AllK
import Wide.FinOn
import PySem.Str
import HandS.ForMost
import HandS.TupAny
import HandS.Conv
import HandS.Deep
import HandS.IsInst
import HandS.Property
import HandS.Walk
import HandS.Exc
import HandS.TupMul
import HandS.Style
import HandS.HeadWalk
import HandS.More
import HandS.Text
import HandS.SortInts
import HandS.WordsDict
import KE.IntTextLaws
import HandS.Zip
import KE.GoesEnum
import KE.GoesMore
import HandS.Small
import HandS.Star
import PyProof.StrLawsRepr
import PyProof.ReprRoads
import PyProof.CollectIter
import HandS.Strs
import PyProof.InstEq
import HandS.Ends
import HandS.HeadEnd
import HandS.HeadHook2
import HandS.HeadHook3
import HandS.Head2
import HandS.Head0
import HandS.Head1
import PySem.Challenge.RW_latejoins_k01_rules_as_they_are_told
set_option autoImplicit false
/-! MP1: a small core language and its meaning. Values are plain data; a world holds what is shared. -/
namespace MP

inductive D where
  | non
  | bl (b : Bool)
  | int (i : Int)
  | str (s : List Nat)
  | tup (xs : List D)
  | lst (xs : List D)
  | dct (ks vs : List D)
  | ins (c : Nat) (fs : List D)
  | obj (n : Nat)
  | ext (n : Nat)
  deriving Inhabited

abbrev Wd := List D
inductive R (α : Type) where
  | ok (a : α) (w : Wd)
  | exc (c : Nat) (v : D) (w : Wd)
  | bad
def R.bind {α β : Type} (x : R α) (f : α → Wd → R β) : R β := match x with
  | .ok a w => f a w
  | .exc c v w => .exc c v w
  | .bad => .bad
def ofO {α : Type} (o : Option α) (w : Wd) : R α := match o with
  | some a => .ok a w
  | none => .bad

inductive Bop where | add | sub | mul | fdiv | mod | pow | shl | shr | band | bor
  deriving DecidableEq
inductive Cop where | eq | ne | lt | le | gt | ge | is | isnot | in_ | notin
  deriving DecidableEq
inductive Ty where | int | str | bool | tuple | list | cls (c : Nat)
  deriving DecidableEq
inductive Bf where | len | tuple | list | abs | max2 | min2 | maxl | str | repr | all | any | sum | sorted | int | lenset | dictenum | rng | enum | zip | dict
  deriving DecidableEq
inductive Bm where | join | split | index | items | values | startswith | upper | bitlen | sadd
  deriving DecidableEq
inductive Pat where
  | n (i : Nat)
  | t (ps : List Pat)
inductive CE where
  | v (i : Nat)
  | b (i : Nat)
  | non
  | bl (x : Bool)
  | int (x : Int)
  | str (x : List Nat)
  | g (x : Nat)
  | tup (es : List CE)
  | lst (es : List CE)
  | dct (ks vs : List CE)
  | bin (o : Bop) (x y : CE)
  | neg (x : CE)
  | inv (x : CE)
  | not (x : CE)
  | cmp (o : Cop) (x y : CE)
  | cmp2 (o p : Cop) (x y z : CE)
  | and (x y : CE)
  | or (x y : CE)
  | ite (c x y : CE)
  | call (f : Nat) (es : List CE)
  | mk (c : Nat) (es : List CE)
  | meth (m : Nat) (x : CE) (es : List CE)
  | fld (x : CE) (f : Nat)
  | prop (x : CE) (f : Nat)
  | idx (x y : CE)
  | sli (x lo hi : CE)
  | rev (x : CE)
  | bf (f : Bf) (es : List CE)
  | bm (m : Bm) (x : CE) (es : List CE)
  | isi (x : CE) (t : Ty)
  | lc (p : Pat) (it : CE) (cs : List CE) (e : CE)
  | lc2 (p : Pat) (it : CE) (cs : List CE) (p2 : Pat) (it2 : CE) (cs2 : List CE) (e : CE)
  | dc (p : Pat) (it : CE) (cs : List CE) (k e : CE)
  | bad
  | rpeq (neg : Bool) (x y : CE)
  | tix (g : Nat) (e : CE)
  | tin (neg : Bool) (g : Nat) (e : CE)
  | tups (fl : List Bool) (es : List CE)
  | lsts (fl : List Bool) (es : List CE)
  | slen (x : CE)
  | sidx (x y : CE)
  | mlen (m : Nat) (x : CE)
  | meq (neg : Bool) (m : Nat) (x y : CE)
  | callb (f : Nat) (es : List CE)
  | d1 (k v : CE)
  | cpd (x : CE)
inductive CS where
  | set (p : Pat) (e : CE)
  | seto (i : Nat) (e : CE)
  | par (ps : List Pat) (os : List Bool) (es : List CE)
  | aug (i : Nat) (o : Bop) (e : CE)
  | app (i : Nat) (e : CE)
  | ext (i : Nat) (e : CE)
  | insr (i : Nat) (k e : CE)
  | seti (i : Nat) (k e : CE)
  | setf (i f : Nat) (e : CE)
  | upd (i : Nat) (e : CE)
  | mv (i : Nat)
  | ex (e : CE)
  | ite (c : CE) (a b : List CS)
  | for_ (p : Pat) (it : CE) (b : List CS)
  | whl (c : CE) (b : List CS)
  | ret (e : CE)
  | retn
  | rais (c : Nat) (e : CE)
  | pas
  | brk
  | cnt
  | never
  | appop (i j : Nat) (e : CE)
  | setw (i : Nat) (k e : CE)
  | retw (e : CE)
  | sets (fl : List Bool) (ps : List Pat) (e : CE)

/-! ### data -/
/-- plain data, so deep -/
def plN : Nat → D → Bool
  | _, .non => true
  | _, .bl _ => true
  | _, .int _ => true
  | _, .str _ => true
  | n + 1, .tup xs => xs.all (plN n)
  | n + 1, .lst xs => xs.all (plN n)
  | _, _ => false
def eqLs (f : D → D → Option Bool) (p : D → Bool) : List D → List D → Option Bool
  | [], [] => some true
  | [], y :: ys => if (y :: ys).all p then some false else none
  | x :: xs, [] => if (x :: xs).all p then some false else none
  | x :: xs, y :: ys => match f x y, eqLs f p xs ys with
    | some a, some b => some (a && b)
    | _, _ => none
/-- ==, where both are plain data so deep (a bool beside an int is left open) -/
def eqN : Nat → D → D → Option Bool
  | _, .non, .non => some true
  | _, .bl a, .bl b => some (a == b)
  | _, .int a, .int b => some (a == b)
  | _, .str a, .str b => some (a == b)
  | n + 1, .tup a, .tup b => eqLs (eqN n) (plN n) a b
  | n + 1, .lst a, .lst b => eqLs (eqN n) (plN n) a b
  | _, .bl _, .int _ => none
  | _, .int _, .bl _ => none
  | 0, .tup _, .tup _ => none
  | 0, .lst _, .lst _ => none
  | n, a, b => if plN n a && plN n b then some false else none
def eqD : D → D → Option Bool := eqN 12
def plD : D → Bool := plN 12
def anyO {α : Type} (f : α → Option Bool) : List α → Option Bool
  | [] => some false
  | x :: xs => match f x, anyO f xs with
    | some a, some b => some (a || b)
    | _, _ => none
/-- the place of a sign's first, of a word's parts -/
def splitL (c : Nat) : List Nat → List (List Nat)
  | [] => [[]]
  | x :: xs => if x = c then [] :: splitL c xs else match splitL c xs with
    | [] => [[x]]
    | y :: ys => (x :: y) :: ys
def joinL (sep : List Nat) : List (List Nat) → List Nat
  | [] => []
  | [x] => x
  | x :: y :: r => x ++ sep ++ joinL sep (y :: r)
def bigN : Nat := 16777216
def ixD (n : Nat) (i : Int) : Option Nat := if 0 ≤ i then (if i < n then some i.toNat else none) else if -(n : Int) ≤ i then some (i + n).toNat else none
def clampI (n : Nat) (i : Int) : Nat := if 0 ≤ i then min i.toNat n else (i + n).toNat
def sliL {α : Type} (xs : List α) (lo hi : Option Int) : List α :=
  let a := match lo with | none => 0 | some i => clampI xs.length i
  let b := match hi with | none => xs.length | some i => clampI xs.length i
  (xs.drop a).take (b - a)
/-- a slice's part: left out, or an int -/
def partD : CE → D → Option (Option Int)
  | .non, _ => some none
  | _, .int i => some (some i)
  | _, _ => none
def deref (w : Wd) : D → D
  | .obj n => w.getD n .non
  | d => d
def intsO : List D → Option (List Int)
  | [] => some []
  | .int i :: r => (intsO r).map (i :: ·)
  | _ :: _ => none
def bools : List D → Option (List Bool)
  | [] => some []
  | .bl i :: r => (bools r).map (i :: ·)
  | _ :: _ => none
def strsO : List D → Option (List (List Nat))
  | [] => some []
  | .str i :: r => (strsO r).map (i :: ·)
  | _ :: _ => none

/-! ### operators -/
def smallI (i : Int) : Bool := decide (-(2 ^ 64) < i ∧ i < 2 ^ 64)
def binD : Bop → D → D → Option D
  | .add, .int a, .int b => some (.int (a + b))
  | .add, .str a, .str b => if a.length + b.length ≤ bigN then some (.str (a ++ b)) else none
  | .add, .tup a, .tup b => if a.length + b.length ≤ bigN then some (.tup (a ++ b)) else none
  | .add, .lst a, .lst b => if a.length + b.length ≤ bigN then some (.lst (a ++ b)) else none
  | .sub, .int a, .int b => some (.int (a - b))
  | .mul, .int a, .int b => if smallI a || smallI b then some (.int (a * b)) else none
  | .mul, .tup a, .int b => if a ≠ [] ∧ 1 ≤ b ∧ b ≤ 1000 ∧ a.length ≤ 1000 then some (.tup (List.replicate b.toNat a).flatten) else none
  | .fdiv, .int a, .int b => if 0 < b ∧ b < 1073741824 then some (.int (a / b)) else none
  | .mod, .int a, .int b => if 0 < b then some (.int (a % b)) else none
  | .pow, .int a, .int b => if 0 ≤ b ∧ b ≤ 8 ∧ a.natAbs < 2 ^ 4096 then some (.int (a ^ b.toNat)) else if 0 ≤ b ∧ b ≤ 1000000 ∧ a.natAbs < 2 ^ 64 then some (.int (a ^ b.toNat)) else none
  | .shl, .int a, .int b => if 0 ≤ b ∧ b ≤ 1000000 ∧ a.natAbs < 2 ^ 64 then some (.int (a * 2 ^ b.toNat)) else none
  | _, _, _ => none
def augD : Bop → D → D → Option D
  | .add, .int a, .int b => some (.int (a + b))
  | .sub, .int a, .int b => some (.int (a - b))
  | _, _, _ => none
def isSub (x : Nat) : List Nat → Bool
  | [] => false
  | y :: ys => x == y || isSub x ys
def ltStr : List Nat → List Nat → Bool
  | _, [] => false
  | [], _ :: _ => true
  | x :: xs, y :: ys => x < y || (x == y && ltStr xs ys)
def keyB : D → Bool
  | .int _ => true
  | .str _ => true
  | _ => false
/-- a key that can be handed out -/
def kyD : D → Bool
  | .int _ => true
  | .str s => s.all fun c => decide (c < 1114112)
  | _ => false
def inSeq (w : Wd) (x y : D) : Option Bool := match deref w y with
  | .tup ys => if plD x then anyO (fun z => eqD z x) ys else none
  | .lst ys => if plD x then anyO (fun z => eqD z x) ys else none
  | .dct ks _ => if keyB x then anyO (fun z => eqD z x) ks else none
  | _ => none
def inD (w : Wd) (x y : D) : Option Bool := match x, y with
  | .str [c], .str s => some (isSub c s)
  | x, y => inSeq w x y
def ltI : List Int → List Int → Bool
  | _, [] => false
  | [], _ :: _ => true
  | x :: xs, y :: ys => if x = y then ltI xs ys else decide (x < y)
def ltT (a b : List D) : Option Bool := match intsO a, intsO b with
  | some x, some y => some (ltI x y)
  | _, _ => none
def cmpD (w : Wd) : Cop → D → D → Option Bool
  | .eq, a, b => eqD a b
  | .ne, a, b => (eqD a b).map (!·)
  | .lt, .int a, .int b => some (decide (a < b))
  | .le, .int a, .int b => some (decide (a ≤ b))
  | .gt, .int a, .int b => some (decide (b < a))
  | .ge, .int a, .int b => some (decide (b ≤ a))
  | .lt, .str a, .str b => some (ltStr a b)
  | .lt, .tup a, .tup b => ltT a b
  | .is, .bl a, .bl b => some (decide (a = b))
  | .isnot, .bl a, .bl b => some (!decide (a = b))
  | .is, a, .non => (match a with | .non => some true | .ext _ => none | _ => some false)
  | .isnot, a, .non => (match a with | .non => some false | .ext _ => none | _ => some true)
  | .in_, x, y => inD w x y
  | .notin, x, y => (inD w x y).map (!·)
  | _, _, _ => none
def isiD (nc : Nat) : D → Ty → Option Bool
  | .obj _, _ => none
  | .ext _, _ => none
  | .ins c _, .cls d => if c < nc ∧ d < nc then some (decide (c = d)) else none
  | .ins c _, _ => if c < nc then some false else none
  | _, .cls d => if d < nc then some false else none
  | .int _, .int => some true
  | .bl _, .int => some true
  | .bl _, .bool => some true
  | .str _, .str => some true
  | .tup _, .tuple => some true
  | .lst _, .list => some true
  | _, _ => some false
def lookD (k : D) : List D → List D → Option (Option D)
  | [], _ => some none
  | x :: ks, vs => match eqD x k with
    | none => none
    | some true => some vs.head?
    | some false => lookD k ks vs.tail
def repD (k v : D) : List D → List D → Option (List D)
  | [], [] => some []
  | x :: ks, y :: vs => match eqD x k, repD k v ks vs with
    | some b, some r => some ((if b then v else y) :: r)
    | _, _ => none
  | _, _ => none
def putD (k v : D) (ks vs : List D) : Option (List D × List D) :=
  if keyB k then match anyO (fun z => eqD z k) ks with
    | some true => (repD k v ks vs).map fun r => (ks, r)
    | some false => some (ks ++ [k], vs ++ [v])
    | none => none
  else none
def idxD (w : Wd) (x y : D) : Option D := match deref w x, y with
  | .tup xs, .int i => (ixD xs.length i).bind fun j => xs[j]?
  | .lst xs, .int i => (ixD xs.length i).bind fun j => xs[j]?
  | .str xs, .int i => if xs.length ≤ bigN then (ixD xs.length i).bind fun j => (xs[j]?).map fun c => .str [c] else none
  | .dct ks vs, k => if keyB k then (lookD k ks vs).bind id else none
  | _, _ => none
def sliD (w : Wd) (x : D) (lo hi : Option (Option Int)) : Option D := match lo, hi with
  | some l, some h => (match deref w x with
    | .tup xs => some (.tup (sliL xs l h))
    | .lst xs => some (.lst (sliL xs l h))
    | .str xs => if xs.length ≤ bigN then some (.str (sliL xs l h)) else none
    | _ => none)
  | _, _ => none
def revD (w : Wd) (x : D) : Option D := match deref w x with
  | .lst xs => some (.lst xs.reverse)
  | _ => none
/-- what a for goes over -/
def iterD (x : D) : Option (List D) := match x with
  | .tup xs => some xs
  | .lst xs => some xs
  | .str xs => if xs.length ≤ bigN then some (xs.map fun c => .str [c]) else none
  | _ => none
def enumL (k : Nat) : List D → List D
  | [] => []
  | x :: xs => .tup [.int k, x] :: enumL (k + 1) xs
def zipL : List D → List D → List D
  | x :: xs, y :: ys => .tup [x, y] :: zipL xs ys
  | _, _ => []
def rngL (lo hi : Int) : List D := (List.range (hi - lo).toNat).map fun (k : Nat) => .int (lo + (k : Int))
def insI (x : Int) : List Int → List Int
  | [] => [x]
  | y :: ys => if x < y then x :: y :: ys else y :: insI x ys
def sortI : List Int → List Int
  | [] => []
  | x :: xs => insI x (sortI xs)
def maxI : Int → List Int → Int
  | m, [] => m
  | m, x :: xs => maxI (if x > m then x else m) xs
def natS : Nat → List Nat → Option Nat
  | acc, [] => some acc
  | acc, c :: r => if 48 ≤ c ∧ c ≤ 57 then natS (acc * 10 + (c - 48)) r else none
/-- the int that a text of figures writes -/
def intS : List Nat → Option Int
  | [] => none
  | 45 :: r => if r = [] then none else (natS 0 r).map fun (n : Nat) => -(n : Int)
  | c :: r => (natS 0 (c :: r)).map fun (n : Nat) => (n : Int)
def seqOf (w : Wd) (d : D) : Option (List D) := match deref w d with
  | .tup xs => some xs
  | .lst xs => some xs
  | _ => none
/-- a display with stars -/
def spl : List Bool → List D → Option (List D)
  | [], [] => some []
  | false :: fl, d :: ds => (spl fl ds).map fun r => d :: r
  | true :: fl, d :: ds => (seqOf [] d).bind fun xs => (spl fl ds).map fun r => xs ++ r
  | _, _ => none
def tabLook (s : List Nat) : List (List Nat × D) → Option D
  | [] => none
  | (k, d) :: r => if k = s then some d else tabLook s r
def tixD (t : Option (List (List Nat × D))) (d : D) : Option D := match t, d with
  | some l, .str s => tabLook s l
  | _, _ => none
def tinD (t : Option (List (List Nat × D))) (neg : Bool) (d : D) : Option D := match t, d with
  | some l, .str s => some (.bl (neg != (tabLook s l).isSome))
  | _, _ => none
/-- the law's script: how long, its parts -/
def slenD (l : List Int) : D → Option D
  | .ext 0 => some (.int l.length)
  | _ => none
def sidxD (l : List Int) : D → D → Option D
  | .ext 0, .int i => (ixD l.length i).bind fun j => (l[j]?).map .int
  | _, _ => none
def digitsN (n : Nat) : List Nat := (Nat.toDigits 10 n).map Char.toNat
def strI (i : Int) : List Nat := if i < 0 then 45 :: digitsN i.natAbs else digitsN i.natAbs
def cntS : List (List Nat) → List (List Nat) → Nat
  | _, [] => 0
  | seen, x :: xs => if x ∈ seen then cntS seen xs else cntS (x :: seen) xs + 1
mutual
/-- the same data, of the same kinds -/
def same : D → D → Bool
  | .non, .non => true
  | .bl a, .bl b => a == b
  | .int a, .int b => decide (a = b)
  | .str a, .str b => decide (a = b)
  | .tup a, .tup b => sames a b
  | .lst a, .lst b => sames a b
  | _, _ => false
def sames : List D → List D → Bool
  | [], [] => true
  | x :: xs, y :: ys => same x y && sames xs ys
  | _, _ => false
end
mutual
/-- a bound of the length of what repr tells; no other data -/
def rpB : D → Option Nat
  | .non => some 4
  | .bl _ => some 5
  | .int i => if i.natAbs < 2 ^ 1900 then some 600 else none
  | .str s => some (10 * s.length + 2)
  | .tup xs => (rpBs xs).map (· + 3)
  | .lst xs => (rpBs xs).map (· + 2)
  | _ => none
def rpBs : List D → Option Nat
  | [] => some 0
  | x :: xs => match rpB x, rpBs xs with
    | some a, some b => some (a + b + 2)
    | _, _ => none
end
/-- repr(x) == repr(y), where both are the same -/
def rpeqD (neg : Bool) (x y : D) : Option D := match rpB x with
  | some n => if n ≤ bigN ∧ plN 12 x = true ∧ same x y = true then some (.bl (!neg)) else none
  | none => none
def bfD (w : Wd) (f : Bf) (ds : List D) : Option D := match f, ds with
  | .len, [x] => (match deref w x with
    | .tup xs => some (.int xs.length)
    | .lst xs => some (.int xs.length)
    | .str xs => if xs.length ≤ bigN then some (.int xs.length) else none
    | .dct ks _ => some (.int ks.length)
    | _ => none)
  | .tuple, [x] => (match deref w x with
    | .tup xs => some (.tup xs)
    | .lst xs => some (.tup xs)
    | _ => none)
  | .list, [x] => (match deref w x with
    | .tup xs => some (.lst xs)
    | .lst xs => some (.lst xs)
    | .dct ks _ => if ks.all kyD then some (.lst ks) else none
    | _ => none)
  | .abs, [.int i] => some (.int (if i < 0 then -i else i))
  | .max2, [.int i, .int j] => some (.int (if j > i then j else i))
  | .min2, [.int i, .int j] => some (.int (if j < i then j else i))
  | .maxl, [.lst xs] => (match intsO xs with
    | some (m :: r) => some (.int (maxI m r))
    | _ => none)
  | .str, [.int i] => if i.natAbs < 2 ^ 1900 then some (.str (strI i)) else none
  | .all, [.lst xs] => (bools xs).map fun bs => .bl (bs.all id)
  | .any, [.lst xs] => (bools xs).map fun bs => .bl (bs.any id)
  | .sum, [.lst xs] => (intsO xs).map fun is => .int is.sum
  | .sorted, [.lst xs] => if xs.length < 64 then (intsO xs).map fun is => .lst ((sortI is).map .int) else none
  | .int, [.int i] => some (.int i)
  | .int, [.bl b] => some (.int (if b then 1 else 0))
  | .int, [.str s] => if s.length ≤ 640 then (intS s).map .int else none
  | .lenset, [.lst xs] => if xs.length < 4000 then (strsO xs).map fun zs => .int (cntS [] zs) else none
  | .dictenum, [x] => (match deref w x with
    | .tup xs => some (.dct ((List.range xs.length).map fun (k : Nat) => .int (k : Int)) xs)
    | .lst xs => some (.dct ((List.range xs.length).map fun (k : Nat) => .int (k : Int)) xs)
    | _ => none)
  | .rng, [.int i, .int j] => if -(2 ^ 62) ≤ i ∧ i < 2 ^ 62 ∧ -(2 ^ 62) ≤ j ∧ j < 2 ^ 62 ∧ (j - i).toNat < bigN then some (.lst (rngL i j)) else none
  | .enum, [.lst xs] => some (.lst (enumL 0 xs))
  | .enum, [.tup xs] => some (.lst (enumL 0 xs))
  | .zip, [.tup xs, .tup ys] => some (.lst (zipL xs ys))
  | .zip, [.lst xs, .lst ys] => some (.lst (zipL xs ys))
  | _, _ => none
def fpl (sep : List Nat) (xs : List (List Nat)) : Nat := (xs.map fun x => x.length + sep.length).sum
def bmD (w : Wd) (m : Bm) (x : D) (ds : List D) : Option D := match m, x, ds with
  | .join, .str s, [y] => (match deref w y with
    | .tup xs => (strsO xs).bind fun zs => if fpl s zs ≤ bigN then some (.str (joinL s zs)) else none
    | .lst xs => (strsO xs).bind fun zs => if fpl s zs ≤ bigN then some (.str (joinL s zs)) else none
    | _ => none)
  | .split, .str s, [.str [c]] => if s.length + 2 ≤ bigN ∧ c < 256 then some (.lst ((splitL c s).map .str)) else none
  | .index, .lst xs, [.str s] => (strsO xs).bind fun zs => idxOfS s 0 zs
  | .startswith, .str s, [.str p] => some (.bl (p.isPrefixOf s))
  | .items, .dct ks vs, [] => if ks.all kyD then some (.lst (zipL ks vs)) else none
  | .values, .dct _ vs, [] => some (.lst vs)
  | _, _, _ => none
where
  idxOfS (y : List Nat) (k : Nat) : List (List Nat) → Option D
    | [] => none
    | x :: xs => if x = y then some (.int k) else idxOfS y (k + 1) xs

/-! ### slots -/
abbrev En := List (Option D)
mutual
def bindP : Pat → En → D → Option En
  | .n i, ρ, d => some (ρ.set i (some d))
  | .t ps, ρ, .tup ds => bindPs ps ρ ds
  | .t _, _, _ => none
def bindPs : List Pat → En → List D → Option En
  | [], ρ, [] => some ρ
  | p :: ps, ρ, d :: ds => (bindP p ρ d).bind fun ρ' => bindPs ps ρ' ds
  | _, _, _ => none
end

/-- what a program's names mean -/
structure Tb where
  fpos : Nat → Nat → Option Nat
  mth : Nat → Nat → Option Nat
  prp : Nat → Nat → Option Nat
  glb : Nat → Option D
  ini : Nat → Option Nat
  tab : Nat → Option (List (List Nat × D)) := fun _ => none
  scr : List Int := []
  nc : Nat := 0
abbrev CallF := Nat → List D → Wd → R D

def goL (f : D → Wd → R (Option D)) : List D → Wd → R (List D)
  | [], w => .ok [] w
  | d :: ds, w => (f d w).bind fun o w => (goL f ds w).bind fun xs w => .ok (match o with | some x => x :: xs | none => xs) w
def goLL (f : D → Wd → R (List D)) : List D → Wd → R (List D)
  | [], w => .ok [] w
  | d :: ds, w => (f d w).bind fun o w => (goLL f ds w).bind fun xs w => .ok (o ++ xs) w
def goD (f : D → Wd → R (Option (D × D))) : List D → Wd → List D → List D → R D
  | [], w, ks, vs => .ok (.dct ks vs) w
  | d :: ds, w, ks, vs => (f d w).bind fun o w => match o with
    | none => goD f ds w ks vs
    | some (k, v) => match putD k v ks vs with
      | some (ks, vs) => goD f ds w ks vs
      | none => .bad
mutual
/-- no list, no dict, no instance in it -/
def flD : D → Bool
  | .non => true
  | .bl _ => true
  | .int _ => true
  | .str _ => true
  | .tup xs => flDs xs
  | .lst _ => false
  | .dct _ _ => false
  | .ins _ _ => false
  | .obj _ => true
  | .ext _ => false
def flDs : List D → Bool
  | [] => true
  | x :: xs => flD x && flDs xs
end
/-- a shared object that holds flat things alone -/
def flW : D → Bool
  | .lst xs => flDs xs
  | _ => false
def flatR (d : D) (w : Wd) : R D := if flD d && w.all flW then .ok d w else .bad
def boolR (d : D) (w : Wd) : R Bool := match d with
  | .bl b => .ok b w
  | _ => .bad

/-- an instance's own method -/
def callI (T : Tb) (C : CallF) (m : Nat) (a : D) (as : List D) (w : Wd) : R D := match a with
  | .ins c fs => (match T.mth m c with
    | some f => C f (.ins c fs :: as) w
    | none => .bad)
  | _ => .bad
def lenR (d : D) (w : Wd) : R D := match d with
  | .int i => if 0 ≤ i ∧ i.toNat ≤ bigN then .ok (.int i) w else .bad
  | _ => .bad
/-- == of an instance and a value whose class is seen -/
def meqR (T : Tb) (C : CallF) (m : Nat) (a b : D) (w : Wd) : R D := match a with
  | .ins c fs => if (isiD T.nc b (.cls c)).isSome = true then callI T C m (.ins c fs) [b] w else .bad
  | _ => .bad
section
variable (T : Tb) (C : CallF)
mutual
def ev : CE → En → Wd → R D
  | .v i, ρ, w => ofO (ρ.getD i none) w
  | .b i, ρ, w => ofO (ρ.getD i none) w
  | .non, _, w => .ok .non w
  | .bl x, _, w => .ok (.bl x) w
  | .int x, _, w => .ok (.int x) w
  | .str x, _, w => .ok (.str x) w
  | .g x, _, w => ofO (T.glb x) w
  | .tup es, ρ, w => (evs es ρ w).bind fun ds w => .ok (.tup ds) w
  | .lst es, ρ, w => (evs es ρ w).bind fun ds w => .ok (.lst ds) w
  | .dct ks vs, ρ, w => (evs ks ρ w).bind fun ds w => (evs vs ρ w).bind fun es w => .ok (.dct ds es) w
  | .bin o x y, ρ, w => (ev x ρ w).bind fun a w => (ev y ρ w).bind fun b w => ofO (binD o a b) w
  | .neg x, ρ, w => (ev x ρ w).bind fun a w => match a with | .int i => .ok (.int (-i)) w | _ => .bad
  | .inv x, ρ, w => (ev x ρ w).bind fun a w => match a with | .int i => .ok (.int (-i - 1)) w | _ => .bad
  | .not x, ρ, w => ((ev x ρ w).bind boolR).bind fun b w => .ok (.bl (!b)) w
  | .cmp o x y, ρ, w => (ev x ρ w).bind fun a w => (ev y ρ w).bind fun b w => ofO ((cmpD w o a b).map .bl) w
  | .cmp2 o p x y z, ρ, w => (ev x ρ w).bind fun a w => (ev y ρ w).bind fun b w => match cmpD w o a b with
    | some true => (ev z ρ w).bind fun c w => ofO ((cmpD w p b c).map .bl) w
    | some false => .ok (.bl false) w
    | none => .bad
  | .and x y, ρ, w => ((ev x ρ w).bind boolR).bind fun b w => if b then ev y ρ w else .ok (.bl false) w
  | .or x y, ρ, w => ((ev x ρ w).bind boolR).bind fun b w => if b then .ok (.bl true) w else ev y ρ w
  | .ite c x y, ρ, w => ((ev c ρ w).bind boolR).bind fun b w => if b then ev x ρ w else ev y ρ w
  | .call f es, ρ, w => (evs es ρ w).bind fun ds w => C f ds w
  | .mk c es, ρ, w => (evs es ρ w).bind fun ds w => match T.ini c with
    | some f => C f ds w
    | none => .bad
  | .meth m x es, ρ, w => (ev x ρ w).bind fun d w => (evs es ρ w).bind fun ds w => match d with
    | .ins c fs => (match T.mth m c with
      | some f => C f (.ins c fs :: ds) w
      | none => .bad)
    | _ => .bad
  | .fld x f, ρ, w => (ev x ρ w).bind fun d w => match deref w d with
    | .ins c fs => ofO ((T.fpos f c).bind fun j => fs[j]?) w
    | _ => .bad
  | .prop x f, ρ, w => (ev x ρ w).bind fun d w => match d with
    | .ins c fs => (match T.prp f c with
      | some g => C g [.ins c fs] w
      | none => .bad)
    | _ => .bad
  | .idx x y, ρ, w => (ev x ρ w).bind fun a w => (ev y ρ w).bind fun b w => ofO (idxD w a b) w
  | .sli x lo hi, ρ, w => (ev x ρ w).bind fun a w => (ev lo ρ w).bind fun l w => (ev hi ρ w).bind fun h w => ofO (sliD w a (partD lo l) (partD hi h)) w
  | .rev x, ρ, w => (ev x ρ w).bind fun a w => ofO (revD w a) w
  | .bf f es, ρ, w => (evs es ρ w).bind fun ds w => ofO (bfD w f ds) w
  | .bm m x es, ρ, w => (ev x ρ w).bind fun d w => (evs es ρ w).bind fun ds w => ofO (bmD w m d ds) w
  | .isi x t, ρ, w => (ev x ρ w).bind fun d w => ofO ((isiD T.nc d t).map .bl) w
  | .lc p it cs e, ρ, w => (ev it ρ w).bind fun xs w => (ofO (iterD xs) w).bind fun ds w =>
      (goL (fun d w => (ofO (bindP p ρ d) w).bind fun ρ' w => (evC cs ρ' w).bind fun b w => if b then (ev e ρ' w).bind fun x w => .ok (some x) w else .ok none w) ds w).bind fun ys w => .ok (.lst ys) w
  | .lc2 p it cs p2 it2 cs2 e, ρ, w => (ev it ρ w).bind fun xs w => (ofO (iterD xs) w).bind fun ds w =>
      (goLL (fun d w => (ofO (bindP p ρ d) w).bind fun ρ' w => (evC cs ρ' w).bind fun b w => if b then
        (ev it2 ρ' w).bind fun xs2 w => (ofO (iterD xs2) w).bind fun ds2 w =>
          goL (fun d w => (ofO (bindP p2 ρ' d) w).bind fun ρ'' w => (evC cs2 ρ'' w).bind fun b w => if b then (ev e ρ'' w).bind fun x w => .ok (some x) w else .ok none w) ds2 w
        else .ok [] w) ds w).bind fun ys w => .ok (.lst ys) w
  | .dc p it cs k e, ρ, w => (ev it ρ w).bind fun xs w => (ofO (iterD xs) w).bind fun ds w =>
      goD (fun d w => (ofO (bindP p ρ d) w).bind fun ρ' w => (evC cs ρ' w).bind fun b w => if b then (ev k ρ' w).bind fun x w => (ev e ρ' w).bind fun y w => .ok (some (x, y)) w else .ok none w) ds w [] []
  | .bad, _, _ => .bad
  | .rpeq neg x y, ρ, w => (ev x ρ w).bind fun a w => (ev y ρ w).bind fun b w => ofO (rpeqD neg a b) w
  | .tix g e, ρ, w => (ev e ρ w).bind fun d w => ofO (tixD (T.tab g) d) w
  | .tin neg g e, ρ, w => (ev e ρ w).bind fun d w => ofO (tinD (T.tab g) neg d) w
  | .tups fl es, ρ, w => (evs es ρ w).bind fun ds w => (ofO (spl fl ds) w).bind fun xs w => if xs.length ≤ bigN then .ok (.tup xs) w else .bad
  | .slen x, ρ, w => (ev x ρ w).bind fun d w => ofO (slenD T.scr d) w
  | .sidx x y, ρ, w => (ev x ρ w).bind fun a w => (ev y ρ w).bind fun b w => ofO (sidxD T.scr a b) w
  | .callb f es, ρ, w => ((evs es ρ w).bind fun ds w => C f ds w).bind flatR
  | .d1 k v, ρ, w => (ev k ρ w).bind fun a w => (ev v ρ w).bind fun b w => if keyB a then .ok (.dct [a] [b]) w else .bad
  | .cpd x, ρ, w => (ev x ρ w).bind fun d w => match deref w d with
    | .dct ks vs => .ok (.dct ks vs) w
    | _ => .bad
  | .lsts fl es, ρ, w => (evs es ρ w).bind fun ds w => (ofO (spl fl ds) w).bind fun xs w => if xs.length ≤ bigN then .ok (.lst xs) w else .bad
  | .mlen m x, ρ, w => ((ev x ρ w).bind fun d w => callI T C m d [] w).bind lenR
  | .meq neg m x y, ρ, w => (((ev x ρ w).bind fun a w => (ev y ρ w).bind fun b w => meqR T C m a b w).bind boolR).bind fun r w => .ok (.bl (r != neg)) w
def evs : List CE → En → Wd → R (List D)
  | [], _, w => .ok [] w
  | e :: es, ρ, w => (ev e ρ w).bind fun d w => (evs es ρ w).bind fun ds w => .ok (d :: ds) w
def evC : List CE → En → Wd → R Bool
  | [], _, w => .ok true w
  | e :: es, ρ, w => ((ev e ρ w).bind boolR).bind fun b w => if b then evC es ρ w else .ok false w
end
/-- a test -/
def evT (e : CE) (ρ : En) (w : Wd) : R Bool := (ev T C e ρ w).bind boolR

/-! ### statements -/
inductive Fl where
  | nx (ρ : En)
  | rt (d : D)
  | bk (ρ : En)
  | ct (ρ : En)
def goF (f : D → En → Wd → R Fl) : List D → En → Wd → R Fl
  | [], ρ, w => .ok (.nx ρ) w
  | d :: ds, ρ, w => (f d ρ w).bind fun r w => match r with
    | .nx ρ => goF f ds ρ w
    | .ct ρ => goF f ds ρ w
    | .bk ρ => .ok (.nx ρ) w
    | .rt d => .ok (.rt d) w
def goW (c : En → Wd → R Bool) (f : En → Wd → R Fl) : Nat → En → Wd → R Fl
  | 0, _, _ => .bad
  | n + 1, ρ, w => (c ρ w).bind fun b w => if b then (f ρ w).bind fun r w => (match r with
    | .nx ρ => goW c f n ρ w
    | .ct ρ => goW c f n ρ w
    | .bk ρ => .ok (.nx ρ) w
    | .rt d => .ok (.rt d) w) else .ok (.nx ρ) w
def lstAt (ρ : En) (i : Nat) : Option (List D) := match ρ.getD i none with
  | some (.lst xs) => some xs
  | _ => none
def setFld (j : Nat) (x : D) (fs : List D) : Option (List D) :=
  if j < fs.length then some (fs.set j x) else if j = fs.length then some (fs ++ [x]) else none
def putAll (xs ys : List D) : List D → List D → Option (List D × List D)
  | k :: ks, v :: vs => match putD k v xs ys with
    | some (xs, ys) => putAll xs ys ks vs
    | none => none
  | _, _ => some (xs, ys)
def isNewD : D → Bool
  | .lst _ => true
  | .dct _ _ => true
  | _ => false
def newAt : List Bool → List D → Bool
  | true :: os, d :: ds => isNewD d && newAt os ds
  | false :: os, _ :: ds => newAt os ds
  | [], [] => true
  | _, _ => false
/-- the parts of a target with one star, its first -/
def starBind (fl : List Bool) (ps : List Pat) (ρ : En) (xs : List D) : Option En := match fl, ps with
  | true :: fl, .n i :: ps => if ps.length ≤ xs.length ∧ fl.all (! ·) = true then bindPs (.n i :: ps) ρ (.lst (xs.take (xs.length - ps.length)) :: xs.drop (xs.length - ps.length)) else none
  | _, _ => none
def whileMost : Nat := 100000
mutual
def evS : CS → En → Wd → R Fl
  | .set p e, ρ, w => (ev T C e ρ w).bind fun d w => (ofO (bindP p ρ d) w).bind fun ρ w => .ok (.nx ρ) w
  | .seto i e, ρ, w => (ev T C e ρ w).bind fun d w => if isNewD d then .ok (.nx (ρ.set i (some d))) w else .bad
  | .par ps os es, ρ, w => (evs T C es ρ w).bind fun ds w => if newAt os ds then (ofO (bindPs ps ρ ds) w).bind fun ρ w => .ok (.nx ρ) w else .bad
  | .aug i o e, ρ, w => (ofO (ρ.getD i none) w).bind fun a w => (ev T C e ρ w).bind fun b w => (ofO (augD o a b) w).bind fun d w => .ok (.nx (ρ.set i (some d))) w
  | .app i e, ρ, w => (ev T C e ρ w).bind fun d w => match lstAt ρ i with
    | some xs => if xs.length < bigN then .ok (.nx (ρ.set i (some (.lst (xs ++ [d]))))) w else .bad
    | none => .bad
  | .ext i e, ρ, w => (ev T C e ρ w).bind fun d w => match lstAt ρ i, d with
    | some xs, .lst ys => if xs.length + ys.length ≤ bigN then .ok (.nx (ρ.set i (some (.lst (xs ++ ys))))) w else .bad
    | _, _ => .bad
  | .insr i k e, ρ, w => (ev T C k ρ w).bind fun a w => (ev T C e ρ w).bind fun d w => match lstAt ρ i, a with
    | some xs, .int j => if 0 ≤ j ∧ j ≤ xs.length ∧ xs.length < bigN then .ok (.nx (ρ.set i (some (.lst (xs.take j.toNat ++ d :: xs.drop j.toNat))))) w else .bad
    | _, _ => .bad
  | .seti i k e, ρ, w => (ev T C e ρ w).bind fun d w => (ev T C k ρ w).bind fun a w => match ρ.getD i none, a with
    | some (.lst xs), .int j => (match ixD xs.length j with
      | some j => .ok (.nx (ρ.set i (some (.lst (xs.set j d))))) w
      | none => .bad)
    | some (.dct ks vs), a => (match putD a d ks vs with
      | some (ks, vs) => if ks.length < bigN then .ok (.nx (ρ.set i (some (.dct ks vs)))) w else .bad
      | none => .bad)
    | _, _ => .bad
  | .setf i f e, ρ, w => (ev T C e ρ w).bind fun d w => match ρ.getD i none with
    | some (.ins c fs) => (match (T.fpos f c).bind fun j => setFld j d fs with
      | some fs => .ok (.nx (ρ.set i (some (.ins c fs)))) w
      | none => .bad)
    | _ => .bad
  | .upd i e, ρ, w => (ev T C e ρ w).bind fun d w => match ρ.getD i none, d with
    | some (.dct ks vs), .dct as bs => (match putAll ks vs as bs with
      | some (ks, vs) => if ks.length < bigN then .ok (.nx (ρ.set i (some (.dct ks vs)))) w else .bad
      | none => .bad)
    | _, _ => .bad
  | .mv _, ρ, w => .ok (.nx ρ) w
  | .ex e, ρ, w => (ev T C e ρ w).bind fun _ w => .ok (.nx ρ) w
  | .ite c a b, ρ, w => (evT T C c ρ w).bind fun x w => if x then evSs a ρ w else evSs b ρ w
  | .for_ p it b, ρ, w => (ev T C it ρ w).bind fun xs w => (ofO (iterD xs) w).bind fun ds w =>
      goF (fun d ρ w => (ofO (bindP p ρ d) w).bind fun ρ w => evSs b ρ w) ds ρ w
  | .whl c b, ρ, w => goW (fun ρ w => evT T C c ρ w) (fun ρ w => evSs b ρ w) whileMost ρ w
  | .ret e, ρ, w => (ev T C e ρ w).bind fun d w => .ok (.rt d) w
  | .retn, _, w => .ok (.rt .non) w
  | .rais c e, ρ, w => (ev T C e ρ w).bind fun d w => .exc c d w
  | .pas, ρ, w => .ok (.nx ρ) w
  | .never, _, _ => .bad
  | .appop i j e, ρ, w => (ev T C e ρ w).bind fun d w => match lstAt ρ i, lstAt ρ j, d with
    | some xs, some ys, .int n => (match ixD ys.length n with
      | some m => (match ys[m]? with
        | some y => if i ≠ j ∧ xs.length < bigN ∧ ys.length ≤ bigN then .ok (.nx ((ρ.set j (some (.lst (ys.eraseIdx m)))).set i (some (.lst (xs ++ [y]))))) w else .bad
        | none => .bad)
      | none => .bad)
    | _, _, _ => .bad
  | .setw i k e, ρ, w => (ev T C e ρ w).bind fun d w => (ev T C k ρ w).bind fun a w => match ρ.getD i none, a with
    | some (.obj n), .int j => (match w[n]? with
      | some (.lst xs) => (match ixD xs.length j with
        | some j => .ok (.nx ρ) (w.set n (.lst (xs.set j d)))
        | none => .bad)
      | _ => .bad)
    | _, _ => .bad
  | .retw e, ρ, w => (ev T C e ρ w).bind fun d w => match d with
    | .lst xs => .ok (.rt (.obj w.length)) (w ++ [.lst xs])
    | _ => .bad
  | .sets fl ps e, ρ, w => (ev T C e ρ w).bind fun d w => match d with
    | .lst xs => (ofO (starBind fl ps ρ xs) w).bind fun ρ w => .ok (.nx ρ) w
    | _ => .bad
  | .brk, ρ, w => .ok (.bk ρ) w
  | .cnt, ρ, w => .ok (.ct ρ) w
def evSs : List CS → En → Wd → R Fl
  | [], ρ, w => .ok (.nx ρ) w
  | s :: ss, ρ, w => (evS s ρ w).bind fun r w => match r with
    | .nx ρ => evSs ss ρ w
    | r => .ok r w
end
/-- a def: how many parameters, how many slots, its body; for an __init__ the class -/
structure CD where
  np : Nat
  ns : Nat
  body : List CS
  ini : Option Nat := none
/-- the instance that an __init__ has filled -/
def selfOf (c : Nat) (o : Option D) (w : Wd) : R D := match o with
  | some (.ins c' fs) => if c' = c then .ok (.ins c' fs) w else .bad
  | _ => .bad
def runD (d : CD) (args : List D) (w : Wd) : R D :=
  if args.length = d.np then
    match d.ini with
    | none => (evSs T C d.body (args.map some ++ List.replicate (d.ns - d.np) none) w).bind fun r w => match r with
      | .rt x => .ok x w
      | .nx _ => .ok .non w
      | _ => .bad
    | some c => (evSs T C d.body (some (.ins c []) :: (args.map some ++ List.replicate (d.ns - d.np - 1) none)) w).bind fun r w => match r with
      | .nx ρ => selfOf c (ρ.getD 0 none) w
      | _ => .bad
  else .bad
end
/-- a program: its defs by number; prm: those that are told from outside -/
def callP (T : Tb) (P : Nat → Option CD) (prm : Nat → Option (List D → Wd → R D)) : Nat → CallF
  | 0 => fun _ _ _ => .bad
  | n + 1 => fun f args w => match prm f with
    | some g => g args w
    | none => match P f with
      | some d => runD T (callP T P prm n) d args w
      | none => .bad
end MP

set_option Elab.async false
set_option linter.all false
set_option maxRecDepth 100000
/-! MP2: data and what stands in the heap. -/
namespace MP
open PySem PySem.Spec PyProof.Rows L2

/-- the classes: where they stand, their fields in order -/
structure Cls where
  addr : Nat → Addr
  names : Nat → List Str
  ext : Nat → V
  scr : List (Addr × HO)

def toS (s : List Nat) : Str := ⟨s.toArray⟩
theorem toS_toList (s : List Nat) : (toS s).cps.toList = s := by simp [toS]
theorem toS_length (s : List Nat) : (toS s).length = s.length := by simp [toS, Str.length]
theorem toS_inj {a b : List Nat} (h : toS a = toS b) : a = b := by
  have := congrArg (fun z : Str => z.cps.toList) h
  simpa [toS] using this
def keyO : D → Option Key
  | .int i => some (.inl i)
  | .str s => some (.inr (toS s))
  | _ => none

section
variable (K : PySem.W.Frag) (Q : Cls) (F : Hp) (as : List Addr)
mutual
/-- the value v tells the data d, all of it frozen (in F or in the written part) -/
def Rep : D → V → Prop
  | .non, v => v = .non
  | .bl b, v => v = .bl b
  | .int i, v => v = .int i
  | .str s, v => v = .str (toS s) ∧ ∀ c ∈ s, c < 1114112
  | .tup ds, v => ∃ a xs, v = .ref a ∧ SqT K F a xs ∧ RepL ds xs
  | .lst ds, v => ∃ a xs, v = .ref a ∧ F a = some (.lst xs) ∧ RepL ds xs
  | .dct ks vs, v => ∃ a kvs, v = .ref a ∧ Rd F a (.dK kvs) ∧ ks.map keyO = kvs.map (fun p => some p.1) ∧ RepL vs (kvs.map (·.2))
  | .ins c fs, v => ∃ a dx nfs, v = .ref a ∧ F a = some (.ins (Q.addr c) dx nfs) ∧ nfs.map (·.1) = (Q.names c).take fs.length ∧ RepL fs (nfs.map (·.2))
  | .obj n, v => ∃ a, as[n]? = some a ∧ v = .ref a
  | .ext n, v => v = Q.ext n
def RepL : List D → List V → Prop
  | [], xs => xs = []
  | d :: ds, xs => ∃ v vs, xs = v :: vs ∧ Rep d v ∧ RepL ds vs
end
/-- what stands at an address that is owned -/
def ORep : D → HO → Prop
  | .lst ds, o => ∃ xs, o = .lst xs ∧ RepL K Q F as ds xs
  | .dct ks vs, o => ∃ kvs, o = .dK kvs ∧ ks.map keyO = kvs.map (fun p => some p.1) ∧ RepL K Q F as vs (kvs.map (·.2))
  | .ins c fs, o => ∃ dx nfs, o = .ins (Q.addr c) dx nfs ∧ nfs.map (·.1) = (Q.names c).take fs.length ∧ RepL K Q F as fs (nfs.map (·.2))
  | _, _ => False
end

section
variable {K : PySem.W.Frag} {Q : Cls} {F F' H H' : Hp} {as as' : List Addr}
def Le (F F' : Hp) : Prop := ∀ a o, F a = some o → F' a = some o
theorem Le.rfl' : Le F F := fun _ _ h => h
theorem Le.trans {F1 F2 F3 : Hp} (a : Le F1 F2) (b : Le F2 F3) : Le F1 F3 := fun x o h => b x o (a x o h)
theorem Le.upd {p : Addr} {o : HO} (h : F p = none) : Le F (upd F p o) := fun a u e => by rw [upd_ne (ne_of_none e h)]; exact e
theorem Le.rd {a : Addr} {u : HO} (l : Le F F') (h : Rd F a u) : Rd F' a u := h.elim (fun z => .inl (l _ _ z)) fun ⟨o, z⟩ => .inr ⟨o, l _ _ z⟩
theorem Le.sqT {a : Addr} {xs : List V} (l : Le F F') (h : SqT K F a xs) : SqT K F' a xs := by
  rcases h with (h | ⟨o, h⟩) | h
  · exact .inl (.inl (l _ _ h))
  · exact .inl (.inr ⟨o, l _ _ h⟩)
  · exact .inr h
theorem Le.sqL {a : Addr} {xs : List V} (l : Le F F') (h : SqL K F a xs) : SqL K F' a xs := by
  rcases h with (h | ⟨o, h⟩) | h
  · exact .inl (.inl (l _ _ h))
  · exact .inl (.inr ⟨o, l _ _ h⟩)
  · exact .inr h
def Pre (as as' : List Addr) : Prop := ∃ m, as' = as ++ m
theorem Pre.rfl' : Pre as as := ⟨[], by simp⟩
theorem Pre.trans {a b c : List Addr} (h : Pre a b) (h' : Pre b c) : Pre a c := by
  obtain ⟨m, rfl⟩ := h
  obtain ⟨n, rfl⟩ := h'
  exact ⟨m ++ n, by simp⟩
theorem Pre.get {n : Nat} {a : Addr} (h : Pre as as') (e : as[n]? = some a) : as'[n]? = some a := by
  obtain ⟨m, rfl⟩ := h
  rw [List.getElem?_append_left (by have := List.getElem?_eq_some_iff.mp e; exact this.1)]
  exact e
theorem Pre.mem {a : Addr} (h : Pre as as') (e : a ∈ as) : a ∈ as' := by
  obtain ⟨m, rfl⟩ := h
  exact List.mem_append_left _ e
mutual
theorem Rep.mono (l : Le F F') (p : Pre as as') : ∀ (d : D) (v : V), Rep K Q F as d v → Rep K Q F' as' d v
  | .non, v, h | .bl _, v, h | .int _, v, h | .str _, v, h | .ext _, v, h => by simpa only [Rep] using h
  | .tup ds, v, h => by
    simp only [Rep] at h ⊢
    obtain ⟨a, xs, e, s, r⟩ := h
    exact ⟨a, xs, e, l.sqT s, RepL.mono l p ds xs r⟩
  | .lst ds, v, h => by
    simp only [Rep] at h ⊢
    obtain ⟨a, xs, e, s, r⟩ := h
    exact ⟨a, xs, e, l _ _ s, RepL.mono l p ds xs r⟩
  | .dct ks vs, v, h => by
    simp only [Rep] at h ⊢
    obtain ⟨a, kvs, e, s, k, r⟩ := h
    exact ⟨a, kvs, e, l.rd s, k, RepL.mono l p vs _ r⟩
  | .ins c fs, v, h => by
    simp only [Rep] at h ⊢
    obtain ⟨a, dx, nfs, e, s, k, r⟩ := h
    exact ⟨a, dx, nfs, e, l _ _ s, k, RepL.mono l p fs _ r⟩
  | .obj n, v, h => by
    simp only [Rep] at h ⊢
    obtain ⟨a, e, r⟩ := h
    exact ⟨a, p.get e, r⟩
theorem RepL.mono (l : Le F F') (p : Pre as as') : ∀ (ds : List D) (xs : List V), RepL K Q F as ds xs → RepL K Q F' as' ds xs
  | [], xs, h => by simpa only [RepL] using h
  | d :: ds, xs, h => by
    simp only [RepL] at h ⊢
    obtain ⟨v, vs, e, r, rs⟩ := h
    exact ⟨v, vs, e, Rep.mono l p d v r, RepL.mono l p ds vs rs⟩
end
theorem ORep.mono (l : Le F F') (p : Pre as as') {d : D} {o : HO} (h : ORep K Q F as d o) : ORep K Q F' as' d o := by
  cases d <;> simp only [ORep] at h ⊢
  · obtain ⟨xs, e, r⟩ := h
    exact ⟨xs, e, r.mono l p⟩
  · obtain ⟨kvs, e, k, r⟩ := h
    exact ⟨kvs, e, k, r.mono l p⟩
  · obtain ⟨dx, nfs, e, k, r⟩ := h
    exact ⟨dx, nfs, e, k, r.mono l p⟩
theorem RepL.length : ∀ {ds : List D} {xs : List V}, RepL K Q F as ds xs → xs.length = ds.length
  | [], xs, h => by simp only [RepL] at h; rw [h]; rfl
  | d :: ds, xs, h => by
    simp only [RepL] at h
    obtain ⟨v, vs, e, r, rs⟩ := h
    rw [e, List.length_cons, List.length_cons, rs.length]
theorem RepL.get : ∀ {ds : List D} {xs : List V} {i : Nat} {d : D}, RepL K Q F as ds xs → ds[i]? = some d → ∃ v, xs[i]? = some v ∧ Rep K Q F as d v
  | [], _, i, d, _, e => by simp at e
  | d :: ds, xs, 0, d', h, e => by
    simp only [RepL] at h
    obtain ⟨v, vs, rfl, r, rs⟩ := h
    simp at e
    subst e
    exact ⟨v, rfl, r⟩
  | d :: ds, xs, i + 1, d', h, e => by
    simp only [RepL] at h
    obtain ⟨v, vs, rfl, r, rs⟩ := h
    obtain ⟨v', e1, r'⟩ := RepL.get (i := i) rs (by simpa using e)
    exact ⟨v', by simpa using e1, r'⟩
theorem RepL.nil : RepL K Q F as [] [] := by simp only [RepL]
theorem RepL.cons {d : D} {v : V} {ds : List D} {vs : List V} (h : Rep K Q F as d v) (hs : RepL K Q F as ds vs) : RepL K Q F as (d :: ds) (v :: vs) := by
  simp only [RepL]
  exact ⟨v, vs, rfl, h, hs⟩
theorem RepL.append : ∀ {ds es : List D} {xs ys : List V}, RepL K Q F as ds xs → RepL K Q F as es ys → RepL K Q F as (ds ++ es) (xs ++ ys)
  | [], es, xs, ys, h, h' => by
    simp only [RepL] at h
    subst h
    exact h'
  | d :: ds, es, xs, ys, h, h' => by
    simp only [RepL] at h
    obtain ⟨v, vs, rfl, r, rs⟩ := h
    exact .cons r (rs.append h')
theorem RepL.drop : ∀ (n : Nat) {ds : List D} {xs : List V}, RepL K Q F as ds xs → RepL K Q F as (ds.drop n) (xs.drop n)
  | 0, _, _, h => h
  | n + 1, [], xs, h => by
    simp only [RepL] at h
    subst h
    exact .nil
  | n + 1, d :: ds, xs, h => by
    simp only [RepL] at h
    obtain ⟨v, vs, rfl, r, rs⟩ := h
    exact RepL.drop n rs
theorem RepL.take : ∀ (n : Nat) {ds : List D} {xs : List V}, RepL K Q F as ds xs → RepL K Q F as (ds.take n) (xs.take n)
  | 0, _, _, h => .nil
  | n + 1, [], xs, h => by
    simp only [RepL] at h
    subst h
    exact .nil
  | n + 1, d :: ds, xs, h => by
    simp only [RepL] at h
    obtain ⟨v, vs, rfl, r, rs⟩ := h
    exact .cons r (RepL.take n rs)
theorem RepL.set {d : D} {v : V} (r' : Rep K Q F as d v) : ∀ (i : Nat) {ds : List D} {xs : List V}, RepL K Q F as ds xs → RepL K Q F as (ds.set i d) (xs.set i v)
  | i, [], xs, h => by
    simp only [RepL] at h
    subst h
    exact .nil
  | 0, d0 :: ds, xs, h => by
    simp only [RepL] at h
    obtain ⟨v0, vs, rfl, r, rs⟩ := h
    exact .cons r' rs
  | i + 1, d0 :: ds, xs, h => by
    simp only [RepL] at h
    obtain ⟨v0, vs, rfl, r, rs⟩ := h
    exact .cons r (RepL.set r' i rs)
theorem RepL.reverse : ∀ {ds : List D} {xs : List V}, RepL K Q F as ds xs → RepL K Q F as ds.reverse xs.reverse
  | [], xs, h => by
    simp only [RepL] at h
    subst h
    exact .nil
  | d :: ds, xs, h => by
    simp only [RepL] at h
    obtain ⟨v0, vs, rfl, r, rs⟩ := h
    rw [List.reverse_cons, List.reverse_cons]
    exact (RepL.reverse rs).append (.cons r .nil)

/-- how a call, an expression changes things: what is frozen stays, new things are new, what was tracked and is not shared stands as before -/
structure Grw (F : Hp) (as : List Addr) (H : Hp) (F' : Hp) (as' : List Addr) (H' : Hp) : Prop where
  fz : Le F F'
  pr : Pre as as'
  kp : ∀ a o, H a = some o → a ∉ as → H' a = some o
  nf : ∀ a o, F' a = some o → F a = some o ∨ H a = none
  na : ∀ a, a ∈ as' → a ∈ as ∨ H a = none
  tr : ∀ a, H' a = none → H a = none
theorem Grw.rfl' : Grw F as H F as H := ⟨Le.rfl', Pre.rfl', fun _ _ h _ => h, fun _ _ h => .inl h, fun _ h => .inl h, fun _ h => h⟩
theorem Grw.trans {F1 F2 F3 H1 H2 H3 : Hp} {a1 a2 a3 : List Addr} (x : Grw F1 a1 H1 F2 a2 H2) (y : Grw F2 a2 H2 F3 a3 H3) : Grw F1 a1 H1 F3 a3 H3 where
  fz := x.fz.trans y.fz
  pr := x.pr.trans y.pr
  kp := fun a o h n => y.kp a o (x.kp a o h n) fun m => (x.na a m).elim n fun z => by rw [h] at z; cases z
  nf := fun a o h => (y.nf a o h).elim (x.nf a o) fun z => .inr (x.tr a z)
  na := fun a h => (y.na a h).elim (x.na a) fun z => .inr (x.tr a z)
  tr := fun a h => x.tr a (y.tr a h)
/-- a new object, frozen at once -/
theorem Grw.newF {p : Addr} {o : HO} (hp : H p = none) (hf : F p = none) : Grw F as H (L2.upd F p o) as (L2.upd H p o) where
  fz := Le.upd hf
  pr := Pre.rfl'
  kp := fun a u e _ => by rw [upd_ne (ne_of_none e hp)]; exact e
  nf := fun a u e => by
    by_cases h : a = p
    · subst h; exact .inr hp
    · rw [upd_ne h] at e; exact .inl e
  na := fun _ h => .inl h
  tr := fun a e => by
    by_cases h : a = p
    · subst h; exact hp
    · rw [upd_ne h] at e; exact e
/-- a new object, not frozen -/
theorem Grw.newO {p : Addr} {o : HO} (hp : H p = none) : Grw F as H F as (L2.upd H p o) where
  fz := Le.rfl'
  pr := Pre.rfl'
  kp := fun a u e _ => by rw [upd_ne (ne_of_none e hp)]; exact e
  nf := fun _ _ e => .inl e
  na := fun _ h => .inl h
  tr := fun a e => by
    by_cases h : a = p
    · subst h; exact hp
    · rw [upd_ne h] at e; exact e

/-- the world -/
structure WR (K : PySem.W.Frag) (Q : Cls) (F : Hp) (as : List Addr) (w : Wd) (H : Hp) : Prop where
  len : as.length = w.length
  nd : as.Nodup
  at_ : ∀ (n : Nat) (d : D) (a : Addr), w[n]? = some d → as[n]? = some a → F a = none ∧ ∃ o, H a = some o ∧ ORep K Q F as d o
  sc : ∀ p ∈ Q.scr, F p.1 = some p.2
theorem WR.there {w : Wd} (r : WR K Q F as w H) {a : Addr} (h : a ∈ as) : F a = none ∧ ∃ o, H a = some o := by
  obtain ⟨n, hn, e⟩ := List.getElem_of_mem h
  have hw : n < w.length := by rw [← r.len]; exact hn
  obtain ⟨f, o, ho, _⟩ := r.at_ n w[n] a (by simp [hw]) (by simp [hn, e])
  exact ⟨f, o, ho⟩
end

/-- the base of a def's run -/
structure Bs where
  F : Hp
  as : List Addr
  H : Hp
  pin : Option Addr := none
/-- the state of a body: own slots S, data ρ, world w -/
structure SR (K : PySem.W.Frag) (Q : Cls) (B : Bs) (S : List Nat) (F : Hp) (as : List Addr) (ρ : En) (w : Wd) (σ : L2.St) (H : Hp) : Prop where
  sub : Le F H
  grw : Grw B.F B.as B.H F as H
  len : σ.length = ρ.length
  frz : ∀ (i : Nat) (d : D), ρ.getD i none = some d → i ∉ S → ∃ v, σ[i]? = some (some v) ∧ Rep K Q F as d v
  own : ∀ (i : Nat) (d : D), ρ.getD i none = some d → i ∈ S → ∃ a o, σ[i]? = some (some (.ref a)) ∧ F a = none ∧ a ∉ as ∧ H a = some o ∧ B.H a = none ∧ ORep K Q F as d o
  dis : ∀ (i j : Nat) (a : Addr), i ∈ S → j ∈ S → i ≠ j → (ρ.getD i none).isSome → (ρ.getD j none).isSome → σ[i]? = some (some (V.ref a)) → σ[j]? = some (some (V.ref a)) → False
  wld : WR K Q F as w H
  pin : ∀ a, B.pin = some a → 0 ∈ S ∧ σ[0]? = some (some (V.ref a))

section
variable {K : PySem.W.Frag} {Q : Cls} {B : Bs} {S : List Nat} {F F' H H' : Hp} {as as' : List Addr} {ρ : En} {w w' : Wd} {σ : L2.St}
/-- behind a step that changes no slot -/
theorem SR.step (r : SR K Q B S F as ρ w σ H) (g : Grw F as H F' as' H') (s : Le F' H') (wr : WR K Q F' as' w' H') : SR K Q B S F' as' ρ w' σ H' where
  sub := s
  grw := r.grw.trans g
  len := r.len
  frz := fun i d e n => by
    obtain ⟨v, h1, h2⟩ := r.frz i d e n
    exact ⟨v, h1, h2.mono g.fz g.pr⟩
  own := fun i d e n => by
    obtain ⟨a, o, h1, h2, h3, h4, h5, h6⟩ := r.own i d e n
    refine ⟨a, o, h1, ?_, fun m => ?_, g.kp a o h4 h3, h5, h6.mono g.fz g.pr⟩
    · cases q : F' a with
      | none => rfl
      | some u =>
        rcases g.nf a u q with z | z
        · rw [h2] at z; cases z
        · rw [h4] at z; cases z
    · rcases g.na a m with z | z
      · exact h3 z
      · rw [h4] at z; cases z
  dis := r.dis
  wld := wr
  pin := r.pin
theorem WR.newF (r : WR K Q F as w H) {p : Addr} {o : HO} (hp : H p = none) (hf : F p = none) : WR K Q (upd F p o) as w (upd H p o) where
  len := r.len
  nd := r.nd
  at_ := fun n d a e1 e2 => by
    obtain ⟨f, u, h1, h2⟩ := r.at_ n d a e1 e2
    have ne : a ≠ p := ne_of_none h1 hp
    exact ⟨by rw [upd_ne ne]; exact f, u, by rw [upd_ne ne]; exact h1, h2.mono (Le.upd hf) Pre.rfl'⟩
  sc := fun p hp => Le.upd hf _ _ (r.sc p hp)
theorem WR.newO (r : WR K Q F as w H) {p : Addr} {o : HO} (hp : H p = none) : WR K Q F as w (upd H p o) where
  len := r.len
  nd := r.nd
  at_ := fun n d a e1 e2 => by
    obtain ⟨f, u, h1, h2⟩ := r.at_ n d a e1 e2
    have ne : a ≠ p := ne_of_none h1 hp
    exact ⟨f, u, by rw [upd_ne ne]; exact h1, h2⟩
  sc := r.sc
theorem Le.non (s : Le F H) {p : Addr} (h : H p = none) : F p = none := by
  cases q : F p with
  | none => rfl
  | some o => rw [s p o q] at h; cases h
theorem Le.both (s : Le F H) {p : Addr} {o : HO} (h : H p = none) : Le (L2.upd F p o) (L2.upd H p o) := fun a u e => by
  by_cases z : a = p
  · subst z; rw [upd_same] at e ⊢; exact e
  · rw [upd_ne z] at e ⊢; exact s a u e
theorem SR.newF (r : SR K Q B S F as ρ w σ H) {p : Addr} {o : HO} (hp : H p = none) : SR K Q B S (upd F p o) as ρ w σ (upd H p o) :=
  r.step (Grw.newF hp (r.sub.non hp)) (r.sub.both hp) (r.wld.newF hp (r.sub.non hp))
theorem SR.newO (r : SR K Q B S F as ρ w σ H) {p : Addr} {o : HO} (hp : H p = none) : SR K Q B S F as ρ w σ (upd H p o) :=
  r.step (Grw.newO hp) (fun a u e => by rw [upd_ne (ne_of_none e (r.sub.non hp))]; exact r.sub a u e) (r.wld.newO hp)
/-- an object is frozen that no slot owns and the world does not hold -/
theorem SR.freeze (r : SR K Q B S F as ρ w σ H) {p : Addr} {o : HO} (hp : H p = some o) (hf : F p = none) (ha : p ∉ as) (hb : B.H p = none) (hs : ∀ i, i ∈ S → (ρ.getD i none).isSome → σ[i]? ≠ some (some (V.ref p))) : SR K Q B S (upd F p o) as ρ w σ H where
  sub := fun a u e => by
    by_cases z : a = p
    · subst z; rw [upd_same] at e; cases e; exact hp
    · rw [upd_ne z] at e; exact r.sub a u e
  grw := ⟨r.grw.fz.trans (Le.upd hf), r.grw.pr, r.grw.kp, fun a u e => by
    by_cases z : a = p
    · subst z; exact .inr hb
    · rw [upd_ne z] at e; exact r.grw.nf a u e, r.grw.na, r.grw.tr⟩
  len := r.len
  frz := fun i d e n => by
    obtain ⟨v, h1, h2⟩ := r.frz i d e n
    exact ⟨v, h1, h2.mono (Le.upd hf) Pre.rfl'⟩
  own := fun i d e n => by
    obtain ⟨a, u, h1, h2, h3, h4, h5, h6⟩ := r.own i d e n
    have ne : a ≠ p := fun z => hs i n (by rw [e]; rfl) (by rw [h1, z])
    exact ⟨a, u, h1, by rw [upd_ne ne]; exact h2, h3, h4, h5, h6.mono (Le.upd hf) Pre.rfl'⟩
  dis := r.dis
  wld := ⟨r.wld.len, r.wld.nd, fun n d a e1 e2 => by
    obtain ⟨f, u, h1, h2⟩ := r.wld.at_ n d a e1 e2
    have ne : a ≠ p := fun z => ha (z ▸ List.mem_of_getElem? e2)
    exact ⟨by rw [upd_ne ne]; exact f, u, h1, h2.mono (Le.upd hf) Pre.rfl'⟩, fun p hp => Le.upd hf _ _ (r.wld.sc p hp)⟩
  pin := r.pin
/-- a slot that was owned is frozen -/
theorem SR.give (r : SR K Q B S F as ρ w σ H) (i : Nat) (hi0 : i ≠ 0) : ∃ F', Le F F' ∧ SR K Q B (S.filter (· ≠ i)) F' as ρ w σ H := by
  have sm : ∀ j, j ∈ S.filter (· ≠ i) ↔ j ∈ S ∧ j ≠ i := fun j => by simp
  by_cases hi : i ∈ S ∧ (ρ.getD i none).isSome
  · obtain ⟨hi, hd⟩ := hi
    obtain ⟨d, hd'⟩ := Option.isSome_iff_exists.mp hd
    obtain ⟨a, o, h1, h2, h3, h4, h5, h6⟩ := r.own i d hd' hi
    have r0 : SR K Q B (S.filter (· ≠ i)) F as ρ w σ H → SR K Q B (S.filter (· ≠ i)) (upd F a o) as ρ w σ H := fun z => z.freeze h4 h2 h3 h5 fun j hj hs e => by
      obtain ⟨j1, j2⟩ := (sm j).mp hj
      exact r.dis j i a j1 hi j2 hs hd e h1
    -- all at once, since slot i has no owner for a while
    have base : SR K Q B S F as (ρ.set i none) w σ H := ⟨r.sub, r.grw, by rw [List.length_set]; exact r.len,
      fun j d' e n => r.frz j d' (by
        by_cases z : j = i
        · subst z
          by_cases q : j < ρ.length
          · simp [List.getD_eq_getElem?_getD, List.getElem?_set_self q] at e
          · simp [List.getD_eq_getElem?_getD, List.getElem?_eq_none (show (ρ.set j none).length ≤ j by simpa using q)] at e
        · simpa [List.getD_eq_getElem?_getD, List.getElem?_set_ne (Ne.symm z)] using e) n,
      fun j d' e n => r.own j d' (by
        by_cases z : j = i
        · subst z
          by_cases q : j < ρ.length
          · simp [List.getD_eq_getElem?_getD, List.getElem?_set_self q] at e
          · simp [List.getD_eq_getElem?_getD, List.getElem?_eq_none (show (ρ.set j none).length ≤ j by simpa using q)] at e
        · simpa [List.getD_eq_getElem?_getD, List.getElem?_set_ne (Ne.symm z)] using e) n,
      fun j k b hj hk hjk sj sk => r.dis j k b hj hk hjk (by
        by_cases z : j = i
        · subst z; exact hd
        · simpa [List.getD_eq_getElem?_getD, List.getElem?_set_ne (Ne.symm z)] using sj) (by
        by_cases z : k = i
        · subst z; exact hd
        · simpa [List.getD_eq_getElem?_getD, List.getElem?_set_ne (Ne.symm z)] using sk), r.wld, r.pin⟩
    have fr := base.freeze h4 h2 h3 h5 fun j hj hs e => by
      by_cases z : j = i
      · subst z
        by_cases q : j < ρ.length
        · simp [List.getD_eq_getElem?_getD, List.getElem?_set_self q] at hs
        · simp [List.getD_eq_getElem?_getD, List.getElem?_eq_none (show (ρ.set j none).length ≤ j by simpa using q)] at hs
      · exact r.dis j i a hj hi z (by simpa [List.getD_eq_getElem?_getD, List.getElem?_set_ne (Ne.symm z)] using hs) hd e h1
    have back : ∀ j d', ρ.getD j none = some d' → j ≠ i → (ρ.set i none).getD j none = some d' := fun j d' e z => by
      simpa [List.getD_eq_getElem?_getD, List.getElem?_set_ne (Ne.symm z)] using e
    refine ⟨upd F a o, Le.upd h2, fr.sub, fr.grw, r.len, fun j d' e n => ?_, fun j d' e n => ?_, fun j k b hj hk => r.dis j k b ((sm j).mp hj).1 ((sm k).mp hk).1, fr.wld, fun a e => ⟨(sm 0).mpr ⟨(r.pin a e).1, Ne.symm hi0⟩, (r.pin a e).2⟩⟩
    · by_cases z : j = i
      · subst z
        rw [hd'] at e
        cases e
        refine ⟨.ref a, h1, ?_⟩
        have h6' := h6.mono (Le.upd (F := F) (p := a) (o := o) h2) (Pre.rfl' (as := as))
        cases d <;> simp only [ORep] at h6' <;> simp only [Rep]
        · obtain ⟨xs, rfl, q⟩ := h6'
          exact ⟨a, xs, rfl, upd_same, q⟩
        · obtain ⟨kvs, rfl, q1, q2⟩ := h6'
          exact ⟨a, kvs, rfl, .inl upd_same, q1, q2⟩
        · obtain ⟨dx, nfs, rfl, q1, q2⟩ := h6'
          exact ⟨a, dx, nfs, rfl, upd_same, q1, q2⟩
      · exact fr.frz j d' (back j d' e z) fun m => n ((sm j).mpr ⟨m, z⟩)
    · obtain ⟨m, z⟩ := (sm j).mp n
      exact fr.own j d' (back j d' e z) m
  · refine ⟨F, Le.rfl', r.sub, r.grw, r.len, fun j d e n => r.frz j d e fun m => ?_, fun j d e n => r.own j d e ((sm j).mp n).1, fun j k b hj hk => r.dis j k b ((sm j).mp hj).1 ((sm k).mp hk).1, r.wld, fun a e => ⟨(sm 0).mpr ⟨(r.pin a e).1, Ne.symm hi0⟩, (r.pin a e).2⟩⟩
    by_cases z : j = i
    · subst z
      exact hi ⟨m, by rw [e]; rfl⟩
    · exact n ((sm j).mpr ⟨m, z⟩)
end
end MP

set_option Elab.async false
set_option linter.all false
set_option maxRecDepth 100000
/-! MP3: what a Python text says in the core (chk), and that expressions do as the core says. -/
namespace MP
open PySem PySem.Spec PyProof.Rows L2

/-! ### looks -/
structure Nm where
  fn : Str → Option Nat
  cl : Str → Option Nat
  gl : Str → Option Nat
  at_ : Str → Option Nat
  mt : Str → Option Nat
  pr : Str → Option Nat
  kd : Nat → Bool
  tb : Str → Option Nat := fun _ => none
def okName (x : Str) : Bool := !(x == ("__debug__" : Str)) && !(x == ("__classdict__" : Str))
def visB (sc : Scope) (x : Str) : Bool := match sc.names.lookup x with
  | some .local => true
  | some .cell => true
  | some .free => true
  | _ => false
def isSlot (N : List Str) (sc : Scope) (i : Nat) : Expr → Bool
  | .Name x _ => decide (N[i]? = some x) && visB sc x && okName x
  | _ => false
def isGl (sc : Scope) (x : Str) : Bool := (match sc.names.lookup x with
  | some .globalImplicit => true
  | _ => false) && !(x == ("__debug__" : Str)) && !(x == ("__name__" : Str))
/-- e is the global x -/
def glIs (sc : Scope) (x : Str) : Expr → Bool
  | .Name y _ => decide (y = x) && isGl sc x
  | _ => false
/-- the global name that e is -/
def glOf (sc : Scope) : Expr → Option Str
  | .Name y _ => if isGl sc y then some y else none
  | _ => none

theorem isSlot_ok {N : List Str} {sc : Scope} {i : Nat} {e : Expr} (h : isSlot N sc i e = true) : ∃ x p, e = .Name x p ∧ N[i]? = some x ∧ (sc.names.lookup x = some .local ∨ sc.names.lookup x = some .cell ∨ sc.names.lookup x = some .free) ∧
    (x == ("__debug__" : Str)) = false ∧ (x == ("__classdict__" : Str)) = false := by
  cases e <;> try (simp only [isSlot] at h; exact absurd h Bool.false_ne_true)
  rename_i x p
  simp only [isSlot, Bool.and_eq_true, decide_eq_true_eq, okName, Bool.not_eq_true'] at h
  obtain ⟨⟨h1, h2⟩, h3, h4⟩ := h
  refine ⟨x, p, rfl, h1, ?_, h3, h4⟩
  unfold visB at h2
  split at h2
  · rename_i q; exact .inl q
  · rename_i q; exact .inr (.inl q)
  · rename_i q; exact .inr (.inr q)
  · cases h2
theorem isGl_ok {sc : Scope} {x : Str} (h : isGl sc x = true) : sc.names.lookup x = some .globalImplicit ∧ (x == ("__debug__" : Str)) = false ∧ x ≠ ("__name__" : Str) := by
  simp only [isGl, Bool.and_eq_true, Bool.not_eq_true'] at h
  obtain ⟨⟨h1, h2⟩, h3⟩ := h
  refine ⟨?_, h2, fun e => ?_⟩
  · split at h1
    · assumption
    · cases h1
  · rw [e] at h3
    simp at h3
theorem glIs_ok {sc : Scope} {x : Str} {e : Expr} (h : glIs sc x e = true) : (∃ p, e = .Name x p) ∧ isGl sc x = true := by
  cases e <;> try (simp only [glIs] at h; exact absurd h Bool.false_ne_true)
  simp only [glIs, Bool.and_eq_true, decide_eq_true_eq] at h
  obtain ⟨rfl, h⟩ := h
  exact ⟨⟨_, rfl⟩, h⟩
theorem glOf_ok {sc : Scope} {x : Str} {e : Expr} (h : glOf sc e = some x) : (∃ p, e = .Name x p) ∧ isGl sc x = true := by
  cases e with
  | Name y p =>
    simp only [glOf] at h
    split at h
    · rename_i q
      cases h
      exact ⟨⟨_, rfl⟩, q⟩
    · cases h
  | _ => simp only [glOf] at h; cases h

/-! ### where one stands -/
/-- a body, or a comprehension's block in it -/
structure Gd (X : Cx) (N : List Str) (sc : Scope) (k : Nat) : Prop where
  nm : X.N = N
  nd : X.N.Nodup
  sc : X.env.scope = sc
  calm : X.calm = true
  room : Room (k + 2) X.A
  guards : X.A.guards = some []

theorem _root_.L2.PE.imp {X : Cx} {e : Expr} {t t' : TE} (h : PE X e t) (hi : ∀ σ H Q, t' σ H Q → t σ H Q) : PE X e t' := ⟨fun pins s σ H Q I q => h.run pins s σ H Q I (hi σ H Q q)⟩
theorem _root_.L2.PT.imp {X : Cx} {e : Expr} {t t' : TT} (h : PT X e t) (hi : ∀ σ H Q, t' σ H Q → t σ H Q) : PT X e t' := ⟨fun pins s σ H Q I q => h.run pins s σ H Q I (hi σ H Q q)⟩
theorem _root_.L2.PW.imp {X : Cx} {e : Expr} {t t' : TT} (h : PW X e t) (hi : ∀ σ H Q, t' σ H Q → t σ H Q) : PW X e t' := ⟨fun wh pins s σ H Q I q => h.run wh pins s σ H Q I (hi σ H Q q)⟩
theorem _root_.L2.PA.imp {X : Cx} {es : List Expr} {t t' : TA} (h : PA X es t) (hi : ∀ σ H Q, t' σ H Q → t σ H Q) : PA X es t' := ⟨fun p pins s σ H Q I q => h.run p pins s σ H Q I (hi σ H Q q)⟩
theorem _root_.L2.PS.imp {X : Cx} {e : Stmt} {t t' : TS} (h : PS X e t) (hi : ∀ D σ H, t' D σ H → t D σ H) : PS X e t' := ⟨fun pins s σ H D I q => h.run pins s σ H D I (hi D σ H q)⟩
theorem _root_.L2.PSs.imp {X : Cx} {e : List Stmt} {t t' : TS} (h : PSs X e t) (hi : ∀ D σ H, t' D σ H → t D σ H) : PSs X e t' := ⟨fun pins s σ H D I q => h.run pins s σ H D I (hi D σ H q)⟩
theorem _root_.L2.PI.imp {X : Cx} {tg e : Expr} {t t' : TI} (h : PI X tg e t) (hi : ∀ σ H R, t' σ H R → t σ H R) : PI X tg e t' := ⟨fun pins s σ H R I q => h.run pins s σ H R I (hi σ H R q)⟩

theorem R.bind_ok {α β : Type} {x : R α} {f : α → Wd → R β} {b : β} {w' : Wd} (h : x.bind f = .ok b w') : ∃ a w1, x = .ok a w1 ∧ f a w1 = .ok b w' := by
  cases x with
  | ok a w => exact ⟨a, w, rfl, h⟩
  | exc c v w => cases h
  | bad => cases h
theorem ofO_ok {α : Type} {o : Option α} {w w' : Wd} {b : α} (h : ofO o w = .ok b w') : o = some b ∧ w' = w := by
  cases o with
  | some a => injection h with h1 h2; subst h1 h2; exact ⟨rfl, rfl⟩
  | none => cases h
theorem boolR_ok {d : D} {w w' : Wd} {b : Bool} (h : boolR d w = .ok b w') : d = .bl b ∧ w' = w := by
  cases d <;> try cases h
  exact ⟨rfl, rfl⟩

section
variable (K : PySem.W.Frag) (Q : Cls) (T : Tb) (C : CallF) (S : List Nat)
/-- what an expression comes to -/
def tE (c : CE) : TE := fun σ H R => ∃ B F as ρ w d w', SR K Q B S F as ρ w σ H ∧ ev T C c ρ w = .ok d w' ∧
  ∀ v F' as' H', Grw F as H F' as' H' → SR K Q B S F' as' ρ w' σ H' → Rep K Q F' as' d v → R v H'
/-- an operand: a value, or an owned slot's -/
def Opd (F : Hp) (as : List Addr) (ρ : En) (σ : L2.St) (c : CE) (d : D) (v : V) : Prop :=
  Rep K Q F as d v ∨ ∃ i, i ∈ S ∧ c = .b i ∧ ρ.getD i none = some d ∧ σ[i]? = some (some v)
def tO (c : CE) : TE := fun σ H R => ∃ B F as ρ w d w', SR K Q B S F as ρ w σ H ∧ ev T C c ρ w = .ok d w' ∧
  ∀ v F' as' H', Grw F as H F' as' H' → SR K Q B S F' as' ρ w' σ H' → Opd K Q S F' as' ρ σ c d v → R v H'
def tA (cs : List CE) : TA := fun σ H R => ∃ B F as ρ w ds w', SR K Q B S F as ρ w σ H ∧ evs T C cs ρ w = .ok ds w' ∧
  ∀ vs F' as' H', Grw F as H F' as' H' → SR K Q B S F' as' ρ w' σ H' → RepL K Q F' as' ds vs → R vs H'
def tTst (c : CE) : TT := fun σ H R => ∃ B F as ρ w b w', SR K Q B S F as ρ w σ H ∧ evT T C c ρ w = .ok b w' ∧
  ∀ F' as' H', Grw F as H F' as' H' → SR K Q B S F' as' ρ w' σ H' → R b H'
/-- what is new and owned by nobody yet -/
def tN (c : CE) : TE := fun σ H R => ∃ B F as ρ w d w', SR K Q B S F as ρ w σ H ∧ ev T C c ρ w = .ok d w' ∧
  (isNewD d = true → ∀ p o F' as' H', Grw F as H F' as' H' → SR K Q B S F' as' ρ w' σ H' → H p = none → F' p = none → p ∉ as' → H' p = some o → ORep K Q F' as' d o → R (.ref p) H')
/-- an operand read at its top: in the heap as it is -/
def Top (F : Hp) (as : List Addr) (H : Hp) : D → V → Prop
  | .lst ds, v => ∃ a xs, v = .ref a ∧ H a = some (.lst xs) ∧ RepL K Q F as ds xs
  | .dct ks vs, v => ∃ a kvs, v = .ref a ∧ Rd H a (.dK kvs) ∧ ks.map keyO = kvs.map (fun p => some p.1) ∧ RepL K Q F as vs (kvs.map (·.2))
  | .ins c fs, v => ∃ a dx nfs, v = .ref a ∧ H a = some (.ins (Q.addr c) dx nfs) ∧ nfs.map (·.1) = (Q.names c).take fs.length ∧ RepL K Q F as fs (nfs.map (·.2))
  | d, v => Rep K Q F as d v
end
section
variable {K : PySem.W.Frag} {Q : Cls} {T : Tb} {C : CallF} {B : Bs} {S : List Nat} {F F' H H' : Hp} {as as' : List Addr} {ρ : En} {w w' : Wd} {σ : L2.St} {c : CE} {d : D} {v : V}
theorem Top.of (h : Rep K Q F as d v) (s : Le F H) : Top K Q F as H d v := by
  cases d <;> simp only [Top, Rep] at h ⊢ <;> try exact h
  · obtain ⟨a, xs, e, q, r⟩ := h
    exact ⟨a, xs, e, s _ _ q, r⟩
  · obtain ⟨a, xs, e, q, r⟩ := h
    exact ⟨a, xs, e, s.rd q, r⟩
  · obtain ⟨a, dx, xs, e, q, r⟩ := h
    exact ⟨a, dx, xs, e, s _ _ q, r⟩
theorem Opd.top (o : Opd K Q S F as ρ σ c d v) (r : SR K Q B S F as ρ w σ H) : Top K Q F as H d v := by
  rcases o with o | ⟨i, hi, hc, hd, hv⟩
  · exact Top.of o r.sub
  · obtain ⟨a, u, h1, h2, h3, h4, h5, h6⟩ := r.own i d hd hi
    rw [hv] at h1
    cases h1
    cases d <;> simp only [ORep] at h6 <;> simp only [Top]
    · obtain ⟨xs, rfl, q⟩ := h6
      exact ⟨a, xs, rfl, h4, q⟩
    · obtain ⟨kvs, rfl, q1, q2⟩ := h6
      exact ⟨a, kvs, rfl, .inl h4, q1, q2⟩
    · obtain ⟨dx, nfs, rfl, q1, q2⟩ := h6
      exact ⟨a, dx, nfs, rfl, h4, q1, q2⟩
theorem Opd.mono (o : Opd K Q S F as ρ σ c d v) (l : Le F F') (p : Pre as as') : Opd K Q S F' as' ρ σ c d v := by
  rcases o with o | o
  · exact .inl (o.mono l p)
  · exact .inr o
theorem tO.of {X : Cx} {e : Expr} (h : PE X e (tE K Q T C S c)) : PE X e (tO K Q T C S c) := h.imp fun σ H Z ⟨B, F, as, ρ, w, d, w', r, he, q⟩ =>
  ⟨B, F, as, ρ, w, d, w', r, he, fun v F' as' H' g r' rv => q v F' as' H' g r' (.inl rv)⟩
/-- what is new may be frozen -/
theorem tE.ofNew {X : Cx} {e : Expr} (h : PE X e (tN K Q T C S c)) : PE X e (tE K Q T C S c) := h.imp fun σ H Z ⟨B, F, as, ρ, w, d, w', r, he, q⟩ => by
  refine ⟨B, F, as, ρ, w, d, w', r, he, fun _ p o F' as' H' g r' hp hf ha ho rep => ?_⟩
  have hb : B.H p = none := r.grw.tr p hp
  have r2 := r'.freeze (p := p) (o := o) ho hf ha hb fun i hi hs e1 => by
    obtain ⟨d', hd'⟩ := Option.isSome_iff_exists.mp hs
    obtain ⟨a, u, h1, h2, h3, h4, h5, h6⟩ := r.own i d' hd' hi
    rw [e1] at h1
    cases h1
    rw [hp] at h4
    cases h4
  refine q (.ref p) (upd F' p o) as' H' ⟨g.fz.trans (Le.upd hf), g.pr, g.kp, fun a u e => ?_, g.na, g.tr⟩ r2 ?_
  · by_cases z : a = p
    · subst z; exact .inr hp
    · rw [upd_ne z] at e; exact g.nf a u e
  · have rep' := rep.mono (Le.upd (F := F') (p := p) (o := o) hf) (Pre.rfl' (as := as'))
    cases d <;> simp only [ORep] at rep' <;> simp only [Rep]
    · obtain ⟨xs, rfl, z⟩ := rep'
      exact ⟨p, xs, rfl, upd_same, z⟩
    · obtain ⟨kvs, rfl, z1, z2⟩ := rep'
      exact ⟨p, kvs, rfl, .inl upd_same, z1, z2⟩
    · obtain ⟨dx, nfs, rfl, z1, z2⟩ := rep'
      exact ⟨p, dx, nfs, rfl, upd_same, z1, z2⟩

variable {X : Cx} {N : List Str} {sc : Scope} {k : Nat} {e : Expr}
/-- a name -/
theorem snd_v (G : Gd X N sc k) {i : Nat} (h : isSlot N sc i e = true) (hi : i ∉ S) : PE X e (tE X.K Q T C S (.v i)) := by
  obtain ⟨x, p, rfl, hN, hv, h1, h2⟩ := isSlot_ok h
  refine PE.imp (t := tVar i) (pe_var (by rw [G.nm]; exact hN) (by unfold Vis; rw [G.sc]; exact hv) h1 h2) fun σ H Z ⟨B, F, as, ρ, w, d, w', r, he, q⟩ => ?_
  obtain ⟨e1, rfl⟩ := ofO_ok (show ofO (ρ.getD i none) w = .ok d w' from he)
  obtain ⟨v, hσ, rv⟩ := r.frz i d e1 hi
  exact ⟨v, hσ, q v F as H Grw.rfl' r rv⟩
theorem snd_b (G : Gd X N sc k) {i : Nat} (h : isSlot N sc i e = true) : PE X e (tO X.K Q T C S (.b i)) := by
  obtain ⟨x, p, rfl, hN, hv, h1, h2⟩ := isSlot_ok h
  refine PE.imp (t := tVar i) (pe_var (by rw [G.nm]; exact hN) (by unfold Vis; rw [G.sc]; exact hv) h1 h2) fun σ H Z ⟨B, F, as, ρ, w, d, w', r, he, q⟩ => ?_
  obtain ⟨e1, rfl⟩ := ofO_ok (show ofO (ρ.getD i none) w = .ok d w' from he)
  by_cases hi : i ∈ S
  · obtain ⟨a, o, hσ, _⟩ := r.own i d e1 hi
    exact ⟨.ref a, hσ, q _ F as H Grw.rfl' r (.inr ⟨i, hi, rfl, e1, hσ⟩)⟩
  · obtain ⟨v, hσ, rv⟩ := r.frz i d e1 hi
    exact ⟨v, hσ, q v F as H Grw.rfl' r (.inl rv)⟩
theorem tE.const {t : TE} {v : V} (h : PE X e (tC v)) (hv : ∀ (F : Hp) (as : List Addr), Rep X.K Q F as d v) (hc : ∀ ρ w, ev T C c ρ w = .ok d w) : PE X e (tE X.K Q T C S c) :=
  h.imp fun σ H Z ⟨B, F, as, ρ, w, d', w', r, he, q⟩ => by
    rw [hc] at he
    cases he
    exact q v F as H Grw.rfl' r (hv F as)
theorem snd_non {j pos} : PE X (.Constant .none j pos) (tE X.K Q T C S .non) := tE.const (d := .non) (t := tC .non) pe_non (fun _ _ => by simp only [Rep]) fun _ _ => rfl
theorem snd_bl {b j pos} : PE X (.Constant (.bool b) j pos) (tE X.K Q T C S (.bl b)) := tE.const (d := .bl b) (t := tC .non) pe_bl (fun _ _ => by simp only [Rep]) fun _ _ => rfl
theorem snd_int {i j pos} : PE X (.Constant (.int i) j pos) (tE X.K Q T C S (.int i)) := tE.const (d := .int i) (t := tC .non) pe_int (fun _ _ => by simp only [Rep]) fun _ _ => rfl
theorem snd_str {x j pos} {s : List Nat} (h : x = toS s) (hs : ∀ c ∈ s, c < 1114112) : PE X (.Constant (.str x) j pos) (tE X.K Q T C S (.str s)) := by
  subst h
  exact tE.const (d := .str s) (t := tC .non) pe_str (fun _ _ => by simp only [Rep]; exact ⟨trivial, hs⟩) fun _ _ => rfl

/-! ### arguments, displays -/
def noStar : Expr → Bool
  | .Starred _ _ => false
  | _ => true
theorem starEach_plain {e : Expr} {es : List Expr} {env : Env} (h : noStar e = true) : starEach (e :: es) env = (false, eval e env) :: starEach es env := by
  cases e <;> first | rfl | cases h
theorem snd_nil : PA X [] (tA X.K Q T C S []) := pa_nil.imp fun σ H Z ⟨B, F, as, ρ, w, ds, w', r, he, q⟩ => by
  cases (show R.ok [] w = .ok ds w' from he)
  exact q [] F as H Grw.rfl' r .nil
theorem snd_cons {es : List Expr} {cs : List CE} (hn : noStar e = true) (h : PE X e (tE X.K Q T C S c)) (hs : PA X es (tA X.K Q T C S cs)) : PA X (e :: es) (tA X.K Q T C S (c :: cs)) :=
  (pa_cons h hs (starEach_plain hn)).imp fun σ H Z ⟨B, F, as, ρ, w, ds, w', r, he, q⟩ => by
    obtain ⟨d, w1, h1, he⟩ := R.bind_ok (show (ev T C c ρ w).bind _ = .ok ds w' from he)
    obtain ⟨es', w2, h2, he⟩ := R.bind_ok (show (evs T C cs ρ w1).bind _ = .ok ds w' from he)
    cases (show R.ok (d :: es') w2 = .ok ds w' from he)
    refine ⟨B, F, as, ρ, w, d, w1, r, h1, fun v F1 as1 H1 g1 r1 rv => ?_⟩
    refine ⟨B, F1, as1, ρ, w1, es', _, r1, h2, fun vs F2 as2 H2 g2 r2 rvs => ?_⟩
    exact q (v :: vs) F2 as2 H2 (g1.trans g2) r2 (.cons (rv.mono g2.fz g2.pr) rvs)
/-- a written list, new -/
theorem snd_lstN {es : List Expr} {cs : List CE} {pos : Pos} (hs : PA X es (tA X.K Q T C S cs)) (hl : cs.length ≤ sizeLine) : PE X (.List es pos) (tN X.K Q T C S (.lst cs)) :=
  (pe_lst hs).imp fun σ H Z ⟨B, F, as, ρ, w, d, w', r, he, q⟩ => by
    obtain ⟨ds, w1, h1, he⟩ := R.bind_ok (show (evs T C cs ρ w).bind _ = .ok d w' from he)
    cases (show R.ok (D.lst ds) w1 = .ok d w' from he)
    refine ⟨B, F, as, ρ, w, ds, _, r, h1, fun vs F1 as1 H1 g1 r1 rvs => ⟨?_, fun p hp => ?_⟩⟩
    · rw [rvs.length]
      have : ∀ (cs : List CE) (ρ : En) (w : Wd) (ds : List D) (w1 : Wd), evs T C cs ρ w = .ok ds w1 → ds.length = cs.length := by
        intro cs
        induction cs with
        | nil => intro ρ w ds w1 h; cases (show R.ok [] w = .ok ds w1 from h); rfl
        | cons c cs ih =>
          intro ρ w ds w1 h
          obtain ⟨d, w2, h1, h⟩ := R.bind_ok (show (ev T C c ρ w).bind _ = .ok ds w1 from h)
          obtain ⟨es', w3, h2, h⟩ := R.bind_ok (show (evs T C cs ρ w2).bind _ = .ok ds w1 from h)
          cases (show R.ok (d :: es') w3 = .ok ds w1 from h)
          rw [List.length_cons, List.length_cons, ih _ _ _ _ h2]
      rw [this _ _ _ _ _ h1]
      exact hl
    · exact q rfl p (.lst vs) F1 as1 (upd H1 p (.lst vs)) (g1.trans (Grw.newO hp)) (r1.newO hp) (g1.tr p hp) (r1.sub.non hp) (fun m => by
        obtain ⟨_, o, ho⟩ := r1.wld.there m
        rw [hp] at ho; cases ho) upd_same ⟨vs, rfl, rvs⟩
theorem evs_length {cs : List CE} : ∀ {ρ : En} {w : Wd} {ds : List D} {w1 : Wd}, evs T C cs ρ w = .ok ds w1 → ds.length = cs.length := by
  induction cs with
  | nil => intro ρ w ds w1 h; cases (show R.ok [] w = .ok ds w1 from h); rfl
  | cons c cs ih =>
    intro ρ w ds w1 h
    obtain ⟨d, w2, h1, h⟩ := R.bind_ok (show (ev T C c ρ w).bind _ = .ok ds w1 from h)
    obtain ⟨es', w3, h2, h⟩ := R.bind_ok (show (evs T C cs ρ w2).bind _ = .ok ds w1 from h)
    cases (show R.ok (d :: es') w3 = .ok ds w1 from h)
    rw [List.length_cons, List.length_cons, ih h2]
theorem snd_tup {es : List Expr} {cs : List CE} {kk : Nat} {pos : Pos} (hs : PA X es (tA X.K Q T C S cs)) (hl : cs.length ≤ sizeLine) : PE X (.Tuple es kk pos) (tE X.K Q T C S (.tup cs)) :=
  (pe_tup hs).imp fun σ H Z ⟨B, F, as, ρ, w, d, w', r, he, q⟩ => by
    obtain ⟨ds, w1, h1, he⟩ := R.bind_ok (show (evs T C cs ρ w).bind _ = .ok d w' from he)
    cases (show R.ok (D.tup ds) w1 = .ok d w' from he)
    refine ⟨B, F, as, ρ, w, ds, _, r, h1, fun vs F1 as1 H1 g1 r1 rvs => ⟨?_, fun p hp => ?_⟩⟩
    · rw [rvs.length, evs_length h1]
      exact hl
    · refine q (.ref p) (upd F1 p (.tup vs)) as1 (upd H1 p (.tup vs)) (g1.trans (Grw.newF hp (r1.sub.non hp))) (r1.newF hp) ?_
      simp only [Rep]
      exact ⟨p, vs, rfl, .inl (.inl upd_same), rvs.mono (Le.upd (r1.sub.non hp)) Pre.rfl'⟩
end
end MP

set_option Elab.async false
set_option linter.all false
set_option maxRecDepth 100000
/-! MP4: operators, comparisons, tests. -/
namespace MP
open PySem PySem.Spec PyProof.Rows L2

/-! ### plain data as the library's -/
mutual
def toP : D → PyData
  | .non => .none
  | .bl b => .bool b
  | .int i => .int i
  | .str s => .str (toS s)
  | .tup xs => .tuple (toPs xs)
  | .lst xs => .list (toPs xs)
  | _ => .none
def toPs : List D → List PyData
  | [] => []
  | x :: xs => toP x :: toPs xs
end
theorem toPs_map : ∀ xs : List D, toPs xs = xs.map toP
  | [] => rfl
  | x :: xs => by simp only [toPs, List.map_cons, toPs_map xs]
section
variable {K : PySem.W.Frag} {Q : Cls} {F H : Hp} {as : List Addr}
theorem strOk_of {s : List Nat} (h : ∀ c ∈ s, c < 1114112) : PyData.canLay0 (.str (toS s)) = true := by
  simp only [PyData.canLay0, PyData.strOk, toS]
  rw [Array.all_eq_true']
  intro c hc
  exact decide_eq_true (h c (by simpa using hc))
theorem dp_of : ∀ (n : Nat) (d : D) (v : V), plN n d = true → Rep K Q F as d v → Le F H → Dp K H v (toP d) ∧ (toP d).canLay0 = true ∧ (toP d).depth ≤ n := by
  intro n
  induction n with
  | zero =>
    intro d v hp hr l
    cases d <;> simp only [plN, Bool.false_eq_true] at hp <;> simp only [Rep] at hr <;> simp only [toP]
    · subst hr; exact ⟨.non, rfl, Nat.le_refl _⟩
    · subst hr; exact ⟨.bl _, rfl, Nat.le_refl _⟩
    · subst hr; exact ⟨.int _, rfl, Nat.le_refl _⟩
    · obtain ⟨rfl, hs⟩ := hr; exact ⟨.str _, strOk_of hs, Nat.le_refl _⟩
  | succ n ih =>
    have items : ∀ (ds : List D) (xs : List V), ds.all (plN n) = true → RepL K Q F as ds xs → Le F H → DpAll K H xs (toPs ds) ∧ PyData.canLayAll0 (toPs ds) = true ∧ PyData.depthAll (toPs ds) ≤ n := by
      intro ds
      induction ds with
      | nil =>
        intro xs _ hr _
        simp only [RepL] at hr
        subst hr
        exact ⟨.nil, rfl, Nat.zero_le _⟩
      | cons d ds ihd =>
        intro xs hp hr l
        simp only [RepL] at hr
        obtain ⟨v, vs, rfl, r, rs⟩ := hr
        rw [List.all_cons, Bool.and_eq_true] at hp
        obtain ⟨h1, h2, h3⟩ := ih d v hp.1 r l
        obtain ⟨g1, g2, g3⟩ := ihd vs hp.2 rs l
        simp only [toPs]
        exact ⟨.cons h1 g1, by simp only [PyData.canLayAll0, h2, g2, Bool.and_self], by simp only [PyData.depthAll]; omega⟩
    intro d v hp hr l
    cases d <;> simp only [plN, Bool.false_eq_true] at hp <;> simp only [Rep] at hr <;> simp only [toP]
    · subst hr; exact ⟨.non, rfl, Nat.zero_le _⟩
    · subst hr; exact ⟨.bl _, rfl, Nat.zero_le _⟩
    · subst hr; exact ⟨.int _, rfl, Nat.zero_le _⟩
    · obtain ⟨rfl, hs⟩ := hr; exact ⟨.str _, strOk_of hs, Nat.zero_le _⟩
    · obtain ⟨a, xs, rfl, q, r⟩ := hr
      obtain ⟨h1, h2, h3⟩ := items _ _ hp r l
      exact ⟨.tup (l.sqT q) h1, by simp only [PyData.canLay0]; exact h2, by simp only [PyData.depth]; omega⟩
    · obtain ⟨a, xs, rfl, q, r⟩ := hr
      obtain ⟨h1, h2, h3⟩ := items _ _ hp r l
      exact ⟨.lst (.inl (.inl (l _ _ q))) h1, by simp only [PyData.canLay0]; exact h2, by simp only [PyData.depth]; omega⟩
theorem dps_of {n : Nat} : ∀ {ds : List D} {xs : List V}, ds.all (plN n) = true → RepL K Q F as ds xs → Le F H → DpAll K H xs (toPs ds) ∧ PyData.canLayAll0 (toPs ds) = true ∧ PyData.depthAll (toPs ds) ≤ n
  | [], xs, _, hr, _ => by
    simp only [RepL] at hr
    subst hr
    exact ⟨.nil, rfl, Nat.zero_le _⟩
  | d :: ds, xs, hp, hr, l => by
    simp only [RepL] at hr
    obtain ⟨v, vs, rfl, r, rs⟩ := hr
    rw [List.all_cons, Bool.and_eq_true] at hp
    obtain ⟨h1, h2, h3⟩ := dp_of n d v hp.1 r l
    obtain ⟨g1, g2, g3⟩ := dps_of hp.2 rs l
    simp only [toPs]
    exact ⟨.cons h1 g1, by simp only [PyData.canLayAll0, h2, g2, Bool.and_self], by simp only [PyData.depthAll]; omega⟩
theorem dpT_of (n : Nat) (d : D) (v : V) (hp : plN (n + 1) d = true) (hr : Top K Q F as H d v) (l : Le F H) : Dp K H v (toP d) ∧ (toP d).canLay0 = true ∧ (toP d).depth ≤ n + 1 := by
  cases d <;> simp only [plN, Bool.false_eq_true] at hp <;> simp only [Top] at hr
  · exact dp_of (n + 1) .non v rfl hr l
  · exact dp_of (n + 1) (.bl _) v rfl hr l
  · exact dp_of (n + 1) (.int _) v rfl hr l
  · exact dp_of (n + 1) (.str _) v rfl hr l
  · exact dp_of (n + 1) (.tup _) v hp hr l
  · obtain ⟨a, xs, rfl, q, r⟩ := hr
    obtain ⟨h1, h2, h3⟩ := dps_of hp r l
    simp only [toP]
    exact ⟨.lst (.inl (.inl q)) h1, by simp only [PyData.canLay0]; exact h2, by simp only [PyData.depth]; omega⟩
end
theorem eqLs_ok {f : D → D → Option Bool} {p : D → Bool} (hf : ∀ a b r, f a b = some r → p a = true ∧ p b = true ∧ PyData.eqv (toP a) (toP b) = r) :
    ∀ (xs ys : List D) (r : Bool), eqLs f p xs ys = some r → xs.all p = true ∧ ys.all p = true ∧ PyData.eqvAll (toPs xs) (toPs ys) = r
  | [], [], r, h => by cases h; exact ⟨rfl, rfl, rfl⟩
  | [], y :: ys, r, h => by
    have h1 : (if ((y :: ys).all p) = true then some false else none) = some r := h
    split at h1
    · rename_i q; cases h1; exact ⟨rfl, q, rfl⟩
    · cases h1
  | x :: xs, [], r, h => by
    have h1 : (if ((x :: xs).all p) = true then some false else none) = some r := h
    split at h1
    · rename_i q; cases h1; exact ⟨q, rfl, rfl⟩
    · cases h1
  | x :: xs, y :: ys, r, h => by
    have h1 : (match f x y, eqLs f p xs ys with
      | some a, some b => some (a && b)
      | _, _ => none) = some r := h
    cases e1 : f x y with
    | none => rw [e1] at h1; cases h1
    | some a =>
      cases e2 : eqLs f p xs ys with
      | none => rw [e1, e2] at h1; cases h1
      | some b =>
        rw [e1, e2] at h1
        cases h1
        obtain ⟨p1, p2, p3⟩ := hf x y a e1
        obtain ⟨q1, q2, q3⟩ := eqLs_ok hf xs ys b e2
        refine ⟨by rw [List.all_cons, p1, q1]; rfl, by rw [List.all_cons, p2, q2]; rfl, ?_⟩
        simp only [toPs, PyData.eqvAll, p3, q3]
theorem toS_beq (a b : List Nat) : (toS a == toS b) = (a == b) := by
  rw [Bool.eq_iff_iff, beq_iff_eq, beq_iff_eq]
  exact ⟨toS_inj, fun e => by rw [e]⟩
theorem eqN_ok : ∀ (n : Nat) (a b : D) (r : Bool), eqN n a b = some r → plN n a = true ∧ plN n b = true ∧ PyData.eqv (toP a) (toP b) = r := by
  intro n
  induction n with
  | zero =>
    intro a b r h
    cases a <;> cases b <;> simp only [eqN, plN, Bool.and_true, Bool.true_and, Bool.and_false, Bool.false_and, Bool.false_eq_true, if_false, if_true, Option.some.injEq, reduceCtorEq, Bool.and_self] at h <;> subst h <;>
      simp [plN, toP, PyData.eqv, toS_beq]
  | succ n ih =>
    intro a b r h
    cases a <;> cases b <;> simp only [eqN, plN, Bool.and_true, Bool.true_and, Bool.and_false, Bool.false_and, Bool.false_eq_true, if_false, if_true, Option.some.injEq, reduceCtorEq, Bool.and_self] at h
    all_goals first
      | (subst h; simp [plN, toP, PyData.eqv, toS_beq]; done)
      | (obtain ⟨h1, h2, h3⟩ := eqLs_ok ih _ _ _ h; simp only [plN, toP, PyData.eqv]; exact ⟨h1, h2, h3⟩)
      | (simp only [Option.ite_none_right_eq_some, Option.some.injEq, Bool.and_eq_true] at h
         obtain ⟨q, rfl⟩ := h
         simp only [plN, toP, PyData.eqv]
         first | exact ⟨q.1, q.2, trivial⟩ | exact ⟨trivial, q, trivial⟩ | exact ⟨q, trivial, trivial⟩)
theorem shaped_of {d : PyData} {n : Nat} (h1 : d.canLay0 = true) (h2 : d.depth ≤ n) (h3 : n ≤ 64) : SeqAt.shaped d = true := by
  unfold SeqAt.shaped
  rw [h1, decide_eq_true (by omega)]
  rfl

/-! ### a rule of two operands -/
section
variable {K : PySem.W.Frag} {Q : Cls} {T : Tb} {C : CallF} {S : List Nat} {X : Cx} {N : List Str} {sc : Scope} {k : Nat} {e a b : Expr} {ca cb : CE} {pos : Pos}
theorem Gd.units (G : Gd X N sc k) : X.A.units + 70 < cLine := by have := G.room.un; omega
theorem Gd.hu (G : Gd X N sc k) : X.A.units + 1 < cLine := by have := G.room.un; omega
/-- what an operator's rule is asked, by data -/
def OpD (K : PySem.W.Frag) (Q : Cls) (S : List Nat) (f : Wd → D → D → Option D) (r : R2) : Prop :=
  ∀ (B : Bs) (F : Hp) (as : List Addr) (ρ : En) (w : Wd) (σ : L2.St) (H : Hp) (x y : D) (d : D) (u v : V) (Z : VK), SR K Q B S F as ρ w σ H → Top K Q F as H x u → Top K Q F as H y v → f w x y = some d →
    (∀ v F' as' H', Grw F as H F' as' H' → SR K Q B S F' as' ρ w σ H' → Rep K Q F' as' d v → Z v H') → r u v H Z
theorem two_of {f : Wd → D → D → Option D} {r : R2} {c : CE} (ho : OpD X.K Q S f r) (hc : ∀ ρ w, ev T C c ρ w = (ev T C ca ρ w).bind fun x w => (ev T C cb ρ w).bind fun y w => ofO (f w x y) w) :
    ∀ σ H Z, tE X.K Q T C S c σ H Z → tOp r (tO X.K Q T C S ca) (tO X.K Q T C S cb) σ H Z := by
  rintro σ H Z ⟨B, F, as, ρ, w, d, w', sr, he, q⟩
  rw [hc] at he
  obtain ⟨x, w1, h1, he⟩ := R.bind_ok he
  obtain ⟨y, w2, h2, he⟩ := R.bind_ok he
  obtain ⟨hf, e3⟩ := ofO_ok he
  subst e3
  refine ⟨B, F, as, ρ, w, x, w1, sr, h1, fun u F1 as1 H1 g1 r1 o1 => ?_⟩
  refine ⟨B, F1, as1, ρ, w1, y, w', r1, h2, fun v F2 as2 H2 g2 r2 o2 => ?_⟩
  exact ho B F2 as2 ρ w' σ H2 x y d u v Z r2 ((o1.mono g2.fz g2.pr).top r2) (o2.top r2) hf fun v' F' as' H' g r' rv => q v' F' as' H' ((g1.trans g2).trans g) r' rv
theorem Top.int_ {F : Hp} {as : List Addr} {H : Hp} {i : Int} {v : V} (h : Top K Q F as H (.int i) v) : v = .int i := by simpa only [Top, Rep] using h
theorem Top.str_ {F : Hp} {as : List Addr} {H : Hp} {i : List Nat} {v : V} (h : Top K Q F as H (.str i) v) : v = .str (toS i) ∧ ∀ c ∈ i, c < 1114112 := by simpa only [Top, Rep] using h
theorem Top.tup_ {F : Hp} {as : List Addr} {H : Hp} {i : List D} {v : V} (h : Top K Q F as H (.tup i) v) : ∃ a xs, v = .ref a ∧ SqT K F a xs ∧ RepL K Q F as i xs := by simpa only [Top, Rep] using h
theorem Top.lst_ {F : Hp} {as : List Addr} {H : Hp} {i : List D} {v : V} (h : Top K Q F as H (.lst i) v) : ∃ a xs, v = .ref a ∧ H a = some (.lst xs) ∧ RepL K Q F as i xs := by simpa only [Top] using h
theorem bigN_le {n : Nat} (h : n ≤ bigN) : n ≤ sizeLine := by rw [sizeLine_eq]; exact h
theorem bigN_lt {n : Nat} (h : n < bigN) : n < sizeLine := by rw [sizeLine_eq]; exact h

/-- + -/
def rAddA (K : PySem.W.Frag) : R2 := fun x y H Z => rI0 (fun i j => .int (i + j)) x y H Z ∨ (∃ i j, x = .str i ∧ y = .str j ∧ i.length + j.length ≤ sizeLine ∧ Z (.str (i ++ j)) H) ∨ rCatA K x y H Z ∨ rCat x y H Z
theorem op_addA : OpR X (binaryOp .Add) (rAddA X.K) := op_add.or (op_add_str.or (op_catA.or op_cat))
theorem toS_append (a b : List Nat) : toS a ++ toS b = toS (a ++ b) := by
  show Str.append _ _ = _
  simp [Str.append, toS]
theorem opD_add : OpD K Q S (fun _ => binD .add) (rAddA K) := by
  intro B F as ρ w σ H x y d u v Z sr tx ty hf q
  cases x <;> cases y <;> simp only [binD, reduceCtorEq] at hf
  · rw [tx.int_, ty.int_]
    cases hf
    exact .inl ⟨_, _, rfl, rfl, q _ F as H Grw.rfl' sr (by simp only [Rep])⟩
  · obtain ⟨rfl, h1⟩ := tx.str_
    obtain ⟨rfl, h2⟩ := ty.str_
    split at hf
    · rename_i hl
      cases hf
      refine .inr (.inl ⟨_, _, rfl, rfl, by rw [toS_length, toS_length]; exact bigN_le hl, ?_⟩)
      rw [toS_append]
      exact q _ F as H Grw.rfl' sr (by simp only [Rep]; exact ⟨trivial, fun c hc => (List.mem_append.mp hc).elim (h1 c) (h2 c)⟩)
    · cases hf
  · obtain ⟨a, xs, rfl, s1, r1⟩ := tx.tup_
    obtain ⟨b, ys, rfl, s2, r2⟩ := ty.tup_
    split at hf
    · rename_i hl
      cases hf
      have e1 := r1.length
      have e2 := r2.length
      refine .inr (.inr (.inl ⟨a, b, xs, ys, rfl, rfl, sr.sub.sqT s1, sr.sub.sqT s2, by rw [e1, e2]; exact bigN_le hl, fun h => ?_, fun _ h => ?_, fun _ _ p hp => ?_⟩))
      · have z := List.eq_nil_of_length_eq_zero (show _ = 0 by rw [← e1, h]; rfl)
        refine q _ F as H Grw.rfl' sr ?_
        rw [z, List.nil_append]
        simp only [Rep]
        exact ⟨b, ys, rfl, s2, r2⟩
      · have z := List.eq_nil_of_length_eq_zero (show _ = 0 by rw [← e2, h]; rfl)
        refine q _ F as H Grw.rfl' sr ?_
        rw [z, List.append_nil]
        simp only [Rep]
        exact ⟨a, xs, rfl, s1, r1⟩
      · refine q _ (upd F p (.tup (xs ++ ys))) as (upd H p (.tup (xs ++ ys))) (Grw.newF hp (sr.sub.non hp)) (sr.newF hp) ?_
        simp only [Rep]
        exact ⟨p, _, rfl, .inl (.inl upd_same), (r1.append r2).mono (Le.upd (sr.sub.non hp)) Pre.rfl'⟩
    · cases hf
  · obtain ⟨a, xs, rfl, s1, r1⟩ := tx.lst_
    obtain ⟨b, ys, rfl, s2, r2⟩ := ty.lst_
    split at hf
    · rename_i hl
      cases hf
      have e1 := r1.length
      have e2 := r2.length
      refine .inr (.inr (.inr ⟨a, b, xs, ys, rfl, rfl, s1, s2, by rw [e1, e2]; exact bigN_le hl, fun p hp => ?_⟩))
      refine q _ (upd F p (.lst (xs ++ ys))) as (upd H p (.lst (xs ++ ys))) (Grw.newF hp (sr.sub.non hp)) (sr.newF hp) ?_
      simp only [Rep]
      exact ⟨p, _, rfl, upd_same, (r1.append r2).mono (Le.upd (sr.sub.non hp)) Pre.rfl'⟩
    · cases hf
end
end MP

set_option Elab.async false
set_option linter.all false
set_option maxRecDepth 100000
/-! MP5: more operators, comparisons, tests. -/
namespace MP
open PySem PySem.Spec PyProof.Rows L2
section
variable {K : PySem.W.Frag} {Q : Cls} {T : Tb} {C : CallF} {S : List Nat} {X : Cx} {N : List Str} {sc : Scope} {k : Nat} {e a b : Expr} {ca cb : CE} {pos : Pos}
/-- intsO in, under a condition, a value out at once -/
theorem opD_II {f : Wd → D → D → Option D} {Cn : Int → Int → Prop} {g : Int → Int → V} (h : ∀ w x y d, f w x y = some d → ∃ i j, x = .int i ∧ y = .int j ∧ Cn i j ∧ ∀ F as, Rep K Q F as d (g i j)) : OpD K Q S f (rI Cn g) := by
  intro B F as ρ w σ H x y d u v Z sr tx ty hf q
  obtain ⟨i, j, rfl, rfl, hc, hr⟩ := h w x y d hf
  rw [tx.int_, ty.int_]
  exact ⟨i, j, rfl, rfl, hc, q _ F as H Grw.rfl' sr (hr F as)⟩
theorem opD_II0 {f : Wd → D → D → Option D} {g : Int → Int → V} (h : ∀ w x y d, f w x y = some d → ∃ i j, x = .int i ∧ y = .int j ∧ ∀ F as, Rep K Q F as d (g i j)) : OpD K Q S f (rI0 g) := by
  intro B F as ρ w σ H x y d u v Z sr tx ty hf q
  obtain ⟨i, j, rfl, rfl, hr⟩ := h w x y d hf
  rw [tx.int_, ty.int_]
  exact ⟨i, j, rfl, rfl, q _ F as H Grw.rfl' sr (hr F as)⟩
theorem opD_sub : OpD K Q S (fun _ => binD .sub) (rI0 fun i j => .int (i - j)) := opD_II0 fun w x y d h => by
  cases x <;> cases y <;> simp only [binD, reduceCtorEq, Option.some.injEq] at h
  subst h
  exact ⟨_, _, rfl, rfl, fun F as => by simp only [Rep]⟩
/-- tuple * 1: the tuple itself -/
theorem tuple_mul1 (l : Addr) (items : Array Value) (n : Nat) (u : Tok) (dd : Option Addr) (sl : Array (Option Value)) :
    Meets (Builtin.«tuple.__mul__» ⟨[.ref l, .int 1 u], []⟩) (fun _ R s => s.heap.get? l = some { cls := .type "tuple", dict := dd, data := .seq items n, slots := sl } ∧ R (.ok (.ret (Value.ref l))) s) :=
  .of_wp fun prog w A R s h => by
    obtain ⟨hp, g, d, tk, os⟩ := s
    obtain ⟨hl, h⟩ := h
    have f1 := AutoSeq1.idx_int
    wp_walk using wpAny_loadPart' hl
    exact ⟨_, rfl, h⟩
def rRepT1 (K : PySem.W.Frag) : R2 := fun x y H Z => ∃ l xs, x = .ref l ∧ y = .int 1 ∧ SqT K H l xs ∧ Z (.ref l) H
theorem op_repT1 : OpR X (binaryOp .Mult) (rRepT1 X.K) := by
  intro pins s σ H x y v u Z I rx ry h
  obtain ⟨l, xs, rfl, rfl, hT, q⟩ := h
  cases rx
  obtain ⟨t, rfl⟩ := ry
  obtain ⟨its, r, ⟨⟨cls, dd, data, sl⟩, ho, hc, n, hd⟩, hs⟩ := I.tuple hT
  simp only at hc hd
  subst hc hd
  refine wpAny_binaryOp_repeat_ref (T := "tuple") (U := "int") (by decide) ⟨_, ho, rfl⟩ (fun s' => typeIs_int s' 1 t) noFill_tuple_mul F.fills_int_mul F.slot_int_rmul repeat_tuple F.slot_int_index.lookup
    (call_meets F.slot_int_rmul (typeIs_int s 1 t) F.entry_int_rmul (F.args_int_rmul_2 _ _) (int_rmul_tuple 1 t l its.toArray n dd sl)
      ⟨ho, rfl, ⟨_, ho, rfl⟩, call_meets F.slot_tuple_mul ⟨_, ho, rfl⟩ F.entry_tuple_mul (F.args_tuple_mul_2 _ _) (tuple_mul1 l its.toArray n t dd sl) ⟨ho, ?_⟩⟩)
  exact ⟨.ref l, H, I, rfl, q⟩
def rMulA (K : PySem.W.Frag) : R2 := fun x y H Z => rI CMul (fun i j => .int (i * j)) x y H Z ∨ rRepT K x y H Z ∨ rRepT1 K x y H Z
theorem op_mulA : OpR X (binaryOp .Mult) (rMulA X.K) := op_mul.or (op_repT.or op_repT1)
theorem repL_rep {F : Hp} {as : List Addr} {ds : List D} {xs : List V} (h : RepL K Q F as ds xs) : ∀ n : Nat, RepL K Q F as (List.replicate n ds).flatten (List.replicate n xs).flatten
  | 0 => .nil
  | n + 1 => by
    rw [List.replicate_succ, List.replicate_succ, List.flatten_cons, List.flatten_cons]
    exact h.append (repL_rep h n)
theorem opD_mul : OpD K Q S (fun _ => binD .mul) (rMulA K) := by
  intro B F as ρ w σ H x y d u v Z sr tx ty hf q
  cases x <;> cases y <;> simp only [binD, reduceCtorEq, Option.ite_none_right_eq_some, Option.some.injEq] at hf
  · obtain ⟨h, rfl⟩ := hf
    rw [tx.int_, ty.int_]
    refine .inl ⟨_, _, rfl, rfl, by simpa [smallI, CMul] using h, q _ F as H Grw.rfl' sr (by simp only [Rep])⟩
  · obtain ⟨⟨h0, h1, h2, h3⟩, rfl⟩ := hf
    obtain ⟨a, xs, rfl, s1, r1⟩ := tx.tup_
    rename_i ds i
    rw [ty.int_]
    have e1 := r1.length
    by_cases hi : i = 1
    · subst hi
      refine .inr (.inr ⟨a, xs, rfl, rfl, sr.sub.sqT s1, q _ F as H Grw.rfl' sr ?_⟩)
      simp only [Rep]
      refine ⟨a, xs, rfl, s1, ?_⟩
      simpa using r1
    · refine .inr (.inl ⟨a, i, xs, rfl, rfl, sr.sub.sqT s1, fun z => h0 ?_, by omega, by omega, by omega, fun p hp => ?_⟩)
      · subst z
        exact List.eq_nil_of_length_eq_zero (by simpa using e1.symm)
      · refine q _ (upd F p (.tup (List.replicate i.toNat xs).flatten)) as (upd H p (.tup (List.replicate i.toNat xs).flatten)) (Grw.newF hp (sr.sub.non hp)) (sr.newF hp) ?_
        simp only [Rep]
        exact ⟨p, _, rfl, .inl (.inl upd_same), (repL_rep r1 _).mono (Le.upd (sr.sub.non hp)) Pre.rfl'⟩
theorem opD_fdiv : OpD K Q S (fun _ => binD .fdiv) (rI CDiv fun i j => .int (i / j)) := opD_II fun w x y d h => by
  cases x <;> cases y <;> simp only [binD, reduceCtorEq, Option.ite_none_right_eq_some, Option.some.injEq] at h
  obtain ⟨h, rfl⟩ := h
  exact ⟨_, _, rfl, rfl, h, fun F as => by simp only [Rep]⟩
theorem opD_mod : OpD K Q S (fun _ => binD .mod) (rI (fun _ j => 0 < j) fun i j => .int (i % j)) := opD_II fun w x y d h => by
  cases x <;> cases y <;> simp only [binD, reduceCtorEq, Option.ite_none_right_eq_some, Option.some.injEq] at h
  obtain ⟨h, rfl⟩ := h
  exact ⟨_, _, rfl, rfl, h, fun F as => by simp only [Rep]⟩
/-- ** of intsO, the base below 2 ^ 4096 -/
def CPowX (i j : Int) : Prop := (0 ≤ j ∧ j ≤ 8 ∧ i.natAbs < 2 ^ 4096) ∨ CPow i j
theorem bits_lt {i : Int} {n : Nat} (h : i.natAbs < 2 ^ n) : Builtin.Int.intBits i ≤ n := by
  unfold Builtin.Int.intBits
  by_cases h0 : i = 0
  · subst h0; exact Nat.zero_le _
  · have e : (i == 0) = false := beq_eq_false_iff_ne.mpr h0
    rw [e]
    have : i.natAbs.log2 < n := (Nat.log2_lt (by omega)).mpr h
    exact this
theorem op_powX : OpR X (binaryOp .Pow) (rI CPowX fun i j => .int (i ^ j.toNat)) := opI fun i j _ _ _ _ _ hc q => by
  rcases hc with ⟨h1, h2, h3⟩ | h
  · refine pow_int h1 ?_ q
    have hb : (Builtin.Int.intBits i : Int) ≤ 4096 := by exact_mod_cast bits_lt h3
    have h0 : (0 : Int) ≤ (Builtin.Int.intBits i : Int) := Int.natCast_nonneg _
    have : (Builtin.Int.intBits i : Int) * j ≤ 4096 * 8 := Int.mul_le_mul hb h2 h1 (by omega)
    omega
  · exact pow_int_small h.1 h.2.1 h.2.2 q
theorem opD_pow : OpD K Q S (fun _ => binD .pow) (rI CPowX fun i j => .int (i ^ j.toNat)) := opD_II fun w x y d h => by
  cases x <;> cases y <;> simp only [binD, reduceCtorEq] at h
  split at h
  · rename_i hc
    cases h
    exact ⟨_, _, rfl, rfl, .inl hc, fun F as => by simp only [Rep]⟩
  · split at h
    · rename_i hc
      cases h
      exact ⟨_, _, rfl, rfl, .inr hc, fun F as => by simp only [Rep]⟩
    · cases h
theorem opD_shl : OpD K Q S (fun _ => binD .shl) (rI CPow fun i j => .int (i * 2 ^ j.toNat)) := opD_II fun w x y d h => by
  cases x <;> cases y <;> simp only [binD, reduceCtorEq, Option.ite_none_right_eq_some, Option.some.injEq] at h
  obtain ⟨h, rfl⟩ := h
  exact ⟨_, _, rfl, rfl, h, fun F as => by simp only [Rep]⟩
/-- which operators -/
def bopOk : Bop → Operator → Bool
  | .add, .Add => true
  | .sub, .Sub => true
  | .mul, .Mult => true
  | .fdiv, .FloorDiv => true
  | .mod, .Mod => true
  | .pow, .Pow => true
  | .shl, .LShift => true
  | _, _ => false
theorem snd_bin {o : Bop} {op : Operator} (h : bopOk o op = true) (ha : PE X a (tO X.K Q T C S ca)) (hb : PE X b (tO X.K Q T C S cb)) : PE X (.BinOp a op b pos) (tE X.K Q T C S (.bin o ca cb)) := by
  cases o <;> cases op <;> try (simp only [bopOk] at h; exact absurd h Bool.false_ne_true)
  · exact (pe_op op_addA ha hb).imp (two_of opD_add fun _ _ => rfl)
  · exact (pe_op op_sub ha hb).imp (two_of opD_sub fun _ _ => rfl)
  · exact (pe_op op_mulA ha hb).imp (two_of opD_mul fun _ _ => rfl)
  · exact (pe_op op_fdiv ha hb).imp (two_of opD_fdiv fun _ _ => rfl)
  · exact (pe_op op_mod ha hb).imp (two_of opD_mod fun _ _ => rfl)
  · exact (pe_op op_powX ha hb).imp (two_of opD_pow fun _ _ => rfl)
  · exact (pe_op op_shl ha hb).imp (two_of opD_shl fun _ _ => rfl)

/-! ### comparisons -/
theorem Top.toD {F : Hp} {as : List Addr} {H : Hp} {B : Bs} {ρ : En} {w : Wd} {σ : L2.St} {d : D} {v : V} (h : Top K Q F as H d v) (sr : SR K Q B S F as ρ w σ H) : Top K Q F as H (deref w d) v := by
  cases d with
  | obj n =>
    have h1 : ∃ a, as[n]? = some a ∧ v = .ref a := by simpa only [Top, Rep] using h
    obtain ⟨a, ha, rfl⟩ := h1
    have hn : n < w.length := by
      rw [← sr.wld.len]
      exact (List.getElem?_eq_some_iff.mp ha).1
    obtain ⟨f, o, ho, hr⟩ := sr.wld.at_ n w[n] a (by simp [hn]) ha
    have e : deref w (.obj n) = w[n] := by simp [deref, List.getD_eq_getElem?_getD, hn]
    rw [e]
    generalize w[n] = d at hr
    cases d <;> simp only [ORep] at hr <;> simp only [Top]
    · obtain ⟨xs, rfl, z⟩ := hr
      exact ⟨a, xs, rfl, ho, z⟩
    · obtain ⟨kvs, rfl, z1, z2⟩ := hr
      exact ⟨a, kvs, rfl, .inl ho, z1, z2⟩
    · obtain ⟨dx, nfs, rfl, z1, z2⟩ := hr
      exact ⟨a, dx, nfs, rfl, ho, z1, z2⟩
  | _ => exact h
/-- a truth value comes out at once -/
theorem OpD.bool {f : Wd → D → D → Option D} {r : R2} (h : ∀ (F : Hp) (as : List Addr) (w : Wd) (H : Hp) (x y d : D) (u v : V) (Z : VK), (∀ d u, Top K Q F as H d u → Top K Q F as H (deref w d) u) → Le F H → Top K Q F as H x u → Top K Q F as H y v → f w x y = some d → (∀ bb, d = .bl bb → Z (.bl bb) H) → r u v H Z) : OpD K Q S f r := by
  intro B F as ρ w σ H x y d u v Z sr tx ty hf q
  refine h F as w H x y d u v Z (fun d u t => t.toD sr) sr.sub tx ty hf fun bb e => ?_
  subst e
  exact q _ F as H Grw.rfl' sr (by simp only [Rep])
def cD (o : Cop) : Wd → D → D → Option D := fun w x y => (cmpD w o x y).map .bl
theorem eqD_dp {F : Hp} {as : List Addr} {H : Hp} {x y : D} {u v : V} {r : Bool} (hx : Top K Q F as H x u) (hy : Top K Q F as H y v) (l : Le F H) (h : eqD x y = some r) :
    ∃ d e, Dp K H u d ∧ Dp K H v e ∧ SeqAt.shaped d = true ∧ SeqAt.shaped e = true ∧ PyData.eqv d e = r := by
  obtain ⟨p1, p2, p3⟩ := eqN_ok 12 x y r h
  obtain ⟨a1, a2, a3⟩ := dpT_of 11 x u p1 hx l
  obtain ⟨b1, b2, b3⟩ := dpT_of 11 y v p2 hy l
  exact ⟨_, _, a1, b1, shaped_of a2 a3 (by decide), shaped_of b2 b3 (by decide), p3⟩
theorem opD_eq : OpD K Q S (cD .eq) (rEqD K) := .bool fun F as w H x y d u v Z dr l tx ty hf q => by
  obtain ⟨r, hr, rfl⟩ := Option.map_eq_some_iff.mp hf
  obtain ⟨d, e, h1, h2, h3, h4, h5⟩ := eqD_dp tx ty l hr
  exact ⟨d, e, h1, h2, h3, h4, by rw [h5]; exact q r rfl⟩
theorem opD_ne : OpD K Q S (cD .ne) (rNeD K) := .bool fun F as w H x y d u v Z dr l tx ty hf q => by
  obtain ⟨r, hr, rfl⟩ := Option.map_eq_some_iff.mp hf
  obtain ⟨r', hr', rfl⟩ := Option.map_eq_some_iff.mp (show (eqD x y).map (!·) = some r from hr)
  obtain ⟨d, e, h1, h2, h3, h4, h5⟩ := eqD_dp tx ty l hr'
  exact ⟨d, e, h1, h2, h3, h4, by rw [h5]; exact q _ rfl⟩
theorem ltStr_eq : ∀ a b : List Nat, ltStr a b = decide (a < b)
  | a, [] => by cases a <;> simp [ltStr]
  | [], b :: bs => by simp [ltStr]
  | a :: as, b :: bs => by
    simp only [ltStr, ltStr_eq as bs]
    rw [Bool.eq_iff_iff]
    simp [List.cons_lt_cons_iff]
theorem repL_ints0 {F : Hp} {as : List Addr} : ∀ {ds : List D} {is : List Int} {xs : List V}, RepL K Q F as ds xs → MP.intsO ds = some is → xs = is.map V.int
  | [], is, xs, h, e => by
    simp only [RepL] at h
    cases e
    exact h
  | d :: ds, is, xs, h, e => by
    simp only [RepL] at h
    obtain ⟨v, vs, rfl, r, rs⟩ := h
    cases d <;> simp only [MP.intsO, reduceCtorEq] at e
    obtain ⟨is', e', rfl⟩ := Option.map_eq_some_iff.mp e
    simp only [Rep] at r
    rw [repL_ints0 rs e', r]
    rfl
theorem ltI_eq : ∀ a b : List Int, ltI a b = HT.lexLt a b
  | [], [] => rfl
  | [], _ :: _ => rfl
  | _ :: _, [] => rfl
  | x :: xs, y :: ys => by
    rw [HT.lexLt_cons, ← ltI_eq xs ys]
    rfl
def rLt (K : PySem.W.Frag) : R2 := fun x y H Z => rI0 (fun i j => .bl (decide (i < j))) x y H Z ∨ (∃ i j, x = .str i ∧ y = .str j ∧ Z (.bl (decide (i.cps.toList < j.cps.toList))) H) ∨ rLtT K x y H Z
theorem opD_lt : OpD K Q S (cD .lt) (rLt K) := .bool fun F as w H x y d u v Z dr l tx ty hf q => by
  obtain ⟨r, hr, rfl⟩ := Option.map_eq_some_iff.mp hf
  cases x <;> cases y <;> simp only [cmpD, reduceCtorEq, Option.some.injEq] at hr
  · subst hr
    rw [tx.int_, ty.int_]
    exact .inl ⟨_, _, rfl, rfl, q _ rfl⟩
  · subst hr
    rw [tx.str_.1, ty.str_.1]
    refine .inr (.inl ⟨_, _, rfl, rfl, ?_⟩)
    rw [toS_toList, toS_toList, ← ltStr_eq]
    exact q _ rfl
  · rename_i xs ys
    obtain ⟨a, us, rfl, s1, r1⟩ := tx.tup_
    obtain ⟨b, vs, rfl, s2, r2⟩ := ty.tup_
    unfold ltT at hr
    split at hr
    · rename_i e1 e2
      cases hr
      have z1 := repL_ints0 r1 e1
      have z2 := repL_ints0 r2 e2
      subst z1 z2
      exact .inr (.inr ⟨a, b, _, _, rfl, rfl, l.sqT s1, l.sqT s2, by rw [← ltI_eq]; exact q _ rfl⟩)
    · cases hr
theorem opD_le : OpD K Q S (cD .le) (rI0 fun i j => .bl (decide (i ≤ j))) := .bool fun F as w H x y d u v Z dr l tx ty hf q => by
  obtain ⟨r, hr, rfl⟩ := Option.map_eq_some_iff.mp hf
  cases x <;> cases y <;> simp only [cmpD, reduceCtorEq, Option.some.injEq] at hr
  subst hr
  rw [tx.int_, ty.int_]
  exact ⟨_, _, rfl, rfl, q _ rfl⟩
theorem opD_gt : OpD K Q S (cD .gt) (rI0 fun i j => .bl (decide (j < i))) := .bool fun F as w H x y d u v Z dr l tx ty hf q => by
  obtain ⟨r, hr, rfl⟩ := Option.map_eq_some_iff.mp hf
  cases x <;> cases y <;> simp only [cmpD, reduceCtorEq, Option.some.injEq] at hr
  subst hr
  rw [tx.int_, ty.int_]
  exact ⟨_, _, rfl, rfl, q _ rfl⟩
theorem opD_ge : OpD K Q S (cD .ge) (rI0 fun i j => .bl (decide (j ≤ i))) := .bool fun F as w H x y d u v Z dr l tx ty hf q => by
  obtain ⟨r, hr, rfl⟩ := Option.map_eq_some_iff.mp hf
  cases x <;> cases y <;> simp only [cmpD, reduceCtorEq, Option.some.injEq] at hr
  subst hr
  rw [tx.int_, ty.int_]
  exact ⟨_, _, rfl, rfl, q _ rfl⟩
theorem Top.none_iff {F : Hp} {as : List Addr} {H : Hp} {x : D} {u : V} (h : Top K Q F as H x u) (he : ∀ n, x ≠ .ext n) : decide (u = V.non) = (match x with | .non => true | _ => false) := by
  cases x <;> simp only [Top, Rep] at h
  · subst h; rfl
  · subst h; rfl
  · subst h; rfl
  · obtain ⟨rfl, _⟩ := h; rfl
  · obtain ⟨a, xs, rfl, _⟩ := h; rfl
  · obtain ⟨a, xs, rfl, _⟩ := h; rfl
  · obtain ⟨a, xs, rfl, _⟩ := h; rfl
  · obtain ⟨a, dx, xs, rfl, _⟩ := h; rfl
  · obtain ⟨a, _, rfl⟩ := h; rfl
  · exact absurd rfl (he _)
theorem opD_is : OpD K Q S (cD .is) (fun x y H Z => (y = .non ∧ Z (.bl (decide (x = .non))) H) ∨ rIsB x y H Z) := .bool fun F as w H x y d u v Z dr l tx ty hf q => by
  obtain ⟨r, hr, rfl⟩ := Option.map_eq_some_iff.mp hf
  by_cases hb : ∃ a b, x = .bl a ∧ y = .bl b
  · obtain ⟨a, b, rfl, rfl⟩ := hb
    cases (show some (decide (a = b)) = some r from hr)
    exact .inr ⟨a, b, by simpa only [Top, Rep] using tx, by simpa only [Top, Rep] using ty, q _ rfl⟩
  refine .inl ?_
  cases y <;> cases x <;> first | exact absurd ⟨_, _, rfl, rfl⟩ hb | (simp only [cmpD, reduceCtorEq, Option.some.injEq] at hr <;> subst hr <;> refine ⟨by simpa only [Top, Rep] using ty, ?_⟩ <;> rw [tx.none_iff (fun _ z => nomatch z)] <;> exact q _ rfl)
theorem opD_isnot : OpD K Q S (cD .isnot) (fun x y H Z => (y = .non ∧ Z (.bl (!decide (x = .non))) H) ∨ rNotB x y H Z) := .bool fun F as w H x y d u v Z dr l tx ty hf q => by
  obtain ⟨r, hr, rfl⟩ := Option.map_eq_some_iff.mp hf
  by_cases hb : ∃ a b, x = .bl a ∧ y = .bl b
  · obtain ⟨a, b, rfl, rfl⟩ := hb
    cases (show some (!decide (a = b)) = some r from hr)
    exact .inr ⟨a, b, by simpa only [Top, Rep] using tx, by simpa only [Top, Rep] using ty, q _ rfl⟩
  refine .inl ?_
  cases y <;> cases x <;> first | exact absurd ⟨_, _, rfl, rfl⟩ hb | (simp only [cmpD, reduceCtorEq, Option.some.injEq] at hr <;> subst hr <;> refine ⟨by simpa only [Top, Rep] using ty, ?_⟩ <;> rw [tx.none_iff (fun _ z => nomatch z)] <;> exact q _ rfl)

/-! ### in -/
theorem anyO_ok {α : Type} {f : α → Option Bool} {g : α → Bool} {xs : List α} : ∀ {r : Bool}, anyO f xs = some r → (∀ x ∈ xs, ∀ b, f x = some b → g x = b) → (∀ x ∈ xs, ∃ b, f x = some b) ∧ xs.any g = r := by
  induction xs with
  | nil => intro r h _; cases h; exact ⟨fun _ z => (nomatch z), rfl⟩
  | cons x xs ih =>
    intro r h hg
    have h1 : (match f x, anyO f xs with
      | some a, some b => some (a || b)
      | _, _ => none) = some r := h
    cases e1 : f x with
    | none => rw [e1] at h1; cases h1
    | some a =>
      cases e2 : anyO f xs with
      | none => rw [e1, e2] at h1; cases h1
      | some b =>
        rw [e1, e2] at h1
        cases h1
        obtain ⟨p1, p2⟩ := ih e2 fun y hy => hg y (List.mem_cons_of_mem _ hy)
        refine ⟨fun y hy => ?_, ?_⟩
        · rcases List.mem_cons.mp hy with rfl | hy
          · exact ⟨a, e1⟩
          · exact p1 y hy
        · rw [List.any_cons, p2, hg x List.mem_cons_self a e1]
theorem any_map {α β : Type} (f : α → β) (p : β → Bool) (xs : List α) : (xs.map f).any p = xs.any fun x => p (f x) := by
  induction xs with
  | nil => rfl
  | cons x xs ih => rw [List.map_cons, List.any_cons, List.any_cons, ih]
/-- x in a list, in a tuple, of plain data -/
def rInS (K : PySem.W.Frag) (neg : Bool) : R2 := fun x y H Z => ∃ d ds, Dp K H x d ∧ (Dp K H y (.list ds) ∨ Dp K H y (.tuple ds)) ∧ d.canLay0 = true ∧ d.depth ≤ 64 ∧ PyData.canLayAll0 ds = true ∧ Z (.bl (if neg then !(ds.any fun z => PyData.eqv z d) else ds.any fun z => PyData.eqv z d)) H
theorem room_in {A : Around} {xs : List PyData} {d : PyData} (hd : d.depth ≤ 64) (hu : A.units + 65 < cLine) : A.units + 1 + min (PyData.depthAll xs) d.depth < cLine := by
  have := Nat.min_le_right (PyData.depthAll xs) d.depth
  omega
theorem op_inS (hu : X.A.units + 65 < cLine) : OpR X (compareOp .In) (rInS X.K false) := by
  intro pins s σ H x y v u Z I rx ry h
  obtain ⟨d, ds, hd, he, c1, c2, c3, q⟩ := h
  obtain ⟨as, r1⟩ := Dp.reads I d x v hd rx
  rcases he with he | he
  · obtain ⟨bs, r2⟩ := Dp.reads I _ y u he ry
    exact SeqAt.in_list_reads r2 r1 c3 c1 (room_in c2 hu) ⟨.bl _, H, I, rfl, q⟩
  · obtain ⟨bs, r2⟩ := Dp.reads I _ y u he ry
    exact SeqAt.in_tuple_reads r2 r1 c3 c1 (room_in c2 hu) ⟨.bl _, H, I, rfl, q⟩
theorem op_notinS (hu : X.A.units + 65 < cLine) : OpR X (compareOp .NotIn) (rInS X.K true) := by
  intro pins s σ H x y v u Z I rx ry h
  obtain ⟨d, ds, hd, he, c1, c2, c3, q⟩ := h
  obtain ⟨as, r1⟩ := Dp.reads I d x v hd rx
  rcases he with he | he
  · obtain ⟨bs, r2⟩ := Dp.reads I _ y u he ry
    exact SeqAt.notIn_list_reads r2 r1 c3 c1 (room_in c2 hu) ⟨.bl _, H, I, rfl, q⟩
  · obtain ⟨bs, r2⟩ := Dp.reads I _ y u he ry
    exact SeqAt.notIn_tuple_reads r2 r1 c3 c1 (room_in c2 hu) ⟨.bl _, H, I, rfl, q⟩
theorem op_inD (hu : X.A.units + 1 < cLine) : OpR X (compareOp .In) (fun x y H Z => ∃ a o, y = .ref a ∧ DGet H a x o ∧ Z (.bl o.isSome) H) := by
  intro pins s σ H x y v u Z I rx ry h
  obtain ⟨a, o, rfl, g, q⟩ := h
  cases ry
  exact d_in hu I g rx fun s' I' => ⟨.bl _, H, I', rfl, q⟩
theorem op_notinD (hu : X.A.units + 1 < cLine) : OpR X (compareOp .NotIn) (fun x y H Z => ∃ a o, y = .ref a ∧ DGet H a x o ∧ Z (.bl (!o.isSome)) H) := by
  intro pins s σ H x y v u Z I rx ry h
  obtain ⟨a, o, rfl, g, q⟩ := h
  cases ry
  exact d_notIn hu I g rx fun s' I' => ⟨.bl _, H, I', rfl, q⟩

theorem key_of {x : D} (h : keyB x = true) : ∃ k, keyO x = some k := by
  cases x <;> first | exact ⟨_, rfl⟩ | cases h
theorem key_eq {z x : D} {k' k : Key} (h1 : keyO z = some k') (h2 : keyO x = some k) : eqD z x = some (decide (k' = k)) := by
  cases z <;> simp only [keyO, reduceCtorEq, Option.some.injEq] at h1 <;> cases x <;> simp only [keyO, reduceCtorEq, Option.some.injEq] at h2 <;> subst h1 <;> subst h2
  · rename_i a b
    show some (a == b) = _
    rw [key_ll]
  · show some false = _
    rw [key_lr]
  · show some false = _
    rw [key_rl]
  · rename_i a b
    show some (a == b) = _
    rw [key_rr, ← toS_beq]
    rfl
theorem rep_key {F : Hp} {as : List Addr} {H : Hp} {x : D} {u : V} {k : Key} (t : Top K Q F as H x u) (h : keyO x = some k) : u = kV k := by
  cases x <;> simp only [keyO, reduceCtorEq, Option.some.injEq] at h <;> subst h
  · exact t.int_
  · exact t.str_.1
theorem any_keys {x : D} {k : Key} (hx : keyO x = some k) : ∀ {ks : List D} {kvs : List (Key × V)}, ks.map keyO = kvs.map (fun p => some p.1) → anyO (fun z => eqD z x) ks = some (valV kvs k).isSome
  | [], [], _ => rfl
  | [], _ :: _, h => by simp at h
  | _ :: _, [], h => by simp at h
  | z :: ks, p :: kvs, h => by
    rw [List.map_cons, List.map_cons] at h
    injection h with h1 h2
    have ih := any_keys hx h2
    show (match eqD z x, anyO (fun z => eqD z x) ks with
      | some a, some b => some (a || b)
      | _, _ => none) = _
    rw [key_eq h1 hx, ih]
    by_cases e : p.1 = k
    · rw [valV_pos e]; simp [e]
    · rw [valV_neg e]; simp [e]
theorem Top.dct_ {F : Hp} {as : List Addr} {H : Hp} {ks vs : List D} {v : V} (h : Top K Q F as H (.dct ks vs) v) : ∃ a kvs, v = .ref a ∧ Rd H a (.dK kvs) ∧ ks.map keyO = kvs.map (fun p => some p.1) ∧ RepL K Q F as vs (kvs.map (·.2)) := by simpa only [Top] using h
theorem DGet.rd {H : Hp} {a : Addr} {kvs : List (Key × V)} {k : Key} (e : Rd H a (.dK kvs)) : DGet H a (kV k) (valV kvs k) := .inl ⟨kvs, k, e, rfl, rfl⟩
theorem dpN_of {F : Hp} {as : List Addr} {H : Hp} {x : D} {u : V} (h : plN 12 x = true) (hx : Top K Q F as H x u) (l : Le F H) : Dp K H u (toP x) ∧ (toP x).canLay0 = true ∧ (toP x).depth ≤ 64 := by
  obtain ⟨a1, a2, a3⟩ := dpT_of 11 x u h hx l
  exact ⟨a1, a2, by omega⟩
theorem in_seq {F : Hp} {as : List Addr} {H : Hp} {x : D} {ys : List D} {u : V} {r : Bool} {vs : List V} (hx : Top K Q F as H x u) (l : Le F H) (ry : RepL K Q F as ys vs) (h : anyO (fun z => eqD z x) ys = some r) (h0 : plN 12 x = true) :
    Dp K H u (toP x) ∧ DpAll K H vs (toPs ys) ∧ (toP x).canLay0 = true ∧ (toP x).depth ≤ 64 ∧ PyData.canLayAll0 (toPs ys) = true ∧ (toPs ys).any (fun z => PyData.eqv z (toP x)) = r := by
  obtain ⟨p1, p2⟩ := anyO_ok (g := fun z => PyData.eqv (toP z) (toP x)) h fun z hz b hb => (eqN_ok 12 z x b hb).2.2
  obtain ⟨a1, a2, a3⟩ := dpN_of h0 hx l
  have hall : ys.all (plN 12) = true := by
    rw [List.all_eq_true]
    intro z hz
    obtain ⟨b, hb⟩ := p1 z hz
    exact (eqN_ok 12 z x b hb).1
  obtain ⟨b1, b2, b3⟩ := dps_of hall ry l
  refine ⟨a1, b1, a2, a3, b2, ?_⟩
  rw [toPs_map, any_map]
  exact p2
def rIn3 (K : PySem.W.Frag) (neg : Bool) : R2 := fun x y H Z => (∃ (c : Nat) (z : Str), x = .str ⟨#[c]⟩ ∧ y = .str z ∧ Z (.bl (if neg then !decide (c ∈ z.cps.toList) else decide (c ∈ z.cps.toList))) H) ∨ rInS K neg x y H Z ∨
  (∃ a o, y = .ref a ∧ DGet H a x o ∧ Z (.bl (if neg then !o.isSome else o.isSome)) H)
theorem isSub_eq (c : Nat) : ∀ s : List Nat, isSub c s = decide (c ∈ s)
  | [] => by simp [isSub]
  | y :: ys => by
    simp only [isSub, isSub_eq c ys]
    rw [Bool.eq_iff_iff]
    simp [List.mem_cons]
def negIf (neg b : Bool) : Bool := if neg then !b else b
theorem inD_ok {w : Wd} {x y : D} {r : Bool} (h : inD w x y = some r) : (∃ c s, x = .str [c] ∧ y = .str s ∧ r = isSub c s) ∨ (∃ ys, plN 12 x = true ∧ (deref w y = .tup ys ∨ deref w y = .lst ys) ∧ anyO (fun z => eqD z x) ys = some r) ∨
    (∃ ks vs, deref w y = .dct ks vs ∧ keyB x = true ∧ anyO (fun z => eqD z x) ks = some r) := by
  have key : inSeq w x y = some r → (∃ ys, plN 12 x = true ∧ (deref w y = .tup ys ∨ deref w y = .lst ys) ∧ anyO (fun z => eqD z x) ys = some r) ∨
    (∃ ks vs, deref w y = .dct ks vs ∧ keyB x = true ∧ anyO (fun z => eqD z x) ks = some r) := by
    intro h
    unfold inSeq at h
    cases e : deref w y <;> rw [e] at h <;> simp only [reduceCtorEq, Option.ite_none_right_eq_some] at h
    · exact .inl ⟨_, h.1, .inl rfl, h.2⟩
    · exact .inl ⟨_, h.1, .inr rfl, h.2⟩
    · exact .inr ⟨_, _, rfl, h.1, h.2⟩
  unfold inD at h
  split at h
  · cases h
    exact .inl ⟨_, _, rfl, rfl, rfl⟩
  · exact .inr (key h)
theorem opD_inx (neg : Bool) {o : Cop} (ho : ∀ w x y r, cmpD w o x y = some r → ∃ r', inD w x y = some r' ∧ r = negIf neg r') : OpD K Q S (cD o) (rIn3 K neg) := .bool fun F as w H x y d u v Z dr l tx ty hf q => by
  obtain ⟨r, hr, rfl⟩ := Option.map_eq_some_iff.mp hf
  obtain ⟨r', hr', rfl⟩ := ho w x y r hr
  rcases inD_ok hr' with ⟨c, s, rfl, rfl, rfl⟩ | ⟨ys, h0, hd, ha⟩ | ⟨ks, vs, hd, hk, ha⟩
  · refine .inl ⟨c, toS s, tx.str_.1, ty.str_.1, ?_⟩
    rw [toS_toList, ← isSub_eq]
    exact q _ rfl
  · have tz := dr _ _ ty
    rcases hd with hd | hd
    · rw [hd] at tz
      obtain ⟨a, xs, rfl, s1, r1⟩ := tz.tup_
      obtain ⟨h1, h2, h3, h4, h5, h6⟩ := in_seq tx l r1 ha h0
      refine .inr (.inl ⟨_, _, h1, .inr (.tup (l.sqT s1) h2), h3, h4, h5, ?_⟩)
      rw [h6]
      exact q _ rfl
    · rw [hd] at tz
      obtain ⟨a, xs, rfl, s1, r1⟩ := tz.lst_
      obtain ⟨h1, h2, h3, h4, h5, h6⟩ := in_seq tx l r1 ha h0
      refine .inr (.inl ⟨_, _, h1, .inl (.lst (.inl (.inl s1)) h2), h3, h4, h5, ?_⟩)
      rw [h6]
      exact q _ rfl
  · have tz := dr _ _ ty
    rw [hd] at tz
    obtain ⟨a, kvs, rfl, h1, h2, h3⟩ := tz.dct_
    obtain ⟨kk, hkk⟩ := key_of hk
    rw [any_keys hkk h2] at ha
    cases ha
    refine .inr (.inr ⟨a, _, rfl, ?_, q _ rfl⟩)
    rw [rep_key tx hkk]
    exact DGet.rd h1
theorem opD_in : OpD K Q S (cD .in_) (rIn3 K false) := opD_inx false fun w x y r h => ⟨r, h, rfl⟩
theorem opD_notin : OpD K Q S (cD .notin) (rIn3 K true) := opD_inx true fun w x y r h => by
  obtain ⟨r', h1, h2⟩ := Option.map_eq_some_iff.mp (show (inD w x y).map (!·) = some r from h)
  exact ⟨r', h1, h2.symm⟩
theorem op_in3 (G : Gd X N sc k) : OpR X (compareOp .In) (rIn3 X.K false) := op_in_sign.or ((op_inS (by have := G.units; omega)).or (op_inD G.hu))
theorem op_notin3 (G : Gd X N sc k) : OpR X (compareOp .NotIn) (rIn3 X.K true) := op_notIn_sign.or ((op_notinS (by have := G.units; omega)).or (op_notinD G.hu))
def copOk : Cop → CmpOp → Bool
  | .eq, .Eq => true
  | .ne, .NotEq => true
  | .lt, .Lt => true
  | .le, .LtE => true
  | .gt, .Gt => true
  | .ge, .GtE => true
  | .is, .Is => true
  | .isnot, .IsNot => true
  | .in_, .In => true
  | .notin, .NotIn => true
  | _, _ => false
/-- a comparison's rule by data -/
theorem cop_rule (G : Gd X N sc k) {o : Cop} {op : CmpOp} (h : copOk o op = true) : ∃ r : R2, OpR X (compareOp op) r ∧ OpD X.K Q S (cD o) r := by
  cases o <;> cases op <;> try (simp only [copOk] at h; exact absurd h Bool.false_ne_true)
  · exact ⟨_, op_eqD (by have := G.units; omega), opD_eq⟩
  · exact ⟨_, op_neD (by have := G.units; omega), opD_ne⟩
  · exact ⟨_, op_lt.or (op_lt_str.or (op_ltT (by have := G.units; omega))), opD_lt⟩
  · exact ⟨_, op_le, opD_le⟩
  · exact ⟨_, op_gt, opD_gt⟩
  · exact ⟨_, op_ge, opD_ge⟩
  · exact ⟨_, op_isN.or op_isBl, opD_is⟩
  · exact ⟨_, op_notN.or op_notBl, opD_isnot⟩
  · exact ⟨_, op_in3 G, opD_in⟩
  · exact ⟨_, op_notin3 G, opD_notin⟩
def noSet : Expr → Bool
  | .Set _ _ _ => false
  | _ => true
theorem marks_of {op : CmpOp} {b : Expr} (h : noSet b = true) : behindInMarks op b = false := by
  cases b <;> first | rfl | cases h
theorem snd_cmp (G : Gd X N sc k) {o : Cop} {op : CmpOp} (h : copOk o op = true) (hb' : noSet b = true) (ha : PE X a (tO X.K Q T C S ca)) (hb : PE X b (tO X.K Q T C S cb)) : PE X (.Compare a [op] [b] pos) (tE X.K Q T C S (.cmp o ca cb)) := by
  obtain ⟨r, h1, h2⟩ := cop_rule (Q := Q) (S := S) G h
  exact (pe_cmpR h1 ha hb (marks_of hb')).imp (two_of h2 fun _ _ => rfl)
theorem tst_of {c : CE} {t : TE} (hi : ∀ σ H Z, tE K Q T C S c σ H Z → t σ H Z) : ∀ σ H Z, tTst K Q T C S c σ H Z → tTest t σ H Z := by
  rintro σ H Z ⟨B, F, as, ρ, w, b, w', sr, he, q⟩
  obtain ⟨d, w1, h1, he⟩ := R.bind_ok (show (ev T C c ρ w).bind boolR = .ok b w' from he)
  obtain ⟨rfl, rfl⟩ := boolR_ok he
  refine hi σ H _ ⟨B, F, as, ρ, w, _, _, sr, h1, fun v F' as' H' g r' rv => ⟨b, by simpa only [Rep] using rv, q F' as' H' g r'⟩⟩
theorem tst_cmp (G : Gd X N sc k) {o : Cop} {op : CmpOp} (h : copOk o op = true) (hb' : noSet b = true) (ha : PE X a (tO X.K Q T C S ca)) (hb : PE X b (tO X.K Q T C S cb)) : PT X (.Compare a [op] [b] pos) (tTst X.K Q T C S (.cmp o ca cb)) := by
  obtain ⟨r, h1, h2⟩ := cop_rule (Q := Q) (S := S) G h
  exact (pt_cmpR h1 ha hb (marks_of hb')).imp (tst_of (two_of h2 fun _ _ => rfl))
/-- an expression whose value is a bool, as a test -/
def plainTest : Expr → Bool
  | .UnaryOp .Not _ _ => false
  | .BoolOp _ _ _ => false
  | .IfExp _ _ _ _ => false
  | .Compare _ _ _ _ => false
  | _ => true
theorem plainTest_ok {e : Expr} {env : Env} (h : plainTest e = true) (whole : Sem Value) : isTrue e env whole = (do let v ← whole; standAt e.pos; holding [v] (truthy v)) := by
  cases e with
  | UnaryOp op x p => cases op <;> first | rfl | cases h
  | _ => first | rfl | cases h
theorem tst_val {c : CE} (hp : plainTest e = true) (h : PE X e (tE X.K Q T C S c)) : PT X e (tTst X.K Q T C S c) := (pt_val h (plainTest_ok hp)).imp fun σ H Z z => tst_of (fun _ _ _ y => y) σ H Z z
theorem tst_not (ha : PT X a (tTst X.K Q T C S ca)) : PT X (.UnaryOp .Not a pos) (tTst X.K Q T C S (.not ca)) := (pt_not ha).imp fun σ H Z ⟨B, F, as, ρ, w, b, w', sr, he, q⟩ => by
  obtain ⟨d, w1, h1, he⟩ := R.bind_ok (show (((ev T C ca ρ w).bind boolR).bind fun b w => R.ok (D.bl (!b)) w).bind boolR = .ok b w' from he)
  obtain ⟨b', w2, h2, h3⟩ := R.bind_ok h1
  cases (show R.ok (D.bl (!b')) w2 = .ok d w1 from h3)
  obtain ⟨e1, rfl⟩ := boolR_ok he
  injection e1 with e1
  subst e1
  exact ⟨B, F, as, ρ, w, b', _, sr, h2, fun F' as' H' g r' => q F' as' H' g r'⟩
theorem snd_not (ha : PT X a (tTst X.K Q T C S ca)) (hp : plainTest a = true) (ha' : PE X a (tE X.K Q T C S ca)) : PE X (.UnaryOp .Not a pos) (tE X.K Q T C S (.not ca)) := (pe_not ha').imp fun σ H Z ⟨B, F, as, ρ, w, d, w', sr, he, q⟩ => by
  obtain ⟨b', w2, h2, h3⟩ := R.bind_ok (show ((ev T C ca ρ w).bind boolR).bind (fun b w => R.ok (D.bl (!b)) w) = .ok d w' from he)
  cases (show R.ok (D.bl (!b')) w2 = .ok d w' from h3)
  obtain ⟨d1, w3, h4, h5⟩ := R.bind_ok h2
  obtain ⟨rfl, rfl⟩ := boolR_ok h5
  exact ⟨B, F, as, ρ, w, _, _, sr, h4, fun v F' as' H' g r' rv => ⟨b', by simpa only [Rep] using rv, q _ F' as' H' g r' (by simp only [Rep])⟩⟩
end
end MP

set_option Elab.async false
set_option linter.all false
set_option maxRecDepth 100000
/-! MP6: calls of defs, methods, classes; fields; what stands around. -/
namespace MP
open PySem PySem.Spec PyProof.Rows L2

/-! ### a def that raises nothing, called where nothing shows itself -/
structure FnG (P : Program) (w : World) (K : PySem.W.Frag) (mg : Str → Option Value) (base : Heap) (k : Nat) (f : Addr) (fd : FuncData) (ps : List Str) (sp : List V → Hp → VK → Prop) : Prop where
  len : ∀ vs H Z, sp vs H Z → vs.length = ps.length
  run : ∀ (A : Around) (outer : List Env) (s : Shared) (H : Hp) (args : Args) (us : List Value) (vs : List V) (Z : VK), Room k A → A.guards = some [] → Env0 P w K mg base A outer s H → BindsTo s fd args (ps.zip us) → Vals vs us → sp vs H Z →
    codeAny (model P w) A (.call (.ref f) args) (CR CX0 outer P w H s Z E0) s
section
variable {X : Cx} {k : Nat} {f c0 : Addr} {fd : FuncData} {ps : List Str} {sp : List V → Hp → VK → Prop} {pins : List (Addr × Obj)} {σ : L2.St} {H : Hp} {s : Shared} {Z : VK} {us : List Value} {vs : List V}
/-- its end, seen by the caller -/
theorem back_of {A : Around} {s0 s' : Shared} {r : Result} {E : Value → Shared → Prop} (I : Inv X pins σ H s0) (h : CR CX0 X.stack X.prog X.w H s0 Z E0 r s') : ∃ u, r = .ok (.ret u) ∧ EP X pins σ Z u s' := by
  cases r with
  | error e => exact False.elim h
  | ok fl =>
    cases fl <;> try exact False.elim h
    exact ⟨_, rfl, I.after h⟩
theorem runG (F : FnG X.prog X.w X.K X.mg X.base k f fd ps sp) (hr : Room k X.A) (hg : X.A.guards = some []) (hb : Binds X.K fd ps []) (I : Inv X pins σ H s) (r : Vals vs us) (h : sp vs H Z) : wpAny (model X.prog X.w) X.A (call (.ref f) us) (EP X pins σ Z) X.xe s := by
  have hl : (us ++ []).length = ps.length := by
    rw [List.append_nil, ← r.length]
    exact F.len vs H Z h
  have hb' := hb s us I.kIn hl
  rw [List.append_nil] at hb'
  refine wpAny_call (codeAny_mono (F.run X.A X.stack s H ⟨us, []⟩ us vs Z hr hg I.env0 hb' r h) fun q s' hq => ?_)
  obtain ⟨u, rfl, e⟩ := back_of (A := X.A) (E := X.xe) I hq
  exact e
theorem guards_make {A : Around} {C : Addr} {us : List Value} (h : A.guards = some []) : (A.under (.builtin "type.__call__" ⟨.ref C :: us, []⟩)).guards = some [] := by
  have e : (Code.builtin "type.__call__" ⟨.ref C :: us, []⟩).guards = [] := by
    unfold Code.guards
    rw [if_neg]
    show ¬ (guardIds.contains "type.__call__" = true)
    decide +kernel
  show pushGuards (Code.builtin "type.__call__" ⟨.ref C :: us, []⟩).guards A.guards = _
  rw [e]
  exact h
theorem makeG (M : Mk X.K c0 f) (F : FnG X.prog X.w X.K X.mg X.base k f fd ps sp) (hr : Room (k + 1) X.A) (hg : X.A.guards = some []) (hb : Binds X.K fd ps []) (I : Inv X pins σ H s) (r : Vals vs us)
    (h : ∀ x dx, H x = none → H dx = none → dx ≠ x → sp (.ref x :: vs) (upd (upd H dx (.own x)) x (.ins c0 dx [])) fun v H2 => v = .non ∧ Z (.ref x) H2) : wpAny (model X.prog X.w) X.A (call (.ref c0) us) (EP X pins σ Z) X.xe s := by
  have new1 : H (s.heap.objs.size + 1) = none := I.hok.fresh (by omega)
  have new0 : H s.heap.objs.size = none := I.hok.fresh (by omega)
  have hq := h (s.heap.objs.size + 1) s.heap.objs.size new1 new0 (Nat.ne_of_lt (Nat.lt_succ_self _))
  have J := Inv.made (C := c0) I
  have r2 : Vals (V.ref (s.heap.objs.size + 1) :: vs) (Value.ref (s.heap.objs.size + 1) :: us) := .cons rfl r
  have hl : (Value.ref (s.heap.objs.size + 1) :: us ++ []).length = ps.length := by
    rw [List.append_nil, ← r2.length]
    exact F.len _ _ _ hq
  have hb' := hb _ (Value.ref (s.heap.objs.size + 1) :: us) J.kIn hl
  rw [List.append_nil] at hb'
  refine wpAny_call (make_map (f := f) I.kIn M.makes M.init (beq_iff_eq.mp M.fn) (codeAny_mono (F.run _ X.stack _ _ _ _ _ _ (hr.make c0 us []) (guards_make hg) (J.env0.make c0 us []) hb' r2 hq) fun q s' hq' => ?_))
  obtain ⟨u, rfl, v, H', J3, rv, ev', q3⟩ := back_of (A := X.A) (E := X.xe) J hq'
  subst ev'
  exact ⟨rv, V.ref (s.heap.objs.size + 1), H', J3, rfl, q3⟩
end
/-! ### promises by data -/
section
variable (K : PySem.W.Frag) (Q : Cls)
/-- the state between defs -/
structure BR (F : Hp) (as : List Addr) (w : Wd) (H : Hp) : Prop where
  sub : Le F H
  wld : WR K Q F as w H
def spG (np : Nat) (g : List D → Wd → R D) : List V → Hp → VK → Prop := fun vs H Z => vs.length = np ∧ ∃ F as ds w d w', BR K Q F as w H ∧ RepL K Q F as ds vs ∧ g ds w = .ok d w' ∧
  ∀ v F' as' H', Grw F as H F' as' H' → BR K Q F' as' w' H' → Rep K Q F' as' d v → Z v H'
/-- the heap without a place -/
def hide (H : Hp) (x : Addr) : Hp := fun a => if a = x then none else H a
/-- an __init__: the new instance stands at the first argument -/
def spI (np : Nat) (c : Nat) (g : List D → Wd → R D) : List V → Hp → VK → Prop := fun vs H Z => vs.length = np ∧ ∃ x dx us F as ds w fs w', vs = .ref x :: us ∧ H x = some (.ins (Q.addr c) dx []) ∧ F x = none ∧ x ∉ as ∧ BR K Q F as w H ∧ RepL K Q F as ds us ∧ g ds w = .ok (.ins c fs) w' ∧
  ∀ F' as' H' o, Grw F as (hide H x) F' as' H' → BR K Q F' as' w' H' → F' x = none → x ∉ as' → H' x = some o → ORep K Q F' as' (.ins c fs) o → Z .non H'
end
/-- a written dict with texts for keys, all of it -/
def TabOk (K : PySem.W.Frag) (w : World) (Q : Cls) (a : Addr) (l : List (List Nat × D)) : Prop := ∃ es n, KDict K w a es n ∧ ∀ s, match tabLook s l with
  | some d => ∃ v u, PySem.W.nsIn K a (toS s) = some (some u) ∧ RelV v u ∧ ∀ F as, Rep K Q F as d v
  | none => PySem.W.nsIn K a (toS s) = some none
/-- what stands around: the defs and classes by their numbers, at one level -/
structure GF (P : Program) (w : World) (K : PySem.W.Frag) (mg : Str → Option Value) (base : Heap) (n : Nm) (Q : Cls) (T : Tb) (C : CallF) (k : Nat) : Prop where
  bi : ∀ x : Str, x ∈ (["len", "tuple", "list", "range", "enumerate", "zip", "all", "any", "isinstance", "str", "int", "abs", "max", "min", "sorted", "sum", "set", "dict", "repr", "bool"] : List String).map Str.ofString → mg x = none
  gl : ∀ x g d, n.gl x = some g → T.glb g = some d → ∃ u v, mg x = some u ∧ RelV v u ∧ ∀ F as, Rep K Q F as d v
  fn : ∀ x f, n.fn x = some f → ∃ a fd ps np, mg x = some (.ref a) ∧ PySem.W.keepIn K (.ref a) = true ∧ FnG P w K mg base k a fd ps (spG K Q np (C f)) ∧ Binds K fd ps [] ∧ ∀ ds w d w', C f ds w = .ok d w' → ds.length = np
  cl : ∀ x c f, n.cl x = some c → T.ini c = some f → ∃ fi fd ps np, mg x = some (.ref (Q.addr c)) ∧ Mk K (Q.addr c) fi ∧ FnG P w K mg base k fi fd ps (spI K Q (np + 1) c (C f)) ∧ Binds K fd ps [] ∧ ∀ ds w d w', C f ds w = .ok d w' → ds.length = np ∧ ∃ fs, d = .ins c fs
  at_ : ∀ x f c j, n.at_ x = some f → T.fpos f c = some j → (Q.names c)[j]? = some x ∧ L2.Cls K (Q.addr c) ∧ NoAttr K (Q.addr c) x
  nn : ∀ c, (Q.names c).Nodup
  nl : ∀ c, (Q.names c).length < 1000
  mt : ∀ x m c f, n.mt x = some m → T.mth m c = some f → ∃ a fd ps np, L2.Cls K (Q.addr c) ∧ Meth K (Q.addr c) x a ∧ FnG P w K mg base k a fd ps (spG K Q np (C f)) ∧ Binds K fd ps [] ∧ x ∉ Q.names c ∧ ∀ ds w d w', C f ds w = .ok d w' → ds.length = np
  pr : ∀ x m c f, n.pr x = some m → T.prp m c = some f → ∃ p g fd ps, L2.Cls K (Q.addr c) ∧ PropOf K (Q.addr c) x p g ∧ FnG P w K mg base k g fd ps (spG K Q 1 (C f)) ∧ Binds K fd ps []
  is1 : ∀ (F : Hp) (as : List Addr) (H : Hp) (d : D) (v : V) (t : Ty) (b : Bool), Top K Q F as H d v → Le F H → isiD T.nc d t = some b → ∃ tv, TyX K H v tv ∧ PySem.W.kitOne K tv (match t with
    | .int => .type "int" | .str => .type "str" | .bool => .type "bool" | .tuple => .type "tuple" | .list => .type "list" | .cls c => .ref (Q.addr c)) = some b
  clv : ∀ x c, n.cl x = some c → mg x = some (.ref (Q.addr c))
  ne : ∀ m c f, T.mth m c = some f → PySem.W.findIn K (.ref (Q.addr c)) "__ne__" = some (some (.builtin "object.__ne__")) ∧ PySem.W.subIn K (.ref (Q.addr c)) (.type "object") = some true
  tb : ∀ x g l, n.tb x = some g → T.tab g = some l → ∃ a, mg x = some (.ref a) ∧ TabOk K w Q a l
  sc : ∀ F as wd H, WR K Q F as wd H → ∃ a, Q.ext 0 = .ref a ∧ SqL K F a (T.scr.map V.int)
abbrev GX (X : Cx) (n : Nm) (Q : Cls) (T : Tb) (C : CallF) (k : Nat) : Prop := GF X.prog X.w X.K X.mg X.base n Q T C k

section
variable {Q : Cls} {T : Tb} {C : CallF} {S : List Nat} {X : Cx} {N : List Str} {sc : Scope} {k : Nat} {n : Nm} {e a b : Expr} {es : List Expr} {ca cb : CE} {cs : List CE} {pos p apos : Pos} {x : Str}
theorem stars_plain {es : List Expr} {env : Env} (h : es.all noStar = true) : (backTo pos (starEach es env)).any (·.1) = false ∧ (backTo pos (starEach es env)).all (fun z => !z.1) = true := by
  induction es with
  | nil => exact ⟨rfl, rfl⟩
  | cons e es ih =>
    rw [List.all_cons, Bool.and_eq_true] at h
    rw [starEach_plain h.1]
    obtain ⟨i1, i2⟩ := ih h.2
    show ((false || (backTo pos (starEach es env)).any (·.1)) = false) ∧ ((true && (backTo pos (starEach es env)).all fun z => !z.1) = true)
    rw [i1, i2]
    exact ⟨rfl, rfl⟩
theorem SR.br {B : Bs} {F H : Hp} {as : List Addr} {ρ : En} {w : Wd} {σ : L2.St} (r : SR X.K Q B S F as ρ w σ H) : BR X.K Q F as w H := ⟨r.sub, r.wld⟩
theorem SR.back {B : Bs} {F F' H H' : Hp} {as as' : List Addr} {ρ : En} {w w' : Wd} {σ : L2.St} (r : SR X.K Q B S F as ρ w σ H) (g : Grw F as H F' as' H') (b : BR X.K Q F' as' w' H') : SR X.K Q B S F' as' ρ w' σ H' := r.step g b.sub b.wld
/-- what evaluated arguments tell -/
def AD (K : PySem.W.Frag) (Q : Cls) (B : Bs) (S : List Nat) (F0 : Hp) (as : List Addr) (H : Hp) (ρ : En) (w1 : Wd) (σ : L2.St) (ds : List D) (vs : List V) (H1 : Hp) : Prop :=
  ∃ F1 as1, Grw F0 as H F1 as1 H1 ∧ SR K Q B S F1 as1 ρ w1 σ H1 ∧ RepL K Q F1 as1 ds vs
/-- arguments, then a call that keeps the function whatever they do -/
theorem args_call {fv : Value} {first : List Value} {pins : List (Addr × Obj)} {s : Shared} {σ : L2.St} {H : Hp} {B : Bs} {F0 : Hp} {as : List Addr} {ρ : En} {w w1 : Wd} {ds : List D} {Z : Value → Shared → Prop} (I : Inv X pins σ H s) (hk : PySem.W.keepIn X.K fv = true)
    (hs : es.all noStar = true) (hl : es.length = cs.length) (ha : PA X es (tA X.K Q T C S cs)) (r : SR X.K Q B S F0 as ρ w σ H) (h1 : evs T C cs ρ w = .ok ds w1)
    (fin : ∀ (us : List Value) (s1 : Shared) (vs : List V) (H1 : Hp), Inv X pins σ H1 s1 → Vals vs us → AD X.K Q B S F0 as H ρ w1 σ ds vs H1 → wpAny (model X.prog X.w) X.A (PySem.call fv (first ++ us)) Z X.xe s1) :
    wpAny (model X.prog X.w) X.A (callWith pos fv first (backTo pos (starEach es X.env)) []) Z X.xe s := by
  cases es with
  | nil =>
    have e0 : cs = [] := List.eq_nil_of_length_eq_zero hl.symm
    subst e0
    cases (show R.ok [] w = .ok ds w1 from h1)
    exact PySem.W.callWith_K0 I.kIn hk (fin [] s [] H I .nil ⟨F0, as, Grw.rfl', r, .nil⟩)
  | cons e es =>
    rw [List.all_cons, Bool.and_eq_true] at hs
    exact PySem.W.callWith_K (h₀ := X.base) I.ok.mod.kin hk (thn (ha.run pos pins s σ H (AD X.K Q B S F0 as H ρ w1 σ ds) I ⟨B, F0, as, ρ, w, ds, w1, r, h1, fun vs F1 as1 H1 g1 r1 rl => ⟨F1, as1, g1, r1, rl⟩⟩) fun us s1 ⟨vs, H1, I1, rv, q1⟩ => ⟨I1.kIn, fin us s1 vs H1 I1 rv q1⟩)
      (starEach_plain hs.1) (stars_plain hs.2).1
theorem Gd.gl (G : Gd X N sc k) (hg : isGl sc x = true) : Gl X x ∧ (x == ("__debug__" : Str)) = false ∧ x ≠ ("__name__" : Str) := by
  obtain ⟨hl, hdb, hn⟩ := isGl_ok hg
  exact ⟨by unfold Gl Env.kindOf; rw [G.sc]; exact hl, hdb, hn⟩
/-- f(..), a def -/
theorem snd_call (G : Gd X N sc k) (GX : GX X n Q T C k) {f : Nat} (hn : n.fn x = some f) (hg : isGl sc x = true) (hs : es.all noStar = true) (hl : es.length = cs.length) (ha : PA X es (tA X.K Q T C S cs)) : PE X (.Call (.Name x p) es [] pos) (tE X.K Q T C S (.call f cs)) := by
  obtain ⟨ad, fd, ps, np, hm, hk, F, hb, hnp⟩ := GX.fn x f hn
  obtain ⟨hgl, hdb, _⟩ := G.gl hg
  refine ⟨fun pins s σ H Z I h => ?_⟩
  obtain ⟨B, F0, as, ρ, w, d, w', r, he, q⟩ := h
  obtain ⟨ds, w1, h1, he⟩ := R.bind_ok (show (evs T C cs ρ w).bind (fun ds w => C f ds w) = .ok d w' from he)
  refine wpAny_Call_Name_kw (ld_glob I hgl hm ?_ hdb)
  refine args_call I hk hs hl ha r h1 fun us s1 vs H1 I1 rv ⟨F1, as1, g1, r1, rl⟩ => ?_
  exact runG F (G.room.mono (by omega)) G.guards hb I1 rv ⟨by rw [rl.length]; exact hnp _ _ _ _ he, F1, as1, ds, w1, d, w', r1.br, rl, he, fun v F' as' H' g b rep => q v F' as' H' (g1.trans g) (r1.back g b) rep⟩
theorem Grw.frz {F F' H H' : Hp} {as as' : List Addr} {p : Addr} {o : HO} (g : Grw F as H F' as' H') (hf : F' p = none) (hp : H p = none) : Grw F as H (upd F' p o) as' H' :=
  ⟨g.fz.trans (Le.upd hf), g.pr, g.kp, fun a u e => by
    by_cases z : a = p
    · subst z; exact .inr hp
    · rw [upd_ne z] at e; exact g.nf a u e, g.na, g.tr⟩
theorem hide_grw {F F' H H' : Hp} {as as' : List Addr} {x dx : Addr} {o o' : HO} (hx : H x = none) (hdx : H dx = none) (ne : dx ≠ x) (g : Grw F as (hide (upd (upd H dx o) x o') x) F' as' H') (hF : F' x = none) (has : x ∉ as') (hH : ∃ o2, H' x = some o2) : Grw F as H F' as' H' where
  fz := g.fz
  pr := g.pr
  kp := fun a u e m => g.kp a u (by
    unfold hide
    rw [if_neg (ne_of_none e hx), upd_ne (ne_of_none e hx), upd_ne (ne_of_none e hdx)]
    exact e) m
  nf := fun a u e => by
    rcases g.nf a u e with z | z
    · exact .inl z
    · refine .inr ?_
      unfold hide at z
      by_cases h : a = x
      · subst h; exact hx
      · rw [if_neg h, upd_ne h] at z
        by_cases h2 : a = dx
        · subst h2; exact hdx
        · rw [upd_ne h2] at z; exact z
  na := fun a e => by
    rcases g.na a e with z | z
    · exact .inl z
    · refine .inr ?_
      unfold hide at z
      by_cases h : a = x
      · subst h; exact hx
      · rw [if_neg h, upd_ne h] at z
        by_cases h2 : a = dx
        · subst h2; exact hdx
        · rw [upd_ne h2] at z; exact z
  tr := fun a e => by
    have z := g.tr a e
    unfold hide at z
    by_cases h : a = x
    · subst h; exact hx
    · rw [if_neg h, upd_ne h] at z
      by_cases h2 : a = dx
      · subst h2; exact hdx
      · rw [upd_ne h2] at z; exact z
/-- C(..), a class with its __init__ -/
theorem snd_mkN (G : Gd X N sc k) (GX : GX X n Q T C k) {c f : Nat} (hn : n.cl x = some c) (hi : T.ini c = some f) (hg : isGl sc x = true) (hs : es.all noStar = true) (hl : es.length = cs.length) (ha : PA X es (tA X.K Q T C S cs)) : PE X (.Call (.Name x p) es [] pos) (tE X.K Q T C S (.mk c cs)) := by
  obtain ⟨fi, fd, ps, np, hm, M, F, hb, hnp⟩ := GX.cl x c f hn hi
  obtain ⟨hgl, hdb, _⟩ := G.gl hg
  refine ⟨fun pins s σ H Z I h => ?_⟩
  obtain ⟨B, F0, as, ρ, w, d, w', r, he, q⟩ := h
  obtain ⟨ds, w1, h1, he⟩ := R.bind_ok (show (evs T C cs ρ w).bind (fun ds w => match T.ini c with
    | some f => C f ds w
    | none => .bad) = .ok d w' from he)
  rw [hi] at he
  have he : C f ds w1 = .ok d w' := he
  obtain ⟨hln, fs, rfl⟩ := hnp _ _ _ _ he
  refine wpAny_Call_Name_kw (ld_glob I hgl hm ?_ hdb)
  refine args_call I M.kp hs hl ha r h1 fun us s1 vs H1 I1 rv ⟨F1, as1, g1, r1, rl⟩ => ?_
  refine makeG M F (G.room.mono (by omega)) G.guards hb I1 rv fun y dx hy hdx ne => ⟨by rw [List.length_cons, rl.length, hln], y, dx, vs, F1, as1, ds, w1, fs, w', rfl, upd_same, r1.sub.non hy, fun m => ?_, ⟨?_, ?_⟩, rl, he, fun F' as' H' o g b hF hA ho rep => ⟨rfl, ?_⟩⟩
  · obtain ⟨_, o, ho⟩ := r1.wld.there m
    rw [hy] at ho; cases ho
  · intro a u e
    have e' := r1.sub a u e
    rw [upd_ne (ne_of_none e' hy), upd_ne (ne_of_none e' hdx)]
    exact e'
  · refine ⟨r1.wld.len, r1.wld.nd, fun m d a e1 e2 => ?_, r1.wld.sc⟩
    obtain ⟨z1, o, z2, z3⟩ := r1.wld.at_ m d a e1 e2
    exact ⟨z1, o, by rw [upd_ne (ne_of_none z2 hy), upd_ne (ne_of_none z2 hdx)]; exact z2, z3⟩
  · have g' : Grw F1 as1 H1 F' as' H' := hide_grw hy hdx ne g hF hA ⟨o, ho⟩
    have r2 := r1.back g' b
    have hb : B.H y = none := r1.grw.tr y hy
    have r3 := r2.freeze ho hF hA hb fun i hi' hs' e1 => by
      obtain ⟨d', hd'⟩ := Option.isSome_iff_exists.mp hs'
      obtain ⟨a, u, z1, z2, z3, z4, z5, z6⟩ := r1.own i d' hd' hi'
      rw [e1] at z1
      cases z1
      rw [hy] at z4
      cases z4
    refine q (.ref y) (upd F' y o) as' H' ((g1.trans g').frz hF (g1.tr y hy)) r3 ?_
    · have rep' := rep.mono (Le.upd (F := F') (p := y) (o := o) hF) (Pre.rfl' (as := as'))
      simp only [ORep] at rep'
      obtain ⟨dx', nfs, rfl, z1, z2⟩ := rep'
      simp only [Rep]
      exact ⟨y, dx', nfs, rfl, upd_same, z1, z2⟩
/-! ### fields, methods, properties -/
def baseOk : Expr → Bool
  | .Call (.Name _ _) [] [] _ => false
  | _ => true
theorem base_of {o : Expr} {x : Str} {env : Env} {whole : Sem Value} (h : baseOk o = true) : attributeBase o x env whole = whole := by
  cases o with
  | Call f as ks p =>
    cases f with
    | Name y q =>
      cases as with
      | nil =>
        cases ks with
        | nil => cases h
        | cons _ _ => rfl
      | cons _ _ => rfl
    | _ => rfl
  | _ => rfl
theorem Top.ins_ {K : PySem.W.Frag} {F : Hp} {as : List Addr} {H : Hp} {c : Nat} {fs : List D} {v : V} (h : Top K Q F as H (.ins c fs) v) : ∃ a dx nfs, v = .ref a ∧ H a = some (.ins (Q.addr c) dx nfs) ∧ nfs.map (·.1) = (Q.names c).take fs.length ∧ RepL K Q F as fs (nfs.map (·.2)) := by simpa only [Top] using h
theorem lookup_at {α : Type} : ∀ {l : List (Str × α)} {j : Nat} {x : Str} {v : α}, (l.map (·.1)).Nodup → (l.map (·.1))[j]? = some x → (l.map (·.2))[j]? = some v → l.lookup x = some v
  | [], j, x, v, _, h, _ => by simp at h
  | (y, u) :: l, 0, x, v, _, h1, h2 => by
    simp at h1 h2
    subst h1 h2
    simp [List.lookup]
  | (y, u) :: l, j + 1, x, v, hn, h1, h2 => by
    rw [List.map_cons, List.nodup_cons] at hn
    have h1' : (l.map (·.1))[j]? = some x := by simpa using h1
    have ne : x ≠ y := fun e => hn.1 (e ▸ List.mem_of_getElem? h1')
    have e : (x == y) = false := beq_eq_false_iff_ne.mpr ne
    rw [List.lookup_cons, e]
    exact lookup_at hn.2 h1' (by simpa using h2)
theorem lookup_no {α : Type} : ∀ {l : List (Str × α)} {x : Str}, x ∉ l.map (·.1) → l.lookup x = none
  | [], x, _ => rfl
  | (y, u) :: l, x, h => by
    rw [List.map_cons, List.mem_cons, not_or] at h
    have e : (x == y) = false := beq_eq_false_iff_ne.mpr h.1
    rw [List.lookup_cons, e]
    exact lookup_no h.2
/-- o.x, a field -/
theorem snd_fld (GX : GX X n Q T C k) {f : Nat} (hn : n.at_ x = some f) (hb : baseOk a = true) (ha : PE X a (tO X.K Q T C S ca)) : PE X (.Attribute a x pos) (tE X.K Q T C S (.fld ca f)) :=
  (pe_fld ha (base_of hb)).imp fun σ H Z ⟨B, F0, as, ρ, w, d, w', r, he, q⟩ => by
    obtain ⟨y, w1, h1, he⟩ := R.bind_ok (show (ev T C ca ρ w).bind _ = .ok d w' from he)
    refine ⟨B, F0, as, ρ, w, y, w1, r, h1, fun v F1 as1 H1 g1 r1 o1 => ?_⟩
    have t := (o1.top r1).toD r1
    revert he
    cases e : deref w1 y with
    | ins c fs =>
      intro he
      rw [e] at t
      obtain ⟨ad, dx, nfs, rfl, h2, h3, h4⟩ := t.ins_
      obtain ⟨he', rfl⟩ := ofO_ok (show ofO ((T.fpos f c).bind fun j => fs[j]?) w1 = .ok d w' from he)
      obtain ⟨j, hj, hd⟩ := Option.bind_eq_some_iff.mp he'
      obtain ⟨k1, k2, k3⟩ := GX.at_ x f c j hn hj
      obtain ⟨u, hu, ru⟩ := h4.get hd
      have hlen : j < fs.length := (List.getElem?_eq_some_iff.mp hd).1
      have hx : (nfs.map (·.1))[j]? = some x := by
        rw [h3, List.getElem?_take, if_pos hlen]
        exact k1
      have nd : (nfs.map (·.1)).Nodup := by
        rw [h3]
        exact (GX.nn c).sublist (List.take_sublist _ _)
      exact ⟨ad, _, dx, nfs, u, rfl, h2, k2, k3, lookup_at nd hx hu, q u F1 as1 H1 g1 r1 ru⟩
    | _ => intro he; cases he
/-- a property's getter -/
theorem getterG {C0 pr gt a dx : Addr} {fs : List (Str × V)} {f : Str} {fd : FuncData} {ps : List Str} {sp : List V → Hp → VK → Prop} {pins : List (Addr × Obj)} {σ : L2.St} {H : Hp} {s : Shared} {Z : VK} {bb : Bool} {E' : Value → Shared → Prop} (I : Inv X pins σ H s) (ea : H a = some (.ins C0 dx fs))
    (c : L2.Cls X.K C0) (hp : PropOf X.K C0 f pr gt) (F : FnG X.prog X.w X.K X.mg X.base k gt fd ps sp) (hr : Room (k + 1) X.A) (hgd : X.A.guards = some []) (hb : Binds X.K fd ps []) (h : sp [.ref a] H Z) : wpAny (model X.prog X.w) X.A (getAttr (.ref a) f bb) (EP X pins σ Z) E' s := by
  obtain ⟨mA, O, _⟩ := ins_get I.hok ea
  obtain ⟨od, J, _⟩ := O.look
  obtain ⟨more, hrec⟩ := hp.rec_
  have I1 := I.tok (s.toks + 1)
  have hl : ([Value.ref a] ++ []).length = ps.length := (F.len [V.ref a] H Z h)
  have hb' := hb { s with toks := s.toks + 1 } [.ref a] I1.kIn hl
  rw [List.append_nil] at hb'
  have hcl : (PySem.W.clsIn X.K C0).isSome = true := by
    obtain ⟨cd, e, _⟩ := PySem.W.any_some c.hd
    rw [e]
    rfl
  have pg := PySem.W.plainGet_of (c.get f)
  refine PySem.W.get_bind I.kIn J pg.1 (PySem.W.findObj_data hcl hp.at_ hp.get hp.tak) pg.2 (wpAny_call (PySem.W.prop_get (s := { s with toks := s.toks + 1 }) I.kIn hrec (codeAny_mono (F.run X.A.in1 X.stack _ H ⟨[.ref a], []⟩ [.ref a] [.ref a] Z hr.in1 hgd I1.env0.in1 hb' (.cons rfl .nil) h) fun q s' hq => ?_)))
  obtain ⟨u, rfl, v, H', I3, rv, q3⟩ := back_of (A := X.A) (E := X.xe) I1 hq
  show wpAny _ _ (handedOut u) _ _ _
  rw [PySem.W.handedOut_of (handed_of rv)]
  exact wpAny_pure ⟨v, H', I3, rv, q3⟩
/-- o.x, a property -/
theorem snd_prop (G : Gd X N sc k) (GX : GX X n Q T C k) {f : Nat} (hn : n.pr x = some f) (hb : baseOk a = true) (ha : PE X a (tE X.K Q T C S ca)) : PE X (.Attribute a x pos) (tE X.K Q T C S (.prop ca f)) := by
  refine ⟨fun pins s σ H Z I ⟨B, F0, as, ρ, w, d, w', r, he, q⟩ => ?_⟩
  obtain ⟨y, w1, h1, he⟩ := R.bind_ok (show (ev T C ca ρ w).bind _ = .ok d w' from he)
  refine attr_of (base_of hb) (thn (ha.run pins s σ H (fun v H1 => ∃ F1 as1, Grw F0 as H F1 as1 H1 ∧ SR X.K Q B S F1 as1 ρ w1 σ H1 ∧ Rep X.K Q F1 as1 y v) I ⟨B, F0, as, ρ, w, y, w1, r, h1, fun v F1 as1 H1 g1 r1 o1 => ⟨F1, as1, g1, r1, o1⟩⟩) fun u s1 ⟨v, H1, I1, rv, F1, as1, g1, r1, o1⟩ => ?_)
  cases y with
  | ins c fs =>
    cases e : T.prp f c with
    | none =>
      simp only [e] at he
      cases he
    | some g =>
      simp only [e] at he
      obtain ⟨pp, gg, fd, ps, k1, k2, F, hbn⟩ := GX.pr x f c g hn e
      have o2 := o1
      simp only [Rep] at o2
      obtain ⟨ad, dx, nfs, rfl, h2, h3, h4⟩ := o2
      cases rv
      exact getterG I1 (r1.sub _ _ h2) k1 k2 F (G.room.mono (by omega)) G.guards hbn ⟨rfl, F1, as1, [.ins c fs], w1, d, w', r1.br, .cons o1 .nil, he, fun v F' as' H' g b rep => q v F' as' H' (g1.trans g) (r1.back g b) rep⟩
  | _ => cases he
/-- o.m(..) on one line -/
theorem mcall_eq {o : Expr} {m : Str} {env : Env} (hb : baseOk o = true) (hs : es.all noStar = true) (hl : es.length < 30) (hline : (apos.endLine == pos.line) = true) : eval (.Call (.Attribute o m apos) es [] pos) env = (do
      let ov ← eval o env
      standAt apos.atName
      let (f, first) ← holding [ov] (getMethod ov m (plainOf o env))
      callWith pos f first (backTo pos (starEach es env)) (backToKw pos (keywordEach [] env))) := by
  have e1 : eval (.Call (.Attribute o m apos) es [] pos) env = (do
    let ov ← attributeBase o m env (eval o env)
    standAt apos.atName
    methodCall o m apos pos env ov (es.length + ([] : List Keyword).length) (backTo pos (starEach es env)) (backToKw pos (keywordEach [] env))) := by
    first | rfl | simp only [eval]
  rw [e1, base_of hb]
  have hf : methodCallForm (es.length + ([] : List Keyword).length) (backTo pos (starEach es env)) (backToKw pos (keywordEach [] env)) = true := by
    unfold methodCallForm
    rw [(stars_plain hs).2]
    simp [backToKw, keywordEach]
    exact hl
  have e2 : ∀ ov, methodCall o m apos pos env ov (es.length + ([] : List Keyword).length) (backTo pos (starEach es env)) (backToKw pos (keywordEach [] env)) = _ := fun ov => mcall_line hf hline
  simp only [e2]
theorem snd_meth (G : Gd X N sc k) (GX : GX X n Q T C k) {m : Nat} (hn : n.mt x = some m) (hb : baseOk a = true) (hs : es.all noStar = true) (hl30 : es.length < 30) (hline : (apos.endLine == pos.line) = true) (hl : es.length = cs.length) (ha : PE X a (tE X.K Q T C S ca)) (has : PA X es (tA X.K Q T C S cs)) :
    PE X (.Call (.Attribute a x apos) es [] pos) (tE X.K Q T C S (.meth m ca cs)) := by
  refine ⟨fun pins s σ H Z I ⟨B, F0, as, ρ, w, d, w', r, he, q⟩ => ?_⟩
  obtain ⟨y, w1, h1, he⟩ := R.bind_ok (show (ev T C ca ρ w).bind _ = .ok d w' from he)
  obtain ⟨ds, w2, h2, he⟩ := R.bind_ok (show (evs T C cs ρ w1).bind _ = .ok d w' from he)
  refine PySem.W.methodCall_KW (pl := plainOf a X.env) (thn (ha.run pins s σ H (fun v H1 => ∃ F1 as1, Grw F0 as H F1 as1 H1 ∧ SR X.K Q B S F1 as1 ρ w1 σ H1 ∧ Rep X.K Q F1 as1 y v) I ⟨B, F0, as, ρ, w, y, w1, r, h1, fun v F1 as1 H1 g1 r1 o1 => ⟨F1, as1, g1, r1, o1⟩⟩) fun u s1 ⟨v, H1, I1, rv, F1, as1, g1, r1, o1⟩ => ?_) (mcall_eq hb hs hl30 hline)
  cases y with
  | ins c fs =>
    cases e : T.mth m c with
    | none =>
      simp only [e] at he
      cases he
    | some g =>
      simp only [e] at he
      obtain ⟨ad, fd, ps, np, k1, k2, F, hbn, k3, hnp⟩ := GX.mt x m c g hn e
      have o2 := o1
      simp only [Rep] at o2
      obtain ⟨ad', dx, nfs, rfl, z2, z3, z4⟩ := o2
      cases rv
      refine getmeth_ok I1 (r1.sub _ _ z2) k1 k2 (lookup_no fun hm => k3 (by rw [z3] at hm; exact List.mem_of_mem_take hm)) ?_
      refine args_call (pos := pos) I1 k2.kp hs hl has r1 h2 fun us s2 vs H2 I2 rv2 ⟨F2, as2, g2, r2, rl⟩ => ?_
      exact runG (us := .ref ad' :: us) (vs := .ref ad' :: vs) F (G.room.mono (by omega)) G.guards hbn I2 (.cons rfl rv2) ⟨by rw [List.length_cons, rl.length]; exact hnp _ _ _ _ he, F2, as2, .ins c fs :: ds, w2, d, w', r2.br, .cons (o1.mono g2.fz g2.pr) rl, he, fun v F' as' H' g b rep => q v F' as' H' ((g1.trans g2).trans g) (r2.back g b) rep⟩
  | _ => cases he
end
end MP

set_option Elab.async false
set_option linter.all false
set_option maxRecDepth 100000
/-! MP7: and, or, if-else, chains, isinstance, subscripts, slices, built-ins. -/
namespace MP
open PySem PySem.Spec PyProof.Rows L2
section
variable {Q : Cls} {T : Tb} {C : CallF} {S : List Nat} {X : Cx} {N : List Str} {sc : Scope} {k : Nat} {n : Nm} {e a b c : Expr} {es : List Expr} {ca cb cc : CE} {cs : List CE} {pos p apos : Pos} {x : Str}
/-! ### and, or -/
theorem tst_and1 (ha : PT X a (tTst X.K Q T C S ca)) : PW X (.BoolOp .And [a] pos) (tTst X.K Q T C S ca) := pw_and1 ha
theorem tst_or1 (ha : PT X a (tTst X.K Q T C S ca)) : PW X (.BoolOp .Or [a] pos) (tTst X.K Q T C S ca) := pw_or1 ha
theorem tst_andC (ha : PT X a (tTst X.K Q T C S ca)) (hb : PW X (.BoolOp .And (b :: es) pos) (tTst X.K Q T C S cb)) : PW X (.BoolOp .And (a :: b :: es) pos) (tTst X.K Q T C S (.and ca cb)) := (pw_and ha hb).imp fun σ H Z ⟨B, F, as, ρ, w, r, w', sr, he, q⟩ => by
  obtain ⟨d, w1, h1, h2⟩ := R.bind_ok (show (((ev T C ca ρ w).bind boolR).bind fun b w => if b = true then ev T C cb ρ w else .ok (.bl false) w).bind boolR = .ok r w' from he)
  obtain ⟨k, w2, h3, h4⟩ := R.bind_ok h1
  refine ⟨B, F, as, ρ, w, k, w2, sr, h3, fun F1 as1 H1 g1 r1 => ?_⟩
  cases k with
  | true =>
    rw [if_pos rfl] at h4 ⊢
    exact ⟨B, F1, as1, ρ, w2, r, w', r1, by show (ev T C cb ρ w2).bind boolR = _; rw [h4]; exact h2, fun F' as' H' g r' => q F' as' H' (g1.trans g) r'⟩
  | false =>
    rw [if_neg Bool.false_ne_true] at h4 ⊢
    cases h4
    obtain ⟨e1, rfl⟩ := boolR_ok h2
    cases e1
    exact q F1 as1 H1 g1 r1
theorem tst_orC (ha : PT X a (tTst X.K Q T C S ca)) (hb : PW X (.BoolOp .Or (b :: es) pos) (tTst X.K Q T C S cb)) : PW X (.BoolOp .Or (a :: b :: es) pos) (tTst X.K Q T C S (.or ca cb)) := (pw_or ha hb).imp fun σ H Z ⟨B, F, as, ρ, w, r, w', sr, he, q⟩ => by
  obtain ⟨d, w1, h1, h2⟩ := R.bind_ok (show (((ev T C ca ρ w).bind boolR).bind fun b w => if b = true then .ok (.bl true) w else ev T C cb ρ w).bind boolR = .ok r w' from he)
  obtain ⟨k, w2, h3, h4⟩ := R.bind_ok h1
  refine ⟨B, F, as, ρ, w, k, w2, sr, h3, fun F1 as1 H1 g1 r1 => ?_⟩
  cases k with
  | false =>
    rw [if_neg Bool.false_ne_true] at h4 ⊢
    exact ⟨B, F1, as1, ρ, w2, r, w', r1, by show (ev T C cb ρ w2).bind boolR = _; rw [h4]; exact h2, fun F' as' H' g r' => q F' as' H' (g1.trans g) r'⟩
  | true =>
    rw [if_pos rfl] at h4 ⊢
    cases h4
    obtain ⟨e1, rfl⟩ := boolR_ok h2
    cases e1
    exact q F1 as1 H1 g1 r1
theorem snd_one {op : PySem.BoolOp} (h : PE X a (tE X.K Q T C S ca)) : PE X (.BoolOp op [a] pos) (tE X.K Q T C S ca) := pe_one h
theorem snd_and (ha : PE X a (tE X.K Q T C S ca)) (hb : PE X (.BoolOp .And (b :: es) pos) (tE X.K Q T C S cb)) : PE X (.BoolOp .And (a :: b :: es) pos) (tE X.K Q T C S (.and ca cb)) := (pe_and ha hb).imp fun σ H Z ⟨B, F, as, ρ, w, d, w', sr, he, q⟩ => by
  obtain ⟨k, w1, h1, h2⟩ := R.bind_ok (show ((ev T C ca ρ w).bind boolR).bind (fun b w => if b = true then ev T C cb ρ w else .ok (.bl false) w) = .ok d w' from he)
  obtain ⟨d1, w2, h3, h4⟩ := R.bind_ok h1
  obtain ⟨rfl, rfl⟩ := boolR_ok h4
  refine ⟨B, F, as, ρ, w, _, _, sr, h3, fun v F1 as1 H1 g1 r1 rv => ⟨k, by simpa only [Rep] using rv, ?_⟩⟩
  cases k with
  | true =>
    rw [if_pos rfl] at h2 ⊢
    exact ⟨B, F1, as1, ρ, _, d, w', r1, h2, fun v F' as' H' g r' rv => q v F' as' H' (g1.trans g) r' rv⟩
  | false =>
    rw [if_neg Bool.false_ne_true] at h2 ⊢
    cases h2
    exact q _ F1 as1 H1 g1 r1 (by simp only [Rep])
theorem snd_or (ha : PE X a (tE X.K Q T C S ca)) (hb : PE X (.BoolOp .Or (b :: es) pos) (tE X.K Q T C S cb)) : PE X (.BoolOp .Or (a :: b :: es) pos) (tE X.K Q T C S (.or ca cb)) := (pe_or ha hb).imp fun σ H Z ⟨B, F, as, ρ, w, d, w', sr, he, q⟩ => by
  obtain ⟨k, w1, h1, h2⟩ := R.bind_ok (show ((ev T C ca ρ w).bind boolR).bind (fun b w => if b = true then .ok (.bl true) w else ev T C cb ρ w) = .ok d w' from he)
  obtain ⟨d1, w2, h3, h4⟩ := R.bind_ok h1
  obtain ⟨rfl, rfl⟩ := boolR_ok h4
  refine ⟨B, F, as, ρ, w, _, _, sr, h3, fun v F1 as1 H1 g1 r1 rv => ⟨k, by simpa only [Rep] using rv, ?_⟩⟩
  cases k with
  | false =>
    rw [if_neg Bool.false_ne_true] at h2 ⊢
    exact ⟨B, F1, as1, ρ, _, d, w', r1, h2, fun v F' as' H' g r' rv => q v F' as' H' (g1.trans g) r' rv⟩
  | true =>
    rw [if_pos rfl] at h2 ⊢
    cases h2
    exact q _ F1 as1 H1 g1 r1 (by simp only [Rep])
/-- a if t else b -/
theorem snd_ite (hc : PT X c (tTst X.K Q T C S cc)) (ha : PE X a (tE X.K Q T C S ca)) (hb : PE X b (tE X.K Q T C S cb)) : PE X (.IfExp c a b pos) (tE X.K Q T C S (.ite cc ca cb)) := (pe_ifExp hc ha hb).imp fun σ H Z ⟨B, F, as, ρ, w, d, w', sr, he, q⟩ => by
  obtain ⟨k, w1, h1, h2⟩ := R.bind_ok (show ((ev T C cc ρ w).bind boolR).bind (fun b w => if b = true then ev T C ca ρ w else ev T C cb ρ w) = .ok d w' from he)
  refine ⟨B, F, as, ρ, w, k, w1, sr, h1, fun F1 as1 H1 g1 r1 => ?_⟩
  cases k with
  | true =>
    rw [if_pos rfl] at h2 ⊢
    exact ⟨B, F1, as1, ρ, _, d, w', r1, h2, fun v F' as' H' g r' rv => q v F' as' H' (g1.trans g) r' rv⟩
  | false =>
    rw [if_neg Bool.false_ne_true] at h2 ⊢
    exact ⟨B, F1, as1, ρ, _, d, w', r1, h2, fun v F' as' H' g r' rv => q v F' as' H' (g1.trans g) r' rv⟩
/-- -a -/
theorem snd_neg (ha : PE X a (tE X.K Q T C S ca)) : PE X (.UnaryOp .USub a pos) (tE X.K Q T C S (.neg ca)) := (pe_un un_neg ha).imp fun σ H Z ⟨B, F, as, ρ, w, d, w', sr, he, q⟩ => by
  obtain ⟨d1, w1, h1, h2⟩ := R.bind_ok (show (ev T C ca ρ w).bind _ = .ok d w' from he)
  cases d1 <;> try cases h2
  exact ⟨B, F, as, ρ, w, _, _, sr, h1, fun v F1 as1 H1 g1 r1 rv => ⟨_, by simpa only [Rep] using rv, q _ F1 as1 H1 g1 r1 (by simp only [Rep])⟩⟩
/-! ### a op b op c -/
theorem chain_of {o o' : Cop} {r r' : R2} (h1 : OpD X.K Q S (cD o) r) (h2 : OpD X.K Q S (cD o') r') : ∀ σ H Z, tE X.K Q T C S (.cmp2 o o' ca cb cc) σ H Z → tChain r r' (tO X.K Q T C S ca) (tO X.K Q T C S cb) (tO X.K Q T C S cc) σ H Z := by
  rintro σ H Z ⟨B, F, as, ρ, w, d, w', sr, he, q⟩
  obtain ⟨d1, w1, e1, he⟩ := R.bind_ok (show (ev T C ca ρ w).bind _ = .ok d w' from he)
  obtain ⟨d2, w2, e2, he⟩ := R.bind_ok (show (ev T C cb ρ w1).bind _ = .ok d w' from he)
  refine ⟨B, F, as, ρ, w, d1, w1, sr, e1, fun u F1 as1 H1 g1 r1 o1 => ⟨B, F1, as1, ρ, w1, d2, w2, r1, e2, fun v F2 as2 H2 g2 r2 o2 => ?_⟩⟩
  cases e3 : cmpD w2 o d1 d2 with
  | none => simp only [e3] at he; cases he
  | some k =>
    simp only [e3] at he
    refine h1 B F2 as2 ρ w2 σ H2 d1 d2 (.bl k) u v _ r2 ((o1.mono g2.fz g2.pr).top r2) (o2.top r2) (by show (cmpD w2 o d1 d2).map D.bl = _; rw [e3]; rfl) fun z F3 as3 H3 g3 r3 rz => ⟨k, by simpa only [Rep] using rz, ?_⟩
    cases k with
    | true =>
      rw [if_pos rfl]
      obtain ⟨d3, w3, e4, he⟩ := R.bind_ok (show (ev T C cc ρ w2).bind (fun c w => ofO ((cmpD w o' d2 c).map D.bl) w) = .ok d w' from he)
      obtain ⟨e5, e6⟩ := ofO_ok he
      subst e6
      refine ⟨B, F3, as3, ρ, w2, d3, _, r3, e4, fun v3 F4 as4 H4 g4 r4 o4 => ?_⟩
      exact h2 B F4 as4 ρ _ σ H4 d2 d3 d v v3 Z r4 ((o2.mono (g3.trans g4).fz (g3.trans g4).pr).top r4) (o4.top r4) e5 fun v' F' as' H' g r' rv => q v' F' as' H' ((((g1.trans g2).trans g3).trans g4).trans g) r' rv
    | false =>
      rw [if_neg Bool.false_ne_true]
      cases he
      exact q _ F3 as3 H3 ((g1.trans g2).trans g3) r3 (by simp only [Rep])
theorem lastMarks_of {op op' : CmpOp} (h : noSet c = true) : lastMarks [op, op'] [b, c] = false := by
  show lastMarks [op'] [c] = false
  exact marks_of h
theorem snd_cmp2 (G : Gd X N sc k) {o o' : Cop} {op op' : CmpOp} (h : copOk o op = true) (h' : copOk o' op' = true) (hc' : noSet c = true) (ha : PE X a (tO X.K Q T C S ca)) (hb : PE X b (tO X.K Q T C S cb)) (hc : PE X c (tO X.K Q T C S cc)) :
    PE X (.Compare a [op, op'] [b, c] pos) (tE X.K Q T C S (.cmp2 o o' ca cb cc)) := by
  obtain ⟨r, h1, h2⟩ := cop_rule (Q := Q) (S := S) G h
  obtain ⟨r', h1', h2'⟩ := cop_rule (Q := Q) (S := S) G h'
  exact (pe_chain h1 h1' ha hb hc (lastMarks_of hc')).imp (chain_of h2 h2')
theorem tst_cmp2 (G : Gd X N sc k) {o o' : Cop} {op op' : CmpOp} (h : copOk o op = true) (h' : copOk o' op' = true) (hc' : noSet c = true) (ha : PE X a (tO X.K Q T C S ca)) (hb : PE X b (tO X.K Q T C S cb)) (hc : PE X c (tO X.K Q T C S cc)) :
    PT X (.Compare a [op, op'] [b, c] pos) (tTst X.K Q T C S (.cmp2 o o' ca cb cc)) := by
  obtain ⟨r, h1, h2⟩ := cop_rule (Q := Q) (S := S) G h
  obtain ⟨r', h1', h2'⟩ := cop_rule (Q := Q) (S := S) G h'
  exact (pt_chain h1 h1' ha hb hc (lastMarks_of hc')).imp (tst_of (chain_of h2 h2'))
/-! ### subscripts -/
theorem ixD_eq (n : Nat) (i : Int) : ixD n i = ixN n i := rfl
theorem atI_of {K : PySem.W.Frag} {F : Hp} {as : List Addr} {ds : List D} {xs : List V} {i : Int} {d : D} (r : RepL K Q F as ds xs) (h : ((ixD ds.length i).bind fun j => ds[j]?) = some d) : ∃ v, atI xs i = some v ∧ Rep K Q F as d v := by
  obtain ⟨j, hj, hd⟩ := Option.bind_eq_some_iff.mp h
  obtain ⟨v, hv, rv⟩ := r.get hd
  refine ⟨v, ?_, rv⟩
  unfold atI
  rw [← ixD_eq, r.length, hj]
  exact hv
def plainIx : Expr → Bool
  | .Slice _ _ _ _ => false
  | _ => true
theorem plainIx_ok (h : plainIx b = true) : PlainIx b := by
  intro o i
  cases b with
  | Slice l u s p => cases h
  | _ => rfl
/-- an item of a dict, as a subscript -/
def rIxDct : R2 := fun x y H Z => ∃ a v, x = .ref a ∧ DGet H a y (some v) ∧ Z v H
theorem ix_dct (hu : X.A.units + 1 < cLine) : IxR X rIxDct := by
  intro value slice pins s σ H x y v u Z I rx ry h hs
  obtain ⟨a, z, rfl, g, q⟩ := h
  cases rx
  exact tail_any (dict_typeIs I g) PySem.F.slot_dict_getitem.lookup (d_getItem hu I g ry fun w' s' I' rw' => ⟨z, H, I', rw', q⟩) hs
theorem look_keys {K : PySem.W.Frag} {F : Hp} {as : List Addr} {x d : D} {k : Key} (hx : keyO x = some k) : ∀ {ks vs : List D} {kvs : List (Key × V)}, ks.map keyO = kvs.map (fun p => some p.1) → RepL K Q F as vs (kvs.map (·.2)) → (lookD x ks vs).bind id = some d → ∃ v, valV kvs k = some v ∧ Rep K Q F as d v
  | [], vs, [], _, _, h => by cases h
  | [], _, _ :: _, h, _, _ => by simp at h
  | _ :: _, _, [], h, _, _ => by simp at h
  | z :: ks, [], p :: kvs, _, h, _ => by
    simp only [RepL] at h
    cases h
  | z :: ks, y :: vs, p :: kvs, h, hr, hl => by
    rw [List.map_cons, List.map_cons] at h
    injection h with h1 h2
    rw [List.map_cons] at hr
    simp only [RepL] at hr
    obtain ⟨v, us, e, r, rs⟩ := hr
    injection e with e1 e2
    subst e2
    have hl' : ((match eqD z x with
      | none => none
      | some true => some (y :: vs).head?
      | some false => lookD x ks (y :: vs).tail) : Option (Option D)).bind id = some d := hl
    rw [key_eq h1 hx] at hl'
    by_cases e : p.1 = k
    · rw [decide_eq_true e] at hl'
      cases hl'
      exact ⟨v, by rw [valV_pos e, e1], r⟩
    · rw [decide_eq_false e] at hl'
      obtain ⟨v', h3, h4⟩ := look_keys hx h2 rs hl'
      exact ⟨v', by rw [valV_neg e]; exact h3, h4⟩
def rIx4 (K : PySem.W.Frag) : R2 := fun x y H Z => rIx K x y H Z ∨ rIxDct x y H Z
theorem opD_ix {K : PySem.W.Frag} : OpD K Q S idxD (rIx4 K) := by
  intro B F as ρ w σ H x y d u v Z sr tx ty hf q
  have tz := tx.toD sr
  unfold idxD at hf
  cases e : deref w x <;> rw [e] at hf tz
  case tup xs =>
    cases y <;> simp only [reduceCtorEq] at hf
    obtain ⟨a, ys, rfl, h1, h2⟩ := tz.tup_
    obtain ⟨z, hz, rz⟩ := atI_of h2 hf
    exact .inl (.inr (.inl ⟨a, ys, _, z, rfl, ty.int_, sr.sub.sqT h1, hz, q _ F as H Grw.rfl' sr rz⟩))
  case lst xs =>
    cases y <;> simp only [reduceCtorEq] at hf
    obtain ⟨a, ys, rfl, h1, h2⟩ := tz.lst_
    obtain ⟨z, hz, rz⟩ := atI_of h2 hf
    exact .inl (.inl ⟨a, ys, _, z, rfl, ty.int_, .inl (.inl h1), hz, q _ F as H Grw.rfl' sr rz⟩)
  case str xs =>
    cases y <;> simp only [reduceCtorEq] at hf
    rename_i i
    obtain ⟨rfl, hs⟩ := tz.str_
    split at hf
    · rename_i hlen
      obtain ⟨j, hj, hd⟩ := Option.bind_eq_some_iff.mp hf
      obtain ⟨c, hc, rfl⟩ := Option.map_eq_some_iff.mp hd
      refine .inl (.inr (.inr ⟨_, _, c, rfl, ty.int_, by rw [toS_length]; exact bigN_le hlen, ?_, q (.str ⟨#[c]⟩) F as H Grw.rfl' sr ?_⟩))
      · rw [toS_toList]
        unfold atI
        rw [← ixD_eq, hj]
        exact hc
      · simp only [Rep]
        refine ⟨rfl, fun c' hc' => ?_⟩
        rw [List.mem_singleton.mp hc']
        exact hs c (List.mem_of_getElem? hc)
    · cases hf
  case dct ks vs =>
    have hf' : (if keyB y = true then (lookD y ks vs).bind id else none) = some d := by
      cases y <;> exact hf
    obtain ⟨a, kvs, rfl, h1, h2, h3⟩ := tz.dct_
    split at hf'
    · rename_i hk
      obtain ⟨kk, hkk⟩ := key_of hk
      obtain ⟨z, hz, rz⟩ := look_keys hkk h2 h3 hf'
      exact .inr ⟨a, z, rfl, by rw [rep_key ty hkk, ← hz]; exact DGet.rd h1, q _ F as H Grw.rfl' sr rz⟩
    · cases hf'
  all_goals (cases y <;> cases hf)
theorem snd_idx (G : Gd X N sc k) (hp : plainIx b = true) (ha : PE X a (tO X.K Q T C S ca)) (hb : PE X b (tO X.K Q T C S cb)) : PE X (.Subscript a b pos) (tE X.K Q T C S (.idx ca cb)) :=
  (pe_ix (r := rIx4 X.K) (fun value slice pins s σ H x y v u Z I rx ry h hs => h.elim (fun z => ix_seq value slice pins s σ H x y v u Z I rx ry z hs) fun z => ix_dct G.hu value slice pins s σ H x y v u Z I rx ry z hs) ha hb (plainIx_ok hp)).imp (two_of opD_ix fun _ _ => rfl)
end
end MP

set_option Elab.async false
set_option linter.all false
set_option maxRecDepth 100000
/-! MP8: slices, built-ins of one and two values, methods of built-in values. -/
namespace MP
open PySem PySem.Spec PyProof.Rows L2
section
variable {Q : Cls} {T : Tb} {C : CallF} {S : List Nat} {X : Cx} {N : List Str} {sc : Scope} {k : Nat} {n : Nm} {e a b c : Expr} {es : List Expr} {ca cb cc : CE} {cs : List CE} {pos p apos : Pos} {x : Str}
/-- a rule of one value does as f says -/
def Op1 (K : PySem.W.Frag) (Q : Cls) (S : List Nat) (f : Wd → D → Option D) (r : V → Hp → VK → Prop) : Prop := ∀ (B : Bs) (F : Hp) (as : List Addr) (ρ : En) (w : Wd) (σ : L2.St) (H : Hp) (x d : D) (u : V) (Z : VK),
  SR K Q B S F as ρ w σ H → Top K Q F as H (deref w x) u → f w x = some d →
  (∀ v F' as' H', Grw F as H F' as' H' → SR K Q B S F' as' ρ w σ H' → Rep K Q F' as' d v → Z v H') → r u H Z
/-- the same, the value is new -/
def Op1N (K : PySem.W.Frag) (Q : Cls) (S : List Nat) (f : Wd → D → Option D) (r : V → Hp → VK → Prop) : Prop := ∀ (B : Bs) (F : Hp) (as : List Addr) (ρ : En) (w : Wd) (σ : L2.St) (H : Hp) (x d : D) (u : V) (Z : VK),
  SR K Q B S F as ρ w σ H → Top K Q F as H (deref w x) u → f w x = some d →
  (∀ p o, H p = none → ORep K Q F as d o → Z (.ref p) (upd H p o)) → r u H Z
theorem SR.notin {K : PySem.W.Frag} {B : Bs} {F H : Hp} {as : List Addr} {ρ : En} {w : Wd} {σ : L2.St} (r : SR K Q B S F as ρ w σ H) {p : Addr} (h : H p = none) : p ∉ as := fun m => by
  obtain ⟨_, o, ho⟩ := r.wld.there m
  rw [h] at ho; cases ho
theorem Op1.ofN {K : PySem.W.Frag} {f : Wd → D → Option D} {r : V → Hp → VK → Prop} (h : Op1N K Q S f r) : Op1 K Q S f r := fun B F as ρ w σ H x d u Z sr tx hf q =>
  h B F as ρ w σ H x d u Z sr tx hf fun p o hp rep => by
    have rep' := rep.mono (Le.upd (F := F) (p := p) (o := o) (sr.sub.non hp)) (Pre.rfl' (as := as))
    refine q (.ref p) (upd F p o) as (upd H p o) (Grw.newF hp (sr.sub.non hp)) (sr.newF hp) ?_
    cases d <;> simp only [ORep] at rep' <;> simp only [Rep]
    · obtain ⟨xs, rfl, z⟩ := rep'
      exact ⟨p, xs, rfl, upd_same, z⟩
    · obtain ⟨kvs, rfl, z1, z2⟩ := rep'
      exact ⟨p, kvs, rfl, .inl upd_same, z1, z2⟩
    · obtain ⟨dx, nfs, rfl, z1, z2⟩ := rep'
      exact ⟨p, dx, nfs, rfl, upd_same, z1, z2⟩
/-- one argument -/
theorem one_of {K : PySem.W.Frag} {f : Wd → D → Option D} {r : V → Hp → VK → Prop} {rr : List V → Hp → VK → Prop} {c : CE} (h : Op1 K Q S f r) (hr : ∀ u H Z, r u H Z → rr [u] H Z) (he : ∀ ρ w, ev T C c ρ w = (ev T C ca ρ w).bind fun d w => ofO (f w d) w) :
    ∀ σ H Z, tE K Q T C S c σ H Z → tCB rr (tCons (tO K Q T C S ca) tNil) σ H Z := by
  rintro σ H Z ⟨B, F, as, ρ, w, d, w', sr, hev, q⟩
  rw [he] at hev
  obtain ⟨d1, w1, e1, hev⟩ := R.bind_ok hev
  obtain ⟨hev, rfl⟩ := ofO_ok hev
  refine ⟨B, F, as, ρ, w, d1, _, sr, e1, fun u F1 as1 H1 g1 r1 o1 => ?_⟩
  exact hr u H1 Z (h B F1 as1 ρ _ σ H1 d1 d u Z r1 ((o1.top r1).toD r1) hev fun v F' as' H' g r' rv => q v F' as' H' (g1.trans g) r' rv)
theorem one_ofN {K : PySem.W.Frag} {f : Wd → D → Option D} {r : V → Hp → VK → Prop} {rr : List V → Hp → VK → Prop} {c : CE} (h : Op1N K Q S f r) (hr : ∀ u H Z, r u H Z → rr [u] H Z) (he : ∀ ρ w, ev T C c ρ w = (ev T C ca ρ w).bind fun d w => ofO (f w d) w) (hn : ∀ w d d', f w d = some d' → isNewD d' = true) :
    ∀ σ H Z, tN K Q T C S c σ H Z → tCB rr (tCons (tO K Q T C S ca) tNil) σ H Z := by
  rintro σ H Z ⟨B, F, as, ρ, w, d, w', sr, hev, q⟩
  rw [he] at hev
  obtain ⟨d1, w1, e1, hev⟩ := R.bind_ok hev
  obtain ⟨hev, rfl⟩ := ofO_ok hev
  refine ⟨B, F, as, ρ, w, d1, _, sr, e1, fun u F1 as1 H1 g1 r1 o1 => ?_⟩
  exact hr u H1 Z (h B F1 as1 ρ _ σ H1 d1 d u Z r1 ((o1.top r1).toD r1) hev fun p o hp rep => q (hn _ _ _ hev) p o F1 as1 (upd H1 p o) (g1.trans (Grw.newO hp)) (r1.newO hp) (g1.tr p hp) (r1.sub.non hp) (r1.notin hp) upd_same rep)
/-- f(a), a built-in function or type -/
theorem one_blt {id : String} {rr : List V → Hp → VK → Prop} {t : TE} (G : Gd X N sc k) (hc : CallR X (.builtin id) rr) (hg : isGl sc x = true) (hm : X.mg x = none) (hv : bootBuiltins x = some (.builtin id)) (hs : noStar a = true) (ha : PE X a t) : PE X (.Call (.Name x p) [a] [] pos) (tCB rr (tCons t tNil)) := by
  obtain ⟨hgl, hdb, hn⟩ := G.gl hg
  exact pe_callB hc hgl hm hv (pa_cons ha pa_nil (starEach_plain hs)) hn hdb (starEach_plain hs)
theorem one_ty {id : String} {rr : List V → Hp → VK → Prop} {t : TE} (G : Gd X N sc k) (hc : CallR X (.type id) rr) (hg : isGl sc x = true) (hm : X.mg x = none) (hv : bootBuiltins x = some (.type id)) (hs : noStar a = true) (ha : PE X a t) : PE X (.Call (.Name x p) [a] [] pos) (tCB rr (tCons t tNil)) := by
  obtain ⟨hgl, hdb, hn⟩ := G.gl hg
  exact pe_callTy hc hgl hm hv (pa_cons ha pa_nil (starEach_plain hs)) hn hdb (starEach_plain hs)
/-! ### the rules -/
theorem Top.sq {K : PySem.W.Frag} {F : Hp} {as : List Addr} {H : Hp} {xs : List D} {v : V} (l : Le F H) (h : Top K Q F as H (.lst xs) v ∨ Top K Q F as H (.tup xs) v) : ∃ a ys, v = .ref a ∧ (SqL K H a ys ∨ SqT K H a ys) ∧ RepL K Q F as xs ys := by
  rcases h with h | h
  · obtain ⟨a, ys, rfl, h1, h2⟩ := h.lst_
    exact ⟨a, ys, rfl, .inl (.inl (.inl h1)), h2⟩
  · obtain ⟨a, ys, rfl, h1, h2⟩ := h.tup_
    exact ⟨a, ys, rfl, .inr (l.sqT h1), h2⟩
theorem repL_ints {K : PySem.W.Frag} {F : Hp} {as : List Addr} : ∀ {ds : List D} {xs : List V} {is : List Int}, RepL K Q F as ds xs → MP.intsO ds = some is → xs = is.map V.int
  | [], xs, is, h, e => by
    simp only [RepL] at h
    cases e
    exact h
  | d :: ds, xs, is, h, e => by
    simp only [RepL] at h
    obtain ⟨v, vs, rfl, r, rs⟩ := h
    cases d <;> simp only [MP.intsO, reduceCtorEq] at e
    obtain ⟨is', e', rfl⟩ := Option.map_eq_some_iff.mp e
    rw [repL_ints rs e', List.map_cons]
    simp only [Rep] at r
    rw [r]
theorem repL_bools {K : PySem.W.Frag} {F : Hp} {as : List Addr} : ∀ {ds : List D} {xs : List V} {is : List Bool}, RepL K Q F as ds xs → bools ds = some is → xs = is.map V.bl
  | [], xs, is, h, e => by
    simp only [RepL] at h
    cases e
    exact h
  | d :: ds, xs, is, h, e => by
    simp only [RepL] at h
    obtain ⟨v, vs, rfl, r, rs⟩ := h
    cases d <;> simp only [bools, reduceCtorEq] at e
    obtain ⟨is', e', rfl⟩ := Option.map_eq_some_iff.mp e
    rw [repL_bools rs e', List.map_cons]
    simp only [Rep] at r
    rw [r]
theorem repL_strs {K : PySem.W.Frag} {F : Hp} {as : List Addr} : ∀ {ds : List D} {xs : List V} {is : List (List Nat)}, RepL K Q F as ds xs → MP.strsO ds = some is → xs = (is.map toS).map V.str ∧ ∀ s ∈ is, ∀ c ∈ s, c < 1114112
  | [], xs, is, h, e => by
    simp only [RepL] at h
    cases e
    exact ⟨h, fun _ m => absurd m (List.not_mem_nil)⟩
  | d :: ds, xs, is, h, e => by
    simp only [RepL] at h
    obtain ⟨v, vs, rfl, r, rs⟩ := h
    cases d <;> simp only [MP.strsO, reduceCtorEq] at e
    obtain ⟨is', e', rfl⟩ := Option.map_eq_some_iff.mp e
    obtain ⟨h1, h2⟩ := repL_strs rs e'
    simp only [Rep] at r
    rw [h1, r.1]
    exact ⟨rfl, fun s m => (List.mem_cons.mp m).elim (fun z => z ▸ r.2) (h2 s)⟩
def rLen2 (K : PySem.W.Frag) : List V → Hp → VK → Prop := fun xs H Z => (∃ x n, xs = [x] ∧ LenV K x H n ∧ Z (.int n) H) ∨ ∃ a kvs, xs = [V.ref a] ∧ Rd H a (.dK kvs) ∧ Z (.int kvs.length) H
theorem op1_len {K : PySem.W.Frag} : Op1 K Q S (fun w x => bfD w .len [x]) fun u H Z => rLen2 K [u] H Z := by
  intro B F as ρ w σ H x d u Z sr tx hf q
  simp only [bfD] at hf
  cases e : deref w x <;> rw [e] at hf tx <;> simp only [reduceCtorEq, Option.some.injEq] at hf
  · split at hf
    case isFalse => cases hf
    rename_i hsz
    cases hf
    obtain ⟨rfl, hs⟩ := tx.str_
    exact .inl ⟨_, _, rfl, ⟨by rw [toS_length]; exact bigN_le hsz, rfl⟩, by rw [toS_length]; exact q _ F as H Grw.rfl' sr (by simp only [Rep])⟩
  · subst hf
    obtain ⟨a, ys, rfl, h1, h2⟩ := tx.tup_
    exact .inl ⟨_, _, rfl, .inr ⟨ys, sr.sub.sqT h1, rfl⟩, by rw [h2.length]; exact q _ F as H Grw.rfl' sr (by simp only [Rep])⟩
  · subst hf
    obtain ⟨a, ys, rfl, h1, h2⟩ := tx.lst_
    exact .inl ⟨_, _, rfl, .inl ⟨ys, .inl (.inl h1), rfl⟩, by rw [h2.length]; exact q _ F as H Grw.rfl' sr (by simp only [Rep])⟩
  · subst hf
    obtain ⟨a, kvs, rfl, h1, h2, h3⟩ := tx.dct_
    have hl := congrArg List.length h2
    rw [List.length_map, List.length_map] at hl
    exact .inr ⟨a, kvs, rfl, h1, q _ F as H Grw.rfl' sr (by simp only [Rep]; rw [hl])⟩
theorem call_lenR : CallR X (.builtin "len") (fun xs H Z => ∃ a kvs, xs = [V.ref a] ∧ Rd H a (.dK kvs) ∧ Z (.int kvs.length) H) := by
  intro pins s σ H xs us Q I r h
  obtain ⟨a, kvs, rfl, ha, q⟩ := h
  obtain ⟨u, rfl, ru⟩ := vals1 r
  cases ru
  exact d_len I ha fun t s' I' => ⟨.int kvs.length, H, I', ⟨t, rfl⟩, q⟩
theorem len2 : CallR X (.builtin "len") (rLen2 X.K) := fun pins s σ H xs us Z I r h => h.elim (call_len pins s σ H xs us Z I r) (call_lenR pins s σ H xs us Z I r)

theorem op1_tuple {K : PySem.W.Frag} : Op1 K Q S (fun w x => bfD w .tuple [x]) fun u H Z => ∃ p ys, [u] = [V.ref p] ∧ ((SqL K H p ys ∧ ∀ l, H l = none → Z (.ref l) (upd H l (.tup ys))) ∨ (SqT K H p ys ∧ Z (.ref p) H)) := by
  intro B F as ρ w σ H x d u Z sr tx hf q
  simp only [bfD] at hf
  cases e : deref w x <;> rw [e] at hf tx <;> simp only [reduceCtorEq, Option.some.injEq] at hf
  · subst hf
    obtain ⟨a, ys, rfl, h1, h2⟩ := tx.tup_
    exact ⟨a, ys, rfl, .inr ⟨sr.sub.sqT h1, q _ F as H Grw.rfl' sr (by simp only [Rep]; exact ⟨a, ys, rfl, h1, h2⟩)⟩⟩
  · subst hf
    obtain ⟨a, ys, rfl, h1, h2⟩ := tx.lst_
    refine ⟨a, ys, rfl, .inl ⟨.inl (.inl h1), fun l hl => q (.ref l) (upd F l (.tup ys)) as (upd H l (.tup ys)) (Grw.newF hl (sr.sub.non hl)) (sr.newF hl) ?_⟩⟩
    simp only [Rep]
    exact ⟨l, ys, rfl, .inl (.inl upd_same), h2.mono (Le.upd (sr.sub.non hl)) Pre.rfl'⟩
def rList2 (K : PySem.W.Frag) : List V → Hp → VK → Prop := fun xs H Z => (∃ p ys, xs = [.ref p] ∧ (SqL K H p ys ∨ SqT K H p ys) ∧ ∀ l, H l = none → Z (.ref l) (upd H l (.lst ys))) ∨ ∃ p kvs, xs = [.ref p] ∧ Rd H p (.dK kvs) ∧ ∀ q, H q = none → Z (.ref q) (upd H q (.lst (kvs.map fun kv => kV kv.1)))
theorem call_list_rd {X : Cx} (hc : X.calm = true) : CallR X (.type "list") (fun xs H Z => ∃ p kvs, xs = [.ref p] ∧ Rd H p (.dK kvs) ∧ ∀ q, H q = none → Z (.ref q) (upd H q (.lst (kvs.map fun kv => kV kv.1)))) := by
  intro pins s σ H xs us Q I r h
  obtain ⟨p, kvs, e, hk, q⟩ := h
  subst e
  obtain ⟨u, eu, rx⟩ := vals1 r
  subst eu
  obtain rfl : u = Value.ref p := rx
  obtain ⟨z, lo, vs, rk, hd⟩ := dk_rd I.hok hk
  obtain ⟨ep, hat⟩ := hd.dictAt
  have hl : kvs.length = vs.length := Paired.length rk
  refine PySem.W.kdl_call (PySem.W.kdl_dict (knd := mixKind X.prog X.w) (kvs := vs) (ep := ep) lo) (I.ok.hd hc) hat (by rw [← hl]; exact z) fun h' tk acc' c' hkeep hS hacc => ?_
  refine ⟨.ref s.heap.objs.size, upd H s.heap.objs.size (.lst (kvs.map fun kv => kV kv.1)), I.laid hkeep (Nat.le_refl _) (show ObjOk X.prog X.w _ _ _ (.lst (kvs.map fun kv => kV kv.1)) from ⟨?_, acc'.toList, c', ?_, ?_⟩), rfl, q _ (I.hok.fresh (Nat.le_refl _))⟩
  · rw [List.length_map]; exact z
  · have el : acc'.toList.length = acc'.size := by simp
    refine vals_of_at (by rw [List.length_map, el, hacc.1, hl]) fun j x w h1 h2 => ?_
    obtain ⟨k, y, hky, hi⟩ := hacc.2 j w (by rw [← Array.getElem?_toList]; exact h2)
    have e1 : (kvs.map (·.1))[j]? = some k := by
      rw [KV.keys rk, List.getElem?_map, hky] <;> rfl
    have e2 : (kvs.map fun kv => kV kv.1)[j]? = some (kV k) := by
      have e3 : (kvs.map fun kv => kV kv.1) = (kvs.map (·.1)).map kV := by rw [List.map_map] <;> rfl
      rw [e3, List.getElem?_map, e1] <;> rfl
    rw [e2] at h1
    cases h1
    exact keyIs_rel hi
  · rw [Array.toArray_toList]; exact hS
theorem call_list3 {X : Cx} (hc : X.calm = true) : CallR X (.type "list") (rList2 X.K) := fun pins s σ H xs us Z I r h => h.elim (call_list_of pins s σ H xs us Z I r) (call_list_rd hc pins s σ H xs us Z I r)
theorem rep_ky {K : PySem.W.Frag} {F : Hp} {as : List Addr} {x : D} {k : Key} (h : kyD x = true) (hk : keyO x = some k) : Rep K Q F as x (kV k) := by
  cases x <;> simp only [kyD, Bool.false_eq_true] at h <;> simp only [keyO, Option.some.injEq] at hk <;> subst hk <;> simp only [Rep, kV]
  exact ⟨trivial, fun c hc => of_decide_eq_true (List.all_eq_true.mp h c hc)⟩
theorem reps_ky {K : PySem.W.Frag} {F : Hp} {as : List Addr} : ∀ {ks : List D} {kvs : List (Key × V)}, ks.all kyD = true → ks.map keyO = kvs.map (fun p => some p.1) → RepL K Q F as ks (kvs.map fun kv => kV kv.1)
  | [], [], _, _ => .nil
  | [], _ :: _, _, h => by cases h
  | _ :: _, [], _, h => by cases h
  | x :: ks, p :: kvs, h, e => by
    rw [List.all_cons, Bool.and_eq_true] at h
    rw [List.map_cons, List.map_cons] at e
    injection e with e1 e2
    exact .cons (rep_ky h.1 e1) (reps_ky h.2 e2)
theorem op1_list {K : PySem.W.Frag} : Op1N K Q S (fun w x => bfD w .list [x]) fun u H Z => rList2 K [u] H Z := by
  intro B F as ρ w σ H x d u Z sr tx hf q
  simp only [bfD] at hf
  cases e : deref w x <;> rw [e] at hf tx <;> simp only [reduceCtorEq, Option.some.injEq] at hf
  · subst hf
    obtain ⟨a, ys, rfl, h1, h2⟩ := tx.tup_
    exact .inl ⟨a, ys, rfl, .inr (sr.sub.sqT h1), fun l hl => q l _ hl ⟨ys, rfl, h2⟩⟩
  · subst hf
    obtain ⟨a, ys, rfl, h1, h2⟩ := tx.lst_
    exact .inl ⟨a, ys, rfl, .inl (.inl (.inl h1)), fun l hl => q l _ hl ⟨ys, rfl, h2⟩⟩
  · split at hf
    case isFalse => cases hf
    rename_i hk
    cases hf
    obtain ⟨a, kvs, rfl, h1, h2, h3⟩ := tx.dct_
    exact .inr ⟨a, kvs, rfl, h1, fun l hl => q l _ hl ⟨_, rfl, reps_ky hk h2⟩⟩
theorem op1_abs {K : PySem.W.Frag} : Op1 K Q S (fun w x => bfD w .abs [x]) fun u H Z => ∃ i, [u] = [V.int i] ∧ Z (.int (if i < 0 then -i else i)) H := by
  intro B F as ρ w σ H x d u Z sr tx hf q
  cases x <;> simp only [bfD, reduceCtorEq, Option.some.injEq] at hf
  subst hf
  have := tx.int_
  subst this
  exact ⟨_, rfl, q _ F as H Grw.rfl' sr (by simp only [Rep])⟩
theorem natS_ok : ∀ {s : List Nat} {acc m : Nat}, natS acc s = some m → NumText.AllDigits s ∧ s.foldl (fun acc c => acc * 10 + (c - 48)) acc = m
  | [], acc, m, h => by
    cases (show some acc = some m from h)
    exact ⟨fun c hc => absurd hc List.not_mem_nil, rfl⟩
  | c :: r, acc, m, h => by
    have h' : (if 48 ≤ c ∧ c ≤ 57 then natS (acc * 10 + (c - 48)) r else none) = some m := h
    split at h'
    case isFalse => cases h'
    rename_i hc
    obtain ⟨h1, h2⟩ := natS_ok h'
    exact ⟨fun x hx => (List.mem_cons.mp hx).elim (fun e => e ▸ hc) (h1 x), h2⟩
theorem intS_ok {s : List Nat} {i : Int} (h : intS s = some i) (hl : s.length ≤ 640) : PySem.intText? (toS s) = some i := by
  have e : (toS s).cps.toList = s := toS_toList s
  have hl' : (toS s).length ≤ 4300 := by rw [toS_length]; omega
  unfold intS at h
  split at h
  · cases h
  · split at h
    · cases h
    · rename_i r hr
      obtain ⟨m, hm, rfl⟩ := Option.map_eq_some_iff.mp h
      obtain ⟨h1, h2⟩ := natS_ok hm
      rw [intText_neg e h1 hr hl']
      unfold NumText.digitsVal
      rw [h2]
  · obtain ⟨m, hm, rfl⟩ := Option.map_eq_some_iff.mp h
    obtain ⟨h1, h2⟩ := natS_ok hm
    rw [intText_digits (by rw [e]; exact h1) (by rw [e]; simp) hl', e]
    unfold NumText.digitsVal
    rw [h2]
def rInt3 : List V → Hp → VK → Prop := fun xs H Z => ((∃ i, xs = [V.int i] ∧ Z (.int i) H) ∨ ∃ k, xs = [V.bl k] ∧ Z (.int (if k then 1 else 0)) H) ∨ ∃ a n, xs = [.str a] ∧ PySem.intText? a = some n ∧ a.length ≤ 640 ∧ Z (.int n) H
theorem call_int3 : CallR X (.type "int") rInt3 := fun pins s σ H xs us Z I r h => h.elim (call_int1 pins s σ H xs us Z I r) (call_int_str pins s σ H xs us Z I r)
theorem op1_int {K : PySem.W.Frag} : Op1 K Q S (fun w x => bfD w .int [x]) fun u H Z => rInt3 [u] H Z := by
  intro B F as ρ w σ H x d u Z sr tx hf q
  cases x <;> simp only [bfD, reduceCtorEq, Option.some.injEq] at hf
  · subst hf
    have : u = .bl (by assumption) := by simpa only [deref, Top, Rep] using tx
    subst this
    exact .inl (.inr ⟨_, rfl, q _ F as H Grw.rfl' sr (by simp only [Rep])⟩)
  · subst hf
    have := tx.int_
    subst this
    exact .inl (.inl ⟨_, rfl, q _ F as H Grw.rfl' sr (by simp only [Rep])⟩)
  · split at hf
    case isFalse => cases hf
    rename_i hl
    obtain ⟨i, hi, rfl⟩ := Option.map_eq_some_iff.mp hf
    obtain ⟨rfl, hs⟩ := tx.str_
    exact .inr ⟨_, i, rfl, intS_ok hi hl, by rw [toS_length]; exact hl, q _ F as H Grw.rfl' sr (by simp only [Rep])⟩
theorem deref_lst {K : PySem.W.Frag} {B : Bs} {F : Hp} {as : List Addr} {ρ : En} {w : Wd} {σ : L2.St} {H : Hp} {u : V} {xs : List D} (tx : Top K Q F as H (deref w (.lst xs)) u) : ∃ a ys, u = .ref a ∧ SqL K H a ys ∧ RepL K Q F as xs ys := by
  obtain ⟨a, ys, rfl, h1, h2⟩ := (show Top K Q F as H (.lst xs) u from tx).lst_
  exact ⟨a, ys, rfl, .inl (.inl h1), h2⟩
theorem op1_all {K : PySem.W.Frag} : Op1 K Q S (fun w x => bfD w .all [x]) fun u H Z => rAll K [u] H Z := by
  intro B F as ρ w σ H x d u Z sr tx hf q
  cases x <;> simp only [bfD, reduceCtorEq] at hf
  obtain ⟨bs, hb, rfl⟩ := Option.map_eq_some_iff.mp hf
  obtain ⟨a, ys, rfl, h1, h2⟩ := deref_lst (B := B) (ρ := ρ) (σ := σ) tx
  have := repL_bools h2 hb
  subst this
  exact ⟨a, bs, rfl, h1, q _ F as H Grw.rfl' sr (by simp only [Rep])⟩
theorem op1_any {K : PySem.W.Frag} : Op1 K Q S (fun w x => bfD w .any [x]) fun u H Z => rAny K [u] H Z := by
  intro B F as ρ w σ H x d u Z sr tx hf q
  cases x <;> simp only [bfD, reduceCtorEq] at hf
  obtain ⟨bs, hb, rfl⟩ := Option.map_eq_some_iff.mp hf
  obtain ⟨a, ys, rfl, h1, h2⟩ := deref_lst (B := B) (ρ := ρ) (σ := σ) tx
  have := repL_bools h2 hb
  subst this
  exact ⟨a, bs, rfl, h1, q _ F as H Grw.rfl' sr (by simp only [Rep])⟩
theorem op1_sum {K : PySem.W.Frag} : Op1 K Q S (fun w x => bfD w .sum [x]) fun u H Z => rSum K [u] H Z := by
  intro B F as ρ w σ H x d u Z sr tx hf q
  cases x <;> simp only [bfD, reduceCtorEq] at hf
  obtain ⟨bs, hb, rfl⟩ := Option.map_eq_some_iff.mp hf
  obtain ⟨a, ys, rfl, h1, h2⟩ := deref_lst (B := B) (ρ := ρ) (σ := σ) tx
  have := repL_ints h2 hb
  subst this
  exact ⟨a, bs, rfl, h1, q _ F as H Grw.rfl' sr (by simp only [Rep])⟩
theorem insI_perm (x : Int) : ∀ l, (insI x l).Perm (x :: l)
  | [] => .refl _
  | y :: ys => by
    show (if x < y then x :: y :: ys else y :: insI x ys).Perm _
    split
    · exact .refl _
    · exact ((insI_perm x ys).cons y).trans (.swap x y ys)
theorem insI_sorted {x : Int} : ∀ {l : List Int}, l.Pairwise (· ≤ ·) → (insI x l).Pairwise (· ≤ ·)
  | [], _ => by simp [insI]
  | y :: ys, h => by
    rw [List.pairwise_cons] at h
    show (if x < y then x :: y :: ys else y :: insI x ys).Pairwise _
    split
    · rename_i q
      rw [List.pairwise_cons, List.pairwise_cons]
      exact ⟨fun z hz => (List.mem_cons.mp hz).elim (fun e => by omega) fun m => by have := h.1 z m; omega, h⟩
    · rename_i q
      rw [List.pairwise_cons]
      exact ⟨fun z hz => by
        rcases List.mem_cons.mp ((insI_perm x ys).mem_iff.mp hz) with e | m
        · omega
        · exact h.1 z m, insI_sorted h.2⟩
theorem sortI_perm : ∀ l, (sortI l).Perm l
  | [] => .refl _
  | x :: xs => (insI_perm x _).trans ((sortI_perm xs).cons x)
theorem sortI_sorted : ∀ l, (sortI l).Pairwise (· ≤ ·)
  | [] => .nil
  | x :: xs => insI_sorted (sortI_sorted xs)
theorem sorted_eq {a b : List Int} (h : a.Perm b) (ha : a.Pairwise (· ≤ ·)) (hb : b.Pairwise (· ≤ ·)) : a = b :=
  h.eq_of_pairwise (fun x y _ _ h1 h2 => Int.le_antisymm h1 h2) ha hb
theorem repL_of_ints {K : PySem.W.Frag} {F : Hp} {as : List Addr} : ∀ is : List Int, RepL K Q F as (is.map D.int) (is.map V.int)
  | [] => .nil
  | i :: is => by
    rw [List.map_cons, List.map_cons]
    exact RepL.cons (by simp only [Rep]) (repL_of_ints is)
theorem repL_of_strs {K : PySem.W.Frag} {F : Hp} {as : List Addr} : ∀ {is : List (List Nat)}, (∀ s ∈ is, ∀ c ∈ s, c < 1114112) → RepL K Q F as (is.map D.str) ((is.map toS).map V.str)
  | [], _ => .nil
  | i :: is, h => by
    rw [List.map_cons, List.map_cons, List.map_cons]
    exact RepL.cons (by simp only [Rep]; exact ⟨trivial, h i List.mem_cons_self⟩) (repL_of_strs fun s m => h s (List.mem_cons_of_mem _ m))
theorem op1_sorted {K : PySem.W.Frag} : Op1N K Q S (fun w x => bfD w .sorted [x]) fun u H Z => rSortedI K [u] H Z := by
  intro B F as ρ w σ H x d u Z sr tx hf q
  cases x <;> simp only [bfD, reduceCtorEq] at hf
  split at hf
  case isFalse => cases hf
  obtain ⟨bs, hb, rfl⟩ := Option.map_eq_some_iff.mp hf
  obtain ⟨a, ys, rfl, h1, h2⟩ := deref_lst (B := B) (ρ := ρ) (σ := σ) tx
  have := repL_ints h2 hb
  subst this
  refine ⟨a, bs, rfl, h1, fun ns' p hp hs hn => ?_⟩
  rw [sorted_eq (hp.trans (sortI_perm bs).symm) hs (sortI_sorted bs)]
  exact q p _ hn ⟨_, rfl, repL_of_ints _⟩
theorem digits_eq (n : Nat) : digitsN n = (toString n).toList.map Char.toNat := by
  show (Nat.toDigits 10 n).map Char.toNat = (String.ofList (Nat.toDigits 10 n)).toList.map Char.toNat
  rw [String.toList_ofList]
theorem strI_eq (i : Int) : toS (strI i) = Str.ofString (toString i) := by
  have e : (toString i).toList.map Char.toNat = strI i := by
    cases i with
    | ofNat n =>
      show (toString n).toList.map Char.toNat = _
      rw [← digits_eq]
      unfold strI
      rw [if_neg (by have : (0:Int) ≤ Int.ofNat n := Int.natCast_nonneg n; omega)]
      rfl
    | negSucc n =>
      show ("-" ++ toString (n + 1)).toList.map Char.toNat = _
      rw [String.toList_append, List.map_append, ← digits_eq]
      unfold strI
      rw [if_pos (Int.negSucc_lt_zero n)]
      rfl
  rw [Str.ofString_eq_toList, e]
  rfl
theorem strI_small {i : Int} : ∀ c ∈ strI i, c < 1114112 := by
  have hd : ∀ n, ∀ c ∈ digitsN n, c < 1114112 := fun n c hc => by
    obtain ⟨x, hx, rfl⟩ := List.mem_map.mp hc
    have := Nat.isDigit_of_mem_toDigits (b := 10) (by omega) (by omega) hx
    simp [Char.isDigit] at this
    have h2 : x.val ≤ 57 := this.2
    show x.val.toNat < _
    have : x.val.toNat ≤ 57 := h2
    omega
  intro c hc
  unfold strI at hc
  split at hc
  · rcases List.mem_cons.mp hc with rfl | h
    · omega
    · exact hd _ c h
  · exact hd _ c hc
theorem op1_str {K : PySem.W.Frag} : Op1 K Q S (fun w x => bfD w .str [x]) fun u H Z => ∃ i : Int, [u] = [V.int i] ∧ i.natAbs.log2 < 1920 ∧ Z (.str (toString i)) H := by
  intro B F as ρ w σ H x d u Z sr tx hf q
  cases x <;> simp only [bfD, reduceCtorEq] at hf
  rename_i i
  split at hf
  case isFalse => cases hf
  rename_i hz
  cases hf
  have := tx.int_
  subst this
  refine ⟨i, rfl, ?_, q _ F as H Grw.rfl' sr ?_⟩
  · by_cases h0 : i.natAbs = 0
    · rw [h0]; decide
    · exact Nat.lt_of_lt_of_le ((Nat.log2_lt h0).mpr hz) (by omega)
  · simp only [Rep]
    exact ⟨by rw [strI_eq], strI_small⟩
/-! ### a[lo:hi] -/
def isOptE : Option Expr → Bool
  | none => true
  | some _ => false
def tOpt (K : PySem.W.Frag) (Q : Cls) (T : Tb) (C : CallF) (S : List Nat) (c : CE) : TO := fun σ H Z => ∃ B F as ρ w d w' o, SR K Q B S F as ρ w σ H ∧ ev T C c ρ w = .ok d w' ∧ partD c d = some o ∧
  ∀ F' as' H', Grw F as H F' as' H' → SR K Q B S F' as' ρ w' σ H' → Z o H'
theorem part_none : PO X none (tOpt X.K Q T C S .non) := ⟨fun pins s σ H Z I ⟨B, F, as, ρ, w, d, w', o, sr, he, ho, q⟩ => by
  cases (show R.ok D.non w = .ok d w' from he)
  cases (show some none = some o from ho)
  exact po_none.run pins s σ H Z I (q F as H Grw.rfl' sr)⟩
theorem part_some (hc : ∀ d, partD ca d = (match d with | .int i => some (some i) | _ => none)) (h : PE X a (tE X.K Q T C S ca)) : PO X (some a) (tOpt X.K Q T C S ca) := ⟨fun pins s σ H Z I ⟨B, F, as, ρ, w, d, w', o, sr, he, ho, q⟩ => by
  rw [hc] at ho
  cases d <;> simp only [reduceCtorEq, Option.some.injEq] at ho
  subst ho
  exact (po_some h).run pins s σ H Z I ⟨B, F, as, ρ, w, _, w', sr, he, fun v F' as' H' g r' rv => ⟨_, by simpa only [Rep] using rv, q F' as' H' g r'⟩⟩⟩
theorem clamp_eq (n d : Nat) (o : Option Int) : HT.sIx n d o = (match o with | none => d | some i => clampI n i) := by
  cases o with
  | none => rfl
  | some v =>
    show (if v < 0 then (v + (n : Int)).toNat else min v.toNat n) = if 0 ≤ v then min v.toNat n else (v + n).toNat
    by_cases h : v < 0
    · rw [if_pos h, if_neg (by omega)]
    · rw [if_neg h, if_pos (by omega)]
theorem repL_sli {K : PySem.W.Frag} {F : Hp} {as : List Addr} {ds : List D} {xs : List V} {lo hi : Option Int} (h : RepL K Q F as ds xs) : RepL K Q F as (sliL ds lo hi) (cutV xs lo hi) := by
  unfold sliL cutV
  rw [clamp_eq, clamp_eq, h.length]
  exact (h.drop _).take _
def rSl4 (K : PySem.W.Frag) : V → Option Int → Option Int → Hp → VK → Prop := fun x lo hi H Z => rSlL K x lo hi H Z ∨ (rSlA K x lo hi H Z ∨ rSlS x lo hi H Z)
theorem op_sli {K : PySem.W.Frag} {B : Bs} {F : Hp} {as : List Addr} {ρ : En} {w : Wd} {σ : L2.St} {H : Hp} {x d : D} {u : V} {lo hi : Option Int} {Z : VK} (sr : SR K Q B S F as ρ w σ H) (tx : Top K Q F as H (deref w x) u) (hf : sliD w x (some lo) (some hi) = some d)
    (q : ∀ v F' as' H', Grw F as H F' as' H' → SR K Q B S F' as' ρ w σ H' → Rep K Q F' as' d v → Z v H') : rSl4 K u lo hi H Z := by
  simp only [sliD] at hf
  cases e : deref w x <;> rw [e] at hf tx <;> simp only [reduceCtorEq, Option.some.injEq] at hf
  · split at hf
    case isFalse => cases hf
    rename_i hsz
    cases hf
    obtain ⟨rfl, hs⟩ := tx.str_
    refine .inr (.inr ⟨_, rfl, by rw [toS_length]; exact bigN_le hsz, q _ F as H Grw.rfl' sr ?_⟩)
    simp only [Rep]
    refine ⟨?_, fun c hc => hs c (List.mem_of_mem_drop (List.mem_of_mem_take hc))⟩
    unfold cutS sliL
    rw [clamp_eq, clamp_eq, toS_length, toS_toList]
    rfl
  · subst hf
    obtain ⟨a, ys, rfl, h1, h2⟩ := tx.tup_
    refine .inr (.inl ⟨a, ys, rfl, sr.sub.sqT h1, fun hw => q _ F as H Grw.rfl' sr ?_, fun hw p hp => q (.ref p) (upd F p (.tup (cutV ys lo hi))) as (upd H p (.tup (cutV ys lo hi))) (Grw.newF hp (sr.sub.non hp)) (sr.newF hp) ?_⟩)
    · simp only [Rep]
      refine ⟨a, ys, rfl, h1, ?_⟩
      have := repL_sli (lo := lo) (hi := hi) h2
      have e2 : cutV ys lo hi = ys := by
        unfold cutV
        rw [hw.1, hw.2]
        simp
      rw [e2] at this
      exact this
    · simp only [Rep]
      exact ⟨p, _, rfl, .inl (.inl upd_same), (repL_sli h2).mono (Le.upd (sr.sub.non hp)) Pre.rfl'⟩
  · subst hf
    obtain ⟨a, ys, rfl, h1, h2⟩ := tx.lst_
    refine .inl ⟨a, ys, rfl, .inl (.inl h1), fun p hp => q (.ref p) (upd F p (.lst (cutV ys lo hi))) as (upd H p (.lst (cutV ys lo hi))) (Grw.newF hp (sr.sub.non hp)) (sr.newF hp) ?_⟩
    simp only [Rep]
    exact ⟨p, _, rfl, upd_same, (repL_sli h2).mono (Le.upd (sr.sub.non hp)) Pre.rfl'⟩
theorem snd_sli {lo hi : Option Expr} {p2 : Pos} (ha : PE X a (tO X.K Q T C S ca)) (hb : PO X lo (tOpt X.K Q T C S cb)) (hc : PO X hi (tOpt X.K Q T C S cc)) : PE X (.Subscript a (.Slice lo hi none p2) pos) (tE X.K Q T C S (.sli ca cb cc)) :=
  (pe_slice (r := rSl4 X.K) (sl_list.or (sl_tupA.or sl_str)) ha hb hc).imp fun σ H Z ⟨B, F, as, ρ, w, d, w', sr, he, q⟩ => by
    obtain ⟨d1, w1, e1, he⟩ := R.bind_ok (show (ev T C ca ρ w).bind _ = .ok d w' from he)
    obtain ⟨d2, w2, e2, he⟩ := R.bind_ok (show (ev T C cb ρ w1).bind _ = .ok d w' from he)
    obtain ⟨d3, w3, e3, he⟩ := R.bind_ok (show (ev T C cc ρ w2).bind _ = .ok d w' from he)
    obtain ⟨he, rfl⟩ := ofO_ok he
    have hl : ∃ l, partD cb d2 = some l := by
      unfold sliD at he
      cases q1 : partD cb d2 with
      | none => rw [q1] at he; cases he
      | some l => exact ⟨l, rfl⟩
    have hh : ∃ l, partD cc d3 = some l := by
      unfold sliD at he
      cases q1 : partD cc d3 with
      | none => rw [q1] at he; cases q2 : partD cb d2 <;> rw [q2] at he <;> cases he
      | some l => exact ⟨l, rfl⟩
    obtain ⟨l, hl⟩ := hl
    obtain ⟨h, hh⟩ := hh
    rw [hl, hh] at he
    refine ⟨B, F, as, ρ, w, d1, w1, sr, e1, fun u F1 as1 H1 g1 r1 o1 => ⟨B, F1, as1, ρ, w1, d2, w2, l, r1, e2, hl, fun F2 as2 H2 g2 r2 => ⟨B, F2, as2, ρ, w2, d3, _, h, r2, e3, hh, fun F3 as3 H3 g3 r3 => ?_⟩⟩⟩
    have o3 := (o1.mono g2.fz g2.pr).mono g3.fz g3.pr
    exact op_sli r3 ((o3.top r3).toD r3) he fun v F' as' H' g r' rv => q v F' as' H' (((g1.trans g2).trans g3).trans g) r' rv
/-- xs[::-1], a list -/
theorem snd_rev {e3 : Expr} {p1 p2 p3 : Pos} {kk : Nat} (ha : PE X a (tO X.K Q T C S ca)) : PE X (.Subscript a (.Slice none none (some (.UnaryOp .USub (.Constant (.int 1) kk p1) p2)) p3) pos) (tE X.K Q T C S (.rev ca)) :=
  (pe_revL ha).imp fun σ H Z ⟨B, F, as, ρ, w, d, w', sr, he, q⟩ => by
    obtain ⟨d1, w1, e1, he⟩ := R.bind_ok (show (ev T C ca ρ w).bind _ = .ok d w' from he)
    obtain ⟨he, rfl⟩ := ofO_ok he
    refine ⟨B, F, as, ρ, w, d1, _, sr, e1, fun u F1 as1 H1 g1 r1 o1 => ?_⟩
    have tx := (o1.top r1).toD r1
    unfold revD at he
    cases e : deref w' d1 <;> rw [e] at he tx <;> simp only [reduceCtorEq, Option.some.injEq] at he
    subst he
    obtain ⟨b, ys, rfl, h1, h2⟩ := tx.lst_
    refine ⟨b, ys, rfl, .inl (.inl h1), fun p hp => q (.ref p) (upd F1 p (.lst ys.reverse)) as1 (upd H1 p (.lst ys.reverse)) (g1.trans (Grw.newF hp (r1.sub.non hp))) (r1.newF hp) ?_⟩
    simp only [Rep]
    exact ⟨p, _, rfl, upd_same, h2.reverse.mono (Le.upd (r1.sub.non hp)) Pre.rfl'⟩
/-! ### two arguments -/
theorem two_blt {id : String} {rr : List V → Hp → VK → Prop} {t t' : TE} (G : Gd X N sc k) (hc : CallR X (.builtin id) rr) (hg : isGl sc x = true) (hm : X.mg x = none) (hv : bootBuiltins x = some (.builtin id)) (hs : noStar a = true) (hs' : noStar b = true) (ha : PE X a t) (hb : PE X b t') : PE X (.Call (.Name x p) [a, b] [] pos) (tCB rr (tCons t (tCons t' tNil))) := by
  obtain ⟨hgl, hdb, hn⟩ := G.gl hg
  refine pe_callB hc hgl hm hv (pa_cons ha (pa_cons hb pa_nil (starEach_plain hs')) (starEach_plain hs)) hn hdb (starEach_plain hs) ?_
  rw [starEach_plain hs']
  rfl
theorem two2_of {K : PySem.W.Frag} {f : Wd → D → D → Option D} {r : R2} {rr : List V → Hp → VK → Prop} {c : CE} (h : OpD K Q S f r) (hr : ∀ u v H Z, r u v H Z → rr [u, v] H Z) (he : ∀ ρ w, ev T C c ρ w = (ev T C ca ρ w).bind fun d w => (ev T C cb ρ w).bind fun d' w => ofO (f w d d') w) :
    ∀ σ H Z, tE K Q T C S c σ H Z → tCB rr (tCons (tO K Q T C S ca) (tCons (tO K Q T C S cb) tNil)) σ H Z := by
  rintro σ H Z ⟨B, F, as, ρ, w, d, w', sr, hev, q⟩
  rw [he] at hev
  obtain ⟨d1, w1, e1, hev⟩ := R.bind_ok hev
  obtain ⟨d2, w2, e2, hev⟩ := R.bind_ok hev
  obtain ⟨hev, rfl⟩ := ofO_ok hev
  refine ⟨B, F, as, ρ, w, d1, w1, sr, e1, fun u F1 as1 H1 g1 r1 o1 => ⟨B, F1, as1, ρ, w1, d2, _, r1, e2, fun v F2 as2 H2 g2 r2 o2 => ?_⟩⟩
  exact hr u v H2 Z (h B F2 as2 ρ _ σ H2 d1 d2 d u v Z r2 ((o1.mono g2.fz g2.pr).top r2) (o2.top r2) hev fun v F' as' H' g r' rv => q v F' as' H' ((g1.trans g2).trans g) r' rv)
theorem opD_max {K : PySem.W.Frag} : OpD K Q S (fun w x y => bfD w .max2 [x, y]) (rI0 fun i j => .int (if j > i then j else i)) := opD_II0 fun w x y d h => by
  cases x <;> cases y <;> simp only [bfD, reduceCtorEq, Option.some.injEq] at h
  exact ⟨_, _, rfl, rfl, fun F as => by subst h; simp only [Rep]⟩
theorem opD_min {K : PySem.W.Frag} : OpD K Q S (fun w x y => bfD w .min2 [x, y]) (rI0 fun i j => .int (if j < i then j else i)) := opD_II0 fun w x y d h => by
  cases x <;> cases y <;> simp only [bfD, reduceCtorEq, Option.some.injEq] at h
  exact ⟨_, _, rfl, rfl, fun F as => by subst h; simp only [Rep]⟩
theorem bf_one {f : Bf} {ρ : En} {w : Wd} : ev T C (.bf f [ca]) ρ w = (ev T C ca ρ w).bind fun d w => ofO (bfD w f [d]) w := by
  show ((ev T C ca ρ w).bind fun d w => (R.ok [] w).bind fun ds w => R.ok (d :: ds) w).bind (fun ds w => ofO (bfD w f ds) w) = _
  cases ev T C ca ρ w <;> rfl
theorem bf_two {f : Bf} {ρ : En} {w : Wd} : ev T C (.bf f [ca, cb]) ρ w = (ev T C ca ρ w).bind fun d w => (ev T C cb ρ w).bind fun d' w => ofO (bfD w f [d, d']) w := by
  show ((ev T C ca ρ w).bind fun d w => ((ev T C cb ρ w).bind fun d w => (R.ok [] w).bind fun ds w => R.ok (d :: ds) w).bind fun ds w => R.ok (d :: ds) w).bind (fun ds w => ofO (bfD w f ds) w) = _
  cases ev T C ca ρ w with
  | ok d w =>
    simp only [R.bind]
    cases ev T C cb ρ w <;> rfl
  | _ => rfl
end
end MP

set_option Elab.async false
set_option linter.all false
set_option maxRecDepth 100000
/-! MP9: targets, walks. -/
namespace MP
open PySem PySem.Spec PyProof.Rows L2
mutual
def pslots : Pat → List Nat
  | .n i => [i]
  | .t ps => pslotsL ps
def pslotsL : List Pat → List Nat
  | [] => []
  | p :: ps => pslots p ++ pslotsL ps
end
/-! ### the state, with slots changed -/
section
variable {K : PySem.W.Frag} {Q : Cls} {B : Bs} {S : List Nat} {F F' H H' : Hp} {as as' : List Addr} {ρ : En} {w w' : Wd} {σ : L2.St} {d : D} {v : V}
theorem getD_set {i j : Nat} {x : Option D} : (ρ.set i x).getD j none = if i = j ∧ i < ρ.length then x else ρ.getD j none := by
  by_cases h : i = j
  · subst h
    by_cases q : i < ρ.length
    · rw [if_pos ⟨rfl, q⟩, List.getD_eq_getElem?_getD, List.getElem?_set_self q]; rfl
    · rw [if_neg (fun z => q z.2), List.getD_eq_getElem?_getD, List.getD_eq_getElem?_getD, List.getElem?_eq_none (by simpa using q), List.getElem?_eq_none (by omega)]
  · rw [if_neg (fun z => h z.1), List.getD_eq_getElem?_getD, List.getD_eq_getElem?_getD, List.getElem?_set_ne h]
theorem SR.put (r : SR K Q B S F as ρ w σ H) {i : Nat} (hi : i ∉ S) (rv : Rep K Q F as d v) : SR K Q B S F as (ρ.set i (some d)) w (σ.set i (some v)) H where
  sub := r.sub
  grw := r.grw
  len := by rw [List.length_set, List.length_set]; exact r.len
  frz := fun j d' e n => by
    rw [getD_set] at e
    by_cases z : i = j ∧ i < ρ.length
    · rw [if_pos z] at e
      cases e
      obtain ⟨rfl, z2⟩ := z
      exact ⟨v, List.getElem?_set_self (by rw [r.len]; exact z2), rv⟩
    · rw [if_neg z] at e
      obtain ⟨v', h1, h2⟩ := r.frz j d' e n
      have ne : i ≠ j := fun q => z ⟨q, by
        rw [q, ← r.len]
        exact (List.getElem?_eq_some_iff.mp h1).1⟩
      exact ⟨v', by rw [List.getElem?_set_ne ne]; exact h1, h2⟩
  own := fun j d' e n => by
    have ne : i ≠ j := fun q => hi (q ▸ n)
    rw [getD_set, if_neg (fun z => ne z.1)] at e
    obtain ⟨a, o, h1, h2⟩ := r.own j d' e n
    exact ⟨a, o, by rw [List.getElem?_set_ne ne]; exact h1, h2⟩
  dis := fun j k a hj hk hjk sj sk e1 e2 => by
    have n1 : i ≠ j := fun q => hi (q ▸ hj)
    have n2 : i ≠ k := fun q => hi (q ▸ hk)
    rw [getD_set, if_neg (fun z => n1 z.1)] at sj
    rw [getD_set, if_neg (fun z => n2 z.1)] at sk
    rw [List.getElem?_set_ne n1] at e1
    rw [List.getElem?_set_ne n2] at e2
    exact r.dis j k a hj hk hjk sj sk e1 e2
  wld := r.wld
  pin := fun a e => ⟨(r.pin a e).1, by
    have ne : i ≠ 0 := fun z => hi (by rw [z]; exact (r.pin a e).1)
    rw [List.getElem?_set_ne ne]
    exact (r.pin a e).2⟩
def wipeD (ρ : En) : List Nat → En
  | [] => ρ
  | v :: vs => (wipeD ρ vs).set v none
theorem wipeD_some {i : Nat} : ∀ {vs : List Nat}, (wipeD ρ vs).getD i none = some d → ρ.getD i none = some d ∧ i ∉ vs
  | [], h => ⟨h, by simp⟩
  | v :: vs, h => by
    unfold wipeD at h
    rw [getD_set] at h
    split at h
    · cases h
    · rename_i q
      obtain ⟨h1, h2⟩ := wipeD_some h
      refine ⟨h1, fun m => ?_⟩
      rcases List.mem_cons.mp m with e | m
      · refine q ⟨e.symm, ?_⟩
        rw [← e]
        rw [List.getD_eq_getElem?_getD] at h
        by_cases z : i < (wipeD ρ vs).length
        · exact z
        · rw [List.getElem?_eq_none (by omega)] at h; cases h
      · exact h2 m
theorem wipeD_length : ∀ vs : List Nat, (wipeD ρ vs).length = ρ.length
  | [] => rfl
  | v :: vs => by unfold wipeD; rw [List.length_set, wipeD_length vs]
theorem wipe_get {i : Nat} : ∀ {vs : List Nat}, (wipe σ vs)[i]? = if i ∈ vs ∧ i < σ.length then some none else σ[i]?
  | [] => by simp [wipe]
  | v :: vs => by
    unfold wipe
    rw [List.getElem?_set, wipe_length, wipe_get]
    by_cases h : v = i
    · subst h
      by_cases q : v < σ.length
      · rw [if_pos rfl, if_pos q, if_pos ⟨List.mem_cons_self, q⟩]
      · rw [if_pos rfl, if_neg q, if_neg (fun z => q z.2), List.getElem?_eq_none (by omega)]
    · rw [if_neg h]
      by_cases q : i ∈ vs ∧ i < σ.length
      · rw [if_pos q, if_pos ⟨List.mem_cons_of_mem _ q.1, q.2⟩]
      · rw [if_neg q, if_neg (fun z => q ⟨(List.mem_cons.mp z.1).elim (fun e => absurd e.symm h) id, z.2⟩)]
theorem wipe_eq {σ' : L2.St} {vs : List Nat} (hl : σ'.length = σ.length) (h : ∀ j, j ∉ vs → σ'[j]? = σ[j]?) : wipe σ' vs = wipe σ vs := by
  refine List.ext_getElem? fun i => ?_
  rw [wipe_get, wipe_get, hl]
  by_cases q : i ∈ vs
  · by_cases z : i < σ.length
    · rw [if_pos ⟨q, z⟩, if_pos ⟨q, z⟩]
    · rw [if_neg (fun y => z y.2), if_neg (fun y => z y.2), List.getElem?_eq_none (by omega), List.getElem?_eq_none (by omega)]
  · rw [if_neg (fun y => q y.1), if_neg (fun y => q y.1), h i q]
theorem SR.wipe (r : SR K Q B S F as ρ w σ H) (vs : List Nat) (h0 : 0 ∉ vs) : SR K Q B S F as (wipeD ρ vs) w (L2.wipe σ vs) H where
  sub := r.sub
  grw := r.grw
  len := by rw [wipeD_length, wipe_length]; exact r.len
  frz := fun j d' e n => by
    obtain ⟨h1, h2⟩ := wipeD_some e
    obtain ⟨v, h3, h4⟩ := r.frz j d' h1 n
    exact ⟨v, by rw [wipe_get, if_neg (fun z => h2 z.1)]; exact h3, h4⟩
  own := fun j d' e n => by
    obtain ⟨h1, h2⟩ := wipeD_some e
    obtain ⟨a, o, h3, h4⟩ := r.own j d' h1 n
    exact ⟨a, o, by rw [wipe_get, if_neg (fun z => h2 z.1)]; exact h3, h4⟩
  dis := fun j k a hj hk hjk sj sk e1 e2 => by
    obtain ⟨d1, h1⟩ := Option.isSome_iff_exists.mp sj
    obtain ⟨d2, h2⟩ := Option.isSome_iff_exists.mp sk
    obtain ⟨g1, n1⟩ := wipeD_some h1
    obtain ⟨g2, n2⟩ := wipeD_some h2
    rw [wipe_get, if_neg (fun z => n1 z.1)] at e1
    rw [wipe_get, if_neg (fun z => n2 z.1)] at e2
    exact r.dis j k a hj hk hjk (by rw [g1]; rfl) (by rw [g2]; rfl) e1 e2
  wld := r.wld
  pin := fun a e => ⟨(r.pin a e).1, by
    rw [wipe_get, if_neg (fun z => h0 z.1)]
    exact (r.pin a e).2⟩
/-- an object that is nobody's is written -/
theorem SR.poke (r : SR K Q B S F as ρ w σ H) {p : Addr} {o' : HO} (hf : F p = none) (ha : p ∉ as) (hb : B.H p = none) (hs : ∀ i, i ∈ S → (ρ.getD i none).isSome → σ[i]? ≠ some (some (V.ref p))) : SR K Q B S F as ρ w σ (upd H p o') where
  sub := fun a u e => by rw [upd_ne (ne_of_none e hf)]; exact r.sub a u e
  grw := ⟨r.grw.fz, r.grw.pr, fun a u e n => by
    rw [upd_ne (ne_of_none e hb)]; exact r.grw.kp a u e n, r.grw.nf, r.grw.na, fun a e => by
    by_cases z : a = p
    · subst z; rw [upd_same] at e; cases e
    · rw [upd_ne z] at e; exact r.grw.tr a e⟩
  len := r.len
  frz := r.frz
  own := fun i d e n => by
    obtain ⟨a, o, h1, h2, h3, h4, h5, h6⟩ := r.own i d e n
    have ne : a ≠ p := fun z => hs i n (by rw [e]; rfl) (by rw [h1, z])
    exact ⟨a, o, h1, h2, h3, by rw [upd_ne ne]; exact h4, h5, h6⟩
  dis := r.dis
  wld := ⟨r.wld.len, r.wld.nd, fun n d a e1 e2 => by
    obtain ⟨f, u, h1, h2⟩ := r.wld.at_ n d a e1 e2
    have ne : a ≠ p := fun z => ha (z ▸ List.mem_of_getElem? e2)
    exact ⟨f, u, by rw [upd_ne ne]; exact h1, h2⟩, r.wld.sc⟩
  pin := r.pin
theorem Grw.poke {p : Addr} {o' : HO} (g : Grw F as H F' as' H') (hp : H p = none) : Grw F as H F' as' (upd H' p o') :=
  ⟨g.fz, g.pr, fun a u e n => by rw [upd_ne (ne_of_none e hp)]; exact g.kp a u e n, g.nf, g.na, fun a e => by
    by_cases z : a = p
    · subst z; exact hp
    · rw [upd_ne z] at e; exact g.tr a e⟩
end
/-! ### binding -/
mutual
theorem bindP_length : ∀ {p : Pat} {ρ ρ' : En} {d : D}, bindP p ρ d = some ρ' → ρ'.length = ρ.length
  | .n i, ρ, ρ', d, h => by
    cases (show some (ρ.set i (some d)) = some ρ' from h)
    rw [List.length_set]
  | .t ps, ρ, ρ', .tup ds, h => bindPs_length (show bindPs ps ρ ds = some ρ' from h)
  | .t ps, _, _, .non, h | .t ps, _, _, .bl _, h | .t ps, _, _, .int _, h | .t ps, _, _, .str _, h | .t ps, _, _, .lst _, h | .t ps, _, _, .dct _ _, h | .t ps, _, _, .ins _ _, h | .t ps, _, _, .obj _, h | .t ps, _, _, .ext _, h => by cases h
theorem bindPs_length : ∀ {ps : List Pat} {ρ ρ' : En} {ds : List D}, bindPs ps ρ ds = some ρ' → ρ'.length = ρ.length
  | [], ρ, ρ', [], h => by cases (show some ρ = some ρ' from h); rfl
  | [], _, _, _ :: _, h => by cases h
  | p :: ps, _, _, [], h => by cases h
  | p :: ps, ρ, ρ', d :: ds, h => by
    obtain ⟨ρ1, h1, h2⟩ := Option.bind_eq_some_iff.mp (show (bindP p ρ d).bind (fun ρ' => bindPs ps ρ' ds) = some ρ' from h)
    rw [bindPs_length h2, bindP_length h1]
end
mutual
/-- what was in the slots that are bound is of no account -/
theorem bindP_agree : ∀ {p : Pat} {ρ1 ρ2 r1 : En} {d : D} {A : Nat → Prop}, ρ1.length = ρ2.length → (∀ i, ¬ A i → ρ1[i]? = ρ2[i]?) → bindP p ρ1 d = some r1 → ∃ r2, bindP p ρ2 d = some r2 ∧ r1.length = r2.length ∧ ∀ i, (¬ A i ∨ i ∈ pslots p) → r1[i]? = r2[i]?
  | .n i, ρ1, ρ2, r1, d, A, hl, ha, h => by
    cases (show some (ρ1.set i (some d)) = some r1 from h)
    refine ⟨_, rfl, by rw [List.length_set, List.length_set, hl], fun j hj => ?_⟩
    rw [List.getElem?_set, List.getElem?_set, hl]
    by_cases z : i = j
    · rw [if_pos z, if_pos z]
    · rw [if_neg z, if_neg z]
      rcases hj with hj | hj
      · exact ha j hj
      · exact absurd (List.mem_singleton.mp hj).symm z
  | .t ps, ρ1, ρ2, r1, .tup ds, A, hl, ha, h => bindPs_agree hl ha (show bindPs ps ρ1 ds = some r1 from h)
  | .t ps, _, _, _, .non, _, _, _, h | .t ps, _, _, _, .bl _, _, _, _, h | .t ps, _, _, _, .int _, _, _, _, h | .t ps, _, _, _, .str _, _, _, _, h | .t ps, _, _, _, .lst _, _, _, _, h | .t ps, _, _, _, .dct _ _, _, _, _, h | .t ps, _, _, _, .ins _ _, _, _, _, h | .t ps, _, _, _, .obj _, _, _, _, h | .t ps, _, _, _, .ext _, _, _, _, h => by cases h
theorem bindPs_agree : ∀ {ps : List Pat} {ρ1 ρ2 r1 : En} {ds : List D} {A : Nat → Prop}, ρ1.length = ρ2.length → (∀ i, ¬ A i → ρ1[i]? = ρ2[i]?) → bindPs ps ρ1 ds = some r1 → ∃ r2, bindPs ps ρ2 ds = some r2 ∧ r1.length = r2.length ∧ ∀ i, (¬ A i ∨ i ∈ pslotsL ps) → r1[i]? = r2[i]?
  | [], ρ1, ρ2, r1, [], A, hl, ha, h => by
    cases (show some ρ1 = some r1 from h)
    exact ⟨ρ2, rfl, hl, fun i hi => hi.elim (ha i) fun z => absurd z List.not_mem_nil⟩
  | [], _, _, _, _ :: _, _, _, _, h => by cases h
  | p :: ps, _, _, _, [], _, _, _, h => by cases h
  | p :: ps, ρ1, ρ2, r1, d :: ds, A, hl, ha, h => by
    obtain ⟨ρ3, h1, h2⟩ := Option.bind_eq_some_iff.mp (show (bindP p ρ1 d).bind (fun ρ' => bindPs ps ρ' ds) = some r1 from h)
    obtain ⟨ρ4, g1, g2, g3⟩ := bindP_agree hl ha h1
    obtain ⟨r2, k1, k2, k3⟩ := bindPs_agree (A := fun i => ¬ (¬ A i ∨ i ∈ pslots p)) g2 (fun i hi => g3 i (Classical.not_not.mp hi)) h2
    refine ⟨r2, by show (bindP p ρ2 d).bind (fun ρ' => bindPs ps ρ' ds) = some r2; rw [g1]; exact k1, k2, fun i hi => k3 i ?_⟩
    rcases hi with hi | hi
    · exact .inl fun z => z (.inl hi)
    · rcases List.mem_append.mp (show i ∈ pslots p ++ pslotsL ps from hi) with m | m
      · exact .inl fun z => z (.inr m)
      · exact .inr m
end
theorem bind_wiped {p : Pat} {ρ ρ' : En} {d : D} {vs : List Nat} (hv : ∀ i ∈ vs, i ∈ pslots p) (h : bindP p ρ d = some ρ') : bindP p (wipeD ρ vs) d = some ρ' := by
  have out : ∀ (vs : List Nat) (i : Nat), i ∉ vs → (wipeD ρ vs)[i]? = ρ[i]? := by
    intro vs
    induction vs with
    | nil => intro i _; rfl
    | cons v vs ih =>
      intro i hi
      rw [List.mem_cons, not_or] at hi
      unfold wipeD
      rw [List.getElem?_set_ne (Ne.symm hi.1)]
      exact ih i hi.2
  obtain ⟨r2, h1, h2, h3⟩ := bindP_agree (A := fun i => i ∈ vs) (wipeD_length vs).symm (fun i hi => (out vs i hi).symm) h
  rw [h1]
  congr 1
  refine (List.ext_getElem? fun i => h3 i ?_).symm
  by_cases z : i ∈ vs
  · exact .inr (hv i z)
  · exact .inl z
/-! ### targets -/
section
variable (K : PySem.W.Frag) (Q : Cls) (S : List Nat)
def tG (p : Pat) : TG := fun v σ H Z => ∃ B F as ρ w d ρ', SR K Q B S F as ρ w σ H ∧ Rep K Q F as d v ∧ bindP p ρ d = some ρ' ∧ ∀ σ', SR K Q B S F as ρ' w σ' H → (∀ j, j ∉ pslots p → σ'[j]? = σ[j]?) → Z σ' H
def tGs (ps : List Pat) : TGs := fun vs σ H Z => ∃ B F as ρ w ds ρ', SR K Q B S F as ρ w σ H ∧ RepL K Q F as ds vs ∧ bindPs ps ρ ds = some ρ' ∧ ∀ σ', SR K Q B S F as ρ' w σ' H → (∀ j, j ∉ pslotsL ps → σ'[j]? = σ[j]?) → Z σ' H
end
theorem _root_.L2.PG.imp {X : Cx} {e : Expr} {t t' : TG} (h : PG X e t) (hi : ∀ v σ H Q, t' v σ H Q → t v σ H Q) : PG X e t' := ⟨fun pins s σ H v u Q I r q => h.run pins s σ H v u Q I r (hi v σ H Q q)⟩
theorem _root_.L2.PGs.imp {X : Cx} {es : List Expr} {t t' : TGs} (h : PGs X es t) (hi : ∀ v σ H Q, t' v σ H Q → t v σ H Q) : PGs X es t' := ⟨fun pins s σ H v u Q I r q => h.run pins s σ H v u Q I r (hi v σ H Q q)⟩
def tgtB (N : List Str) (sc : Scope) (fb : Str → Bool) (i : Nat) : Expr → Bool
  | .Name x _ => decide (N[i]? = some x) && (match sc.names.lookup x with
    | some .local => true
    | some .cell => fb x
    | _ => false)
  | _ => false
theorem tgtB_ok {N : List Str} {sc : Scope} {fb : Str → Bool} {i : Nat} {e : Expr} (h : tgtB N sc fb i e = true) : ∃ x p, e = .Name x p ∧ N[i]? = some x ∧ Loc sc x ∧ (fb x = true ∨ sc.names.lookup x = some .local) := by
  cases e <;> try (simp only [tgtB] at h; exact absurd h Bool.false_ne_true)
  rename_i x p
  simp only [tgtB, Bool.and_eq_true, decide_eq_true_eq] at h
  refine ⟨x, p, rfl, h.1, ?_⟩
  have h2 := h.2
  split at h2
  · rename_i q; exact ⟨.inl q, .inr q⟩
  · rename_i q; exact ⟨.inr q, .inl h2⟩
  · cases h2
section
variable {Q : Cls} {T : Tb} {C : CallF} {S : List Nat} {X : Cx} {N : List Str} {sc : Scope} {k : Nat} {n : Nm} {e a b c : Expr} {es : List Expr} {ca cb cc : CE} {cs : List CE} {pos p apos : Pos} {x : Str} {fb : Str → Bool}
theorem tgt_name (G : Gd X N sc k) (hfb : ∀ x, fb x = true → X.fn x = true) {i : Nat} (h : tgtB N sc fb i e = true) (hi : i ∉ S) : PG X e (tG X.K Q S (.n i)) := by
  obtain ⟨x, p, rfl, hN, hl, hf⟩ := tgtB_ok h
  refine (pg_name G.nd (by rw [G.nm]; exact hN) (by rw [G.sc]; exact hl) (hf.elim (fun z => .inl (hfb x z)) fun z => .inr (by rw [G.sc]; exact z))).imp fun v σ H Z ⟨B, F, as, ρ, w, d, ρ', r, rv, hb, q⟩ => ?_
  cases (show some (ρ.set i (some d)) = some ρ' from hb)
  exact q _ (r.put hi rv) fun j hj => List.getElem?_set_ne fun z => hj (by rw [z]; exact List.mem_singleton.mpr rfl)
theorem tgt_nil : PGs X [] (tGs X.K Q S []) := pgs_nil.imp fun v σ H Z ⟨B, F, as, ρ, w, ds, ρ', r, rv, hb, q⟩ => by
  cases ds with
  | nil =>
    cases (show some ρ = some ρ' from hb)
    simp only [RepL] at rv
    exact ⟨rv, q σ r fun _ _ => rfl⟩
  | cons d ds => cases hb
theorem assignEach_plain {es : List Expr} {env : Env} (h : noStar e = true) : (assignEach (e :: es) env).map (·.2) = assign e env :: (assignEach es env).map (·.2) := by
  cases e <;> first | rfl | cases h
theorem tgt_cons {p : Pat} {ps : List Pat} (hs : noStar e = true) (h : PG X e (tG X.K Q S p)) (h' : PGs X es (tGs X.K Q S ps)) : PGs X (e :: es) (tGs X.K Q S (p :: ps)) := (pgs_cons h h' (assignEach_plain hs)).imp fun v σ H Z ⟨B, F, as, ρ, w, ds, ρ', r, rv, hb, q⟩ => by
  cases ds with
  | nil => cases hb
  | cons d ds =>
    obtain ⟨ρ1, h1, h2⟩ := Option.bind_eq_some_iff.mp (show (bindP p ρ d).bind (fun ρ' => bindPs ps ρ' ds) = some ρ' from hb)
    simp only [RepL] at rv
    obtain ⟨u, us, rfl, r1, rs⟩ := rv
    refine ⟨u, us, rfl, B, F, as, ρ, w, d, ρ1, r, r1, h1, fun σ1 sr1 k1 => ⟨B, F, as, ρ1, w, ds, ρ', sr1, rs, h2, fun σ2 sr2 k2 => q σ2 sr2 fun j hj => ?_⟩⟩
    have hj' : j ∉ pslots p ++ pslotsL ps := hj
    rw [List.mem_append, not_or] at hj'
    rw [k2 j hj'.2, k1 j hj'.1]
theorem each_plain : ∀ {es : List Expr} {env : Env}, es.all noStar = true → (assignEach es env).length = es.length ∧ (assignEach es env).findIdx? (·.1) = none
  | [], env, _ => ⟨rfl, rfl⟩
  | e :: es, env, h => by
    rw [List.all_cons, Bool.and_eq_true] at h
    obtain ⟨h1, h2⟩ := each_plain (env := env) h.2
    have e1 : assignEach (e :: es) env = (false, assign e env) :: assignEach es env := by
      have := h.1
      cases e <;> first | rfl | cases this
    rw [e1]
    refine ⟨by rw [List.length_cons, List.length_cons, h1], ?_⟩
    rw [List.findIdx?_cons]
    simp [h2]
theorem tgt_tup (G : Gd X N sc k) {ps : List Pat} {kk : Nat} (hs : es.all noStar = true) (hl : es.length = ps.length) (h : PGs X es (tGs X.K Q S ps)) : PG X (.Tuple es kk pos) (tG X.K Q S (.t ps)) :=
  (pg_tup (n := es.length) G.calm h (each_plain hs).1 (each_plain hs).2).imp fun v σ H Z ⟨B, F, as, ρ, w, d, ρ', r, rv, hb, q⟩ => by
    cases d <;> try cases hb
    rename_i ds
    simp only [Rep] at rv
    obtain ⟨ad, xs, rfl, h1, h2⟩ := rv
    have hlen : ∀ (ps : List Pat) (ρ ρ' : En) (ds : List D), bindPs ps ρ ds = some ρ' → ds.length = ps.length := by
      intro ps
      induction ps with
      | nil =>
        intro ρ ρ' ds h
        cases ds with
        | nil => rfl
        | cons _ _ => cases h
      | cons p ps ih =>
        intro ρ ρ' ds h
        cases ds with
        | nil => cases h
        | cons d ds =>
          obtain ⟨ρ1, h1, h2⟩ := Option.bind_eq_some_iff.mp (show (bindP p ρ d).bind (fun ρ' => bindPs ps ρ' ds) = some ρ' from h)
          rw [List.length_cons, List.length_cons, ih _ _ _ h2]
    have hb' : bindPs ps ρ ds = some ρ' := hb
    exact ⟨ad, xs, rfl, r.sub.sqT h1, by rw [h2.length, hlen _ _ _ _ hb', hl], B, F, as, ρ, w, ds, ρ', r, h2, hb', q⟩
end
end MP

set_option Elab.async false
set_option linter.all false
set_option maxRecDepth 100000
/-! MPE: enumerate over a tuple. -/
namespace MP
open PySem PySem.Spec PyProof.Rows L2
set_option maxHeartbeats 1600000 in
theorem new_enum {v : Value} {ob : Obj} {Hh : Heap → Prop} (bg : Begins v ob Hh) :
    Meets (Builtin.«enumerate.__new__» ⟨[.type "enumerate", v], []⟩) (fun _ Rr st => Hh st.heap ∧
      Rr (.ok (.ret (.ref (st.heap.push ob).objs.size))) { st with heap := (st.heap.push ob).push { cls := .type "enumerate", data := .fields #[.none, .bool false, .ref st.heap.objs.size, rawInt 0, .none, .none] } }) :=
  .of_wp fun pr wd ar Rr st hyp => by
    obtain ⟨hp, gg, dd, tt, oo⟩ := st
    obtain ⟨hy1, hyp⟩ := hyp
    have hsb := PySem.sub_enumerate
    have qi : ∀ {A1 : Around} {E1 : Value → Shared → Prop} {Q1 : Value → Shared → Prop}, Q1 (.ref hp.objs.size) ⟨hp.push ob, gg, dd, tt, oo⟩ → wpAny (model pr wd) A1 (pyIter v) Q1 E1 ⟨hp, gg, dd, tt, oo⟩ := fun qq => bg.iter pr wd _ _ ⟨hp, gg, dd, tt, oo⟩ _ hy1 qq
    wp_walk using qi
    refine wpAny_stack_any fun stk => wpAny_pure ?_
    split
    · rename_i cc _ _ _ _ _
      cases (cc == Value.type "enumerate") <;> (wp_walk using qi; exact ⟨_, rfl, hyp⟩)
    · wp_walk using qi
      exact ⟨_, rfl, hyp⟩
theorem call_enumT {pr : Program} {wd : World} {A : Around} {E : Value → Shared → Prop} {s : Shared} {l : Addr} {its : Array Value} {Z : Value → Shared → Prop} (hT : s.heap.IsTuple l its)
    (h : ∀ hp, IsEnum hp (s.heap.objs.size + 1) s.heap.objs.size 0 .none → hp.IsTupleIter s.heap.objs.size l 0 → (∀ b u, s.heap.get? b = some u → hp.get? b = some u) → Z (.ref (s.heap.objs.size + 1)) { s with heap := hp }) : wpAny (model pr wd) A (PySem.call (.type "enumerate") [.ref l]) Z E s := by
  refine callType_new F.called_enumerate (by decide) (F.typeCall_enumerate_1 _) (F.newCall_enumerate_1 _) (fun obj => F.args_object_init_2 obj _) F.entry_enumerate_new (new_enum (begins_tuple l its)) ⟨hT, ?_⟩
  generalize eo : ({ cls := .type "tuple_iterator", data := .fields #[.ref l, .int 0 0] } : Obj) = ob
  have fr : ob.isFreed = false := by subst eo; rfl
  have hz : (s.heap.push ob).objs.size = s.heap.objs.size + 1 := Heap.size_push ..
  show _ ∧ _
  rw [hz]
  generalize en : ({ cls := .type "enumerate", data := .fields #[.none, .bool false, .ref s.heap.objs.size, rawInt 0, .none, .none] } : Obj) = ob2
  have he : ((s.heap.push ob).push ob2).get? (s.heap.objs.size + 1) = some ob2 := by
    have := Heap.get?_push_size (s.heap.push ob) (o := ob2) (by subst en; rfl)
    rw [hz] at this
    exact this
  have hi : ((s.heap.push ob).push ob2).get? s.heap.objs.size = some ob := Heap.get?_push_of_some _ (Heap.get?_push_size _ fr)
  subst eo en
  exact ⟨⟨_, he, rfl⟩, h _ he ⟨_, hi, rfl, rfl⟩ fun b u x => Heap.get?_push_of_some _ (Heap.get?_push_of_some _ x)⟩
/-- the tuple at a, each item in a new pair behind its number -/
def IteT (K : PySem.W.Frag) (a : Addr) : It :=
  ⟨fun i H => ∃ (ys : List V) (y : V), SqT K H a ys ∧ ys[i]? = some y, fun i H v H' => ∃ t y, v = .ref t ∧ H t = none ∧ H' = upd H t (.tup [.int (i : Nat), y]) ∧ ∀ ys, SqT K H a ys → ys[i]? = some y, fun i H => ∃ ys : List V, SqT K H a ys ∧ ys.length = i⟩
theorem turn_enumT {P : Program} {w : World} {K : PySem.W.Frag} {elts : List Expr} {kk : Nat} {tpos : Pos} (a e it : Addr) :
    Turn P w K (.Tuple elts kk tpos) (IteT K a) [e, it] e (fun i h => (∃ old, IsEnum h e it ((i : Nat) : Int) old) ∧ h.IsTupleIter it a i ∧ e ≠ it ∧ a ≠ e ∧ a ≠ it) where
  mem := by simp
  obj := fun i h st b hb => by
    obtain ⟨⟨old, he⟩, ⟨o, ho, hc, hd⟩, _⟩ := st
    have hb' : b = e ∨ b = it := by simpa using hb
    rcases hb' with rfl | rfl
    · exact ⟨_, he, fun v z => nomatch z⟩
    · exact ⟨o, ho, fun v z => by rw [hd] at z; cases z⟩
  keep := fun i h h' st hk => by
    obtain ⟨⟨old, he⟩, h2, h3⟩ := st
    exact ⟨⟨old, hk e (by simp) _ he⟩, h2.at fun o z => hk it (by simp) o z, h3⟩
  item := by
    intro X hP hw hK hc i pins s σ H E I hf st hg
    subst hP hw hK
    obtain ⟨⟨old, he⟩, hit, hne, hae, hai⟩ := st
    obtain ⟨ys, y, hq, hy⟩ := hg
    obtain ⟨its, rv, pt, _⟩ := I.tuple hq
    obtain ⟨u, hu, ru⟩ := rv.get hy
    have hel : e < s.heap.objs.size := Heap.lt_size he
    have hil : it < s.heap.objs.size := by obtain ⟨_, z, _⟩ := hit; exact Heap.lt_size z
    have hlt : i < its.toArray.size := by
      have := (List.getElem?_eq_some_iff.mp hu).1
      simpa using this
    refine wpAny_pyNext_enum_itemD (Draws.tuple (A := X.A.in1) (by simp [I.ok.hd hc]) it a hai its.toArray) he ⟨hit, pt⟩ hlt hne (by simp only [List.mem_cons, List.not_mem_nil, or_false, not_or]; exact ⟨hne, hae.symm⟩) fun u2 h' tk hx ho st2 hT hsz hk => ?_
    have hx2 : its[i]? = some u2 := by
      have : its.toArray[i]? = some u2 := hx
      simpa using this
    rw [hu] at hx2
    cases hx2
    refine ⟨_, rfl, wpAny_letOwnedTupleGo_enum (s := { s with heap := h', toks := tk + 1 }) ho fun h2 he2 sb => ?_⟩
    have hT2 : h2.get? s.heap.objs.size = some { cls := .type "tuple", data := .seq #[.int i tk, u] } := (sb.2 _ (Nat.ne_of_gt hel)).trans hT
    have nw : ObjOk X.prog X.w (upd H s.heap.objs.size (.tup [.int (i : Nat), y])) h2 s.heap.objs.size (.tup [.int (i : Nat), y]) := ⟨by show 2 ≤ sizeLine; decide, [.int i tk, u], .cons ⟨_, rfl⟩ (.cons ru .nil), ⟨_, hT2, rfl, _, rfl⟩⟩
    have I1 : Inv X pins σ (upd H s.heap.objs.size (.tup [.int (i : Nat), y])) { s with heap := h2, toks := tk + 1 } :=
      I.turnedNew (ch := [e, it]) (fun b ob hb z => (sb.2 b (fun z2 => hb (by simp [z2]))).trans (hk b ob (fun z2 => hb (by simp [z2])) (fun z2 => hb (by simp [z2])) z)) hf (Nat.le_refl _) nw
    refine ⟨.ref s.heap.objs.size, _, I1, rfl, ⟨_, y, rfl, I.hok.fresh (Nat.le_refl _), rfl, fun zs hz => by rw [I.tuple_inj hz hq]; exact hy⟩, ⟨⟨u, ?_⟩, st2.1.at fun o z => (sb.2 it hne.symm).trans z, hne, hae, hai⟩, fun b hb => ?_⟩
    · rw [show ((i + 1 : Nat) : Int) = (i : Int) + 1 by omega]
      exact he2
    · have hb' : b = e ∨ b = it := by simpa using hb
      have : b < s.heap.objs.size := by rcases hb' with z | z <;> rw [z] <;> assumption
      rw [upd_ne (Nat.ne_of_lt this)]
      exact (hf b hb).1
  done := by
    intro X hP hw hK hc i pins s σ H E I hf st hg
    subst hP hw hK
    obtain ⟨⟨old, he⟩, hit, hne, hae, hai⟩ := st
    obtain ⟨ys, hq, hy⟩ := hg
    obtain ⟨its, rv, pt, _⟩ := I.tuple hq
    obtain ⟨f0, f1, f2, f3, f4, f5⟩ := hf it (by simp)
    have hl := rv.length
    have hn : its.toArray.size = i := by rw [List.size_toArray, ← hl, hy]
    refine wpAny_pyNext_enum_endD (Draws.tuple (A := X.A.in1) (by simp [I.ok.hd hc]) it a hai its.toArray) he (by rw [hn]; exact ⟨hit, pt⟩) fun h' eb => ⟨rfl, I.turned (t' := s.toks) (fun b o hb z => eb b o hb z) f0 f1 f3 f4 f5⟩
  self := fun A i s Z E st h => by
    obtain ⟨⟨_, he⟩, _⟩ := st
    exact wpAny_pyIter_enum he h
def iEnumT (K : PySem.W.Frag) (ta : TA) : TI := fun σ H R => ta σ H fun vs H1 => ∃ a xs, vs = [.ref a] ∧ SqT K H1 a xs ∧ R (IteT K a) H1
theorem pi_enumT {X : Cx} {e : Expr} {ta : TA} {p pos tpos : Pos} {elts : List Expr} {kk : Nat} (hg : Gl X "enumerate") (hm : X.mg "enumerate" = none) (ha : PA X [e] ta) (hs : starEach [e] X.env = [(false, eval e X.env)]) :
    PI X (.Tuple elts kk tpos) (.Call (.Name "enumerate" p) [e] [] pos) (iEnumT X.K ta) := by
  refine ⟨fun pins s σ H R I h => ?_⟩
  refine Call_ (ld_blt I hg hm boot_enumerate (PyProof.Rows.callWith_type1 (thn (ha.run pos pins s σ H _ I h) fun us s1 ⟨vs, H1, I1, r1, a, xs, ex, hq, q⟩ => ?_) hs rfl))
  subst ex
  obtain ⟨u, rfl, ru⟩ := r1.one
  cases ru
  obtain ⟨its, rv, pt, _⟩ := I1.tuple hq
  have hlt : a < s1.heap.objs.size := by obtain ⟨_, z, _⟩ := id pt; exact Heap.lt_size z
  refine call_enumT (its := its.toArray) pt fun h' he hit hk => wpAny_pyIter_enum he ?_
  refine ⟨s1.heap.objs.size + 1, [s1.heap.objs.size + 1, s1.heap.objs.size], _, _, H1, rfl, I1.kept (t' := s1.toks) hk, turn_enumT a (s1.heap.objs.size + 1) s1.heap.objs.size, ⟨⟨.none, he⟩, hit, Nat.succ_ne_self _, Nat.ne_of_lt (Nat.lt_succ_of_lt hlt), Nat.ne_of_lt hlt⟩, fun b hb => ?_, q⟩
  have hle : s1.heap.objs.size ≤ b := by
    have hb' : b = s1.heap.objs.size + 1 ∨ b = s1.heap.objs.size := by simpa using hb
    rcases hb' with z | z <;> rw [z]
    · exact Nat.le_succ _
    · exact Nat.le_refl _
  exact I1.fpOk hle (I1.hok.fresh hle)
end MP

set_option Elab.async false
set_option linter.all false
set_option maxRecDepth 100000
/-! MP10: walks; comprehensions of one clause. -/
namespace MP
open PySem PySem.Spec PyProof.Rows L2
section
variable (K : PySem.W.Frag) (Q : Cls) (F : Hp) (as : List Addr) (ds : List D)
/-- what a walk gives at turn i -/
def YD : Nat → Hp → V → Hp → Prop := fun i H x H' => ∃ d, ds[i]? = some d ∧ ((H' = H ∧ Rep K Q F as d x) ∨
  ∃ T x1 x2 d1 d2, x = .ref T ∧ H T = none ∧ H' = upd H T (.tup [x1, x2]) ∧ d = .tup [d1, d2] ∧ Rep K Q F as d1 x1 ∧ Rep K Q F as d2 x2)
def WK (J : It) : Prop := Walk J ds.length (fun H => Le F H) (YD K Q F as ds)
end
section
variable {K : PySem.W.Frag} {Q : Cls} {B : Bs} {S : List Nat} {F F' H H' : Hp} {as as' : List Addr} {ρ : En} {w w' : Wd} {σ : L2.St} {d : D} {v : V} {ds : List D}
theorem YD.use {i : Nat} {x : V} (r : SR K Q B S F' as' ρ w σ H) (l : Le F F') (p : Pre as as') (y : YD K Q F as ds i H x H') : ∃ F3 d, ds[i]? = some d ∧ Grw F' as' H F3 as' H' ∧ SR K Q B S F3 as' ρ w σ H' ∧ Rep K Q F3 as' d x := by
  obtain ⟨d, hd, h | ⟨t, x1, x2, d1, d2, rfl, hT, rfl, rfl, h1, h2⟩⟩ := y
  · obtain ⟨rfl, h⟩ := h
    exact ⟨F', d, hd, Grw.rfl', r, h.mono l p⟩
  · refine ⟨upd F' t (.tup [x1, x2]), _, hd, Grw.newF hT (r.sub.non hT), r.newF hT, ?_⟩
    simp only [Rep]
    have l2 := l.trans (Le.upd (F := F') (p := t) (o := .tup [x1, x2]) (r.sub.non hT))
    exact ⟨t, _, rfl, .inl (.inl upd_same), .cons (h1.mono l2 p) (.cons (h2.mono l2 p) .nil)⟩
theorem WK.list {a : Addr} {xs : List V} (h : F a = some (.lst xs)) (r : RepL K Q F as ds xs) : WK K Q F as ds (Itl K a) := by
  have := (walk_list (K := K) (a := a) (xs := xs)).mono (G' := fun H => Le F H) (Y' := YD K Q F as ds) (fun H l => .inl (.inl (l _ _ h))) fun i H x H' hi l y => by
    obtain ⟨rfl, y⟩ := y
    have hi' : i < ds.length := by rw [← r.length]; exact hi
    obtain ⟨v, hv, rv⟩ := r.get (i := i) (d := ds[i]) (by simp [hi'])
    rw [y] at hv
    cases hv
    exact ⟨ds[i], by simp [hi'], .inl ⟨rfl, rv⟩⟩
  unfold WK
  rw [← r.length]
  exact this
theorem WK.tup {a : Addr} {xs : List V} (h : SqT K F a xs) (r : RepL K Q F as ds xs) : WK K Q F as ds (Itt K a) := by
  have := (walk_tup (K := K) (a := a) (xs := xs)).mono (G' := fun H => Le F H) (Y' := YD K Q F as ds) (fun H l => l.sqT h) fun i H x H' hi l y => by
    obtain ⟨rfl, y⟩ := y
    have hi' : i < ds.length := by rw [← r.length]; exact hi
    obtain ⟨v, hv, rv⟩ := r.get (i := i) (d := ds[i]) (by simp [hi'])
    rw [y] at hv
    cases hv
    exact ⟨ds[i], by simp [hi'], .inl ⟨rfl, rv⟩⟩
  unfold WK
  rw [← r.length]
  exact this
theorem WK.str {s : List Nat} (hs : ∀ c ∈ s, c < 1114112) : WK K Q F as (s.map fun c => .str [c]) (Its (toS s)) := by
  have := (walk_str (z := toS s)).mono (G' := fun H => Le F H) (Y' := YD K Q F as (s.map fun c => .str [c])) (fun _ _ => trivial) fun i H x H' hi l y => by
    obtain ⟨rfl, c, hc, rfl⟩ := y
    have hc' : s[i]? = some c := by simpa [toS] using hc
    refine ⟨.str [c], by rw [List.getElem?_map, hc']; rfl, .inl ⟨rfl, ?_⟩⟩
    simp only [Rep]
    refine ⟨rfl, fun c' hc'' => ?_⟩
    rw [List.mem_singleton.mp hc'']
    exact hs c (List.mem_of_getElem? hc')
  unfold WK
  rw [List.length_map]
  have e : (toS s).cps.size = s.length := by simp [toS]
  rw [e] at this
  exact this
theorem WK.range {lo hi : Int} : WK K Q F as (rngL lo hi) (Itr lo (hi - lo).toNat) := by
  have := (walk_range (lo := lo) (n := (hi - lo).toNat)).mono (G' := fun H => Le F H) (Y' := YD K Q F as (rngL lo hi)) (fun _ _ => trivial) fun i H x H' hi' l y => by
    obtain ⟨rfl, rfl⟩ := y
    refine ⟨.int (lo + i), ?_, .inl ⟨rfl, by simp only [Rep]⟩⟩
    unfold rngL
    rw [List.getElem?_map, List.getElem?_range hi']
    rfl
  unfold WK
  have e : (rngL lo hi).length = (hi - lo).toNat := by unfold rngL; rw [List.length_map, List.length_range]
  rw [e]
  exact this
theorem enumL_get : ∀ (k : Nat) (ds : List D) (i : Nat), (enumL k ds)[i]? = ds[i]?.map fun d => D.tup [.int ((k + i : Nat) : Int), d]
  | k, [], i => by simp [enumL]
  | k, d :: ds, 0 => by simp [enumL]
  | k, d :: ds, i + 1 => by
    show (enumL (k + 1) ds)[i]? = ds[i]?.map _
    rw [enumL_get (k + 1) ds i]
    rw [show k + 1 + i = k + (i + 1) by omega]
theorem enumL_length : ∀ (k : Nat) (ds : List D), (enumL k ds).length = ds.length
  | k, [] => rfl
  | k, d :: ds => by show (enumL (k + 1) ds).length + 1 = ds.length + 1; rw [enumL_length]
theorem WK.enum {a : Addr} {xs : List V} (h : F a = some (.lst xs)) (r : RepL K Q F as ds xs) : WK K Q F as (enumL 0 ds) (Ite K a) := by
  have := (walk_enum (K := K) (a := a) (xs := xs)).mono (G' := fun H => Le F H) (Y' := YD K Q F as (enumL 0 ds)) (fun H l => .inl (.inl (l _ _ h))) fun i H x H' hi l y => by
    obtain ⟨t, x1, x2, rfl, hT, rfl, e1, e2⟩ := y
    have e2 : xs[i]? = some x2 := e2
    have e1 : some (V.int (i : Nat)) = some x1 := e1
    have hi' : i < ds.length := by rw [← r.length]; exact hi
    obtain ⟨v, hv, rv⟩ := r.get (i := i) (d := ds[i]) (by simp [hi'])
    rw [e2] at hv
    cases hv
    cases e1
    refine ⟨.tup [.int (i : Int), ds[i]], ?_, .inr ⟨t, _, _, _, _, rfl, hT, rfl, rfl, by simp only [Rep], rv⟩⟩
    rw [enumL_get]
    simp [hi']
  unfold WK
  rw [enumL_length, ← r.length]
  exact this
theorem WK.enumT {a : Addr} {xs : List V} (h : SqT K F a xs) (r : RepL K Q F as ds xs) : WK K Q F as (enumL 0 ds) (IteT K a) := by
  unfold WK
  rw [enumL_length, ← r.length]
  refine ⟨fun i H hi l => ⟨xs, xs[i], l.sqT h, by simp [hi]⟩, fun H l => ⟨xs, l.sqT h, rfl⟩, fun i H x H' hi l y => ?_⟩
  obtain ⟨t, x2, rfl, hT, rfl, e2⟩ := y
  have hi' : i < ds.length := by rw [← r.length]; exact hi
  obtain ⟨v, hv, rv⟩ := r.get (i := i) (d := ds[i]) (by simp [hi'])
  rw [e2 xs (l.sqT h)] at hv
  cases hv
  refine ⟨.tup [.int (i : Int), ds[i]], ?_, .inr ⟨t, _, _, _, _, rfl, hT, rfl, rfl, by simp only [Rep], rv⟩⟩
  rw [enumL_get]
  simp [hi']
theorem zipL_get : ∀ (ds es : List D) (i : Nat) (a b : D), ds[i]? = some a → es[i]? = some b → (zipL ds es)[i]? = some (D.tup [a, b])
  | [], _, i, a, b, h, _ => by simp at h
  | _ :: _, [], i, a, b, _, h => by simp at h
  | d :: ds, e :: es, 0, a, b, h1, h2 => by
    simp at h1 h2
    subst h1 h2
    rfl
  | d :: ds, e :: es, i + 1, a, b, h1, h2 => zipL_get ds es i a b (by simpa using h1) (by simpa using h2)
theorem zipL_length : ∀ (ds es : List D), (zipL ds es).length = min ds.length es.length
  | [], es => by simp [zipL]
  | _ :: _, [] => by simp [zipL]
  | d :: ds, e :: es => by
    show (zipL ds es).length + 1 = min (ds.length + 1) (es.length + 1)
    rw [zipL_length]
    omega
theorem WK.zipL {a b : Addr} {xs ys : List V} {es : List D} (h : F a = some (.lst xs)) (h' : F b = some (.lst ys)) (r : RepL K Q F as ds xs) (r' : RepL K Q F as es ys) : WK K Q F as (zipL ds es) (Itz K a b) := by
  have := (walk_zip (K := K) (a := a) (b := b) (xs := xs) (ys := ys) rfl).mono (G' := fun H => Le F H) (Y' := YD K Q F as (MP.zipL ds es)) (fun H l => ⟨.inl (.inl (l _ _ h)), .inl (.inl (l _ _ h'))⟩) fun i H x H' hi l y => by
    obtain ⟨t, x1, x2, rfl, hT, rfl, e1, e2⟩ := y
    have e1 : xs[i]? = some x1 := e1
    have e2 : ys[i]? = some x2 := e2
    have hx : i < ds.length := by rw [← r.length]; omega
    have hy : i < es.length := by rw [← r'.length]; omega
    obtain ⟨v, hv, rv⟩ := r.get (i := i) (d := ds[i]) (by simp [hx])
    obtain ⟨u, hu, ru⟩ := r'.get (i := i) (d := es[i]) (by simp [hy])
    rw [e1] at hv
    rw [e2] at hu
    cases hv
    cases hu
    exact ⟨_, zipL_get _ _ i _ _ (by simp [hx]) (by simp [hy]), .inr ⟨t, _, _, _, _, rfl, hT, rfl, rfl, rv, ru⟩⟩
  unfold WK
  rw [zipL_length, ← r.length, ← r'.length]
  exact this
theorem WK.zipT {a b : Addr} {xs ys : List V} {es : List D} (h : SqT K F a xs) (h' : SqT K F b ys) (r : RepL K Q F as ds xs) (r' : RepL K Q F as es ys) : WK K Q F as (MP.zipL ds es) (RZ.ItzT K a b) := by
  unfold WK
  rw [zipL_length, ← r.length, ← r'.length]
  refine ⟨fun i H hi l => ?_, fun H l => ⟨xs, ys, l.sqT h, l.sqT h', by omega⟩, fun i H x H' hi l y => ?_⟩
  · have hx : i < xs.length := by omega
    have hy : i < ys.length := by omega
    exact ⟨xs, ys, xs[i], ys[i], l.sqT h, l.sqT h', by simp [hx], by simp [hy]⟩
  · obtain ⟨t, x1, x2, e0, hT, e4, e1, e2⟩ := y
    have hx : i < ds.length := by rw [← r.length]; omega
    have hy : i < es.length := by rw [← r'.length]; omega
    obtain ⟨v, hv, rv⟩ := r.get (i := i) (d := ds[i]) (by simp [hx])
    obtain ⟨u, hu, ru⟩ := r'.get (i := i) (d := es[i]) (by simp [hy])
    have f1 := e1 xs (l.sqT h)
    have f2 := e2 ys (l.sqT h')
    rw [f1] at hv
    rw [f2] at hu
    cases hv
    cases hu
    exact ⟨_, zipL_get _ _ i _ _ (by simp [hx]) (by simp [hy]), .inr ⟨t, _, _, _, _, e0, hT, e4, rfl, rv, ru⟩⟩
end
/-! ### what is walked -/
section
variable (K : PySem.W.Frag) (Q : Cls) (T : Tb) (C : CallF) (S : List Nat)
def tIt (c : CE) : TI := fun σ H Z => ∃ B F as ρ w d w' ds, SR K Q B S F as ρ w σ H ∧ ev T C c ρ w = .ok d w' ∧ iterD d = some ds ∧
  ∀ J F' as' H', Grw F as H F' as' H' → SR K Q B S F' as' ρ w' σ H' → WK K Q F' as' ds J → ds.length ≤ sizeLine → Z J H'
end
section
variable {Q : Cls} {T : Tb} {C : CallF} {S : List Nat} {X : Cx} {N : List Str} {sc : Scope} {k : Nat} {n : Nm} {e a b c tg : Expr} {es : List Expr} {ca cb cc : CE} {cs : List CE} {pos p apos : Pos} {x : Str} {fb : Str → Bool}
/-- sequences that stand in the heap are not longer than a line -/
theorem _root_.L2.PE.len {t : TE} (h : PE X e t) : PE X e fun σ H Z => t σ H fun v H1 => (∀ p xs, v = .ref p → (SqL X.K H1 p xs ∨ SqT X.K H1 p xs) → xs.length ≤ sizeLine) → Z v H1 := ⟨fun pins s σ H Z I q => by
  refine thn (h.run pins s σ H _ I q) fun u s1 ⟨v, H1, I1, r1, q1⟩ => ⟨v, H1, I1, r1, q1 fun p xs _ h => ?_⟩
  rcases h with h | h
  · exact (I1.list h).choose_spec.2.2
  · exact (I1.tuple h).choose_spec.2.2⟩
theorem it_val (ha : PE X e (tE X.K Q T C S ca)) : PI X tg e (tIt X.K Q T C S ca) := ⟨fun pins s σ H Z I ⟨B, F, as, ρ, w, d, w', ds, r, he, hi, q⟩ => by
  cases d <;> simp only [iterD, reduceCtorEq, Option.some.injEq] at hi
  · split at hi
    case isFalse => cases hi
    rename_i hz
    cases hi
    refine (pi_str (tg := tg) ha).run pins s σ H Z I ⟨B, F, as, ρ, w, _, w', r, he, fun v F' as' H' g r' rv => ?_⟩
    simp only [Rep] at rv
    obtain ⟨rfl, hs⟩ := rv
    exact ⟨_, rfl, q _ F' as' H' g r' (WK.str hs) (by rw [List.length_map]; exact bigN_le hz)⟩
  · subst hi
    refine (pi_tup (tg := tg) ha.len).run pins s σ H Z I ⟨B, F, as, ρ, w, _, w', r, he, fun v F' as' H' g r' rv hl => ?_⟩
    simp only [Rep] at rv
    obtain ⟨p, xs, rfl, h1, h2⟩ := rv
    exact ⟨p, rfl, ⟨xs, r'.sub.sqT h1⟩, q _ F' as' H' g r' (WK.tup h1 h2) (by rw [← h2.length]; exact hl p xs rfl (.inr (r'.sub.sqT h1)))⟩
  · subst hi
    refine (pi_list (tg := tg) ha.len).run pins s σ H Z I ⟨B, F, as, ρ, w, _, w', r, he, fun v F' as' H' g r' rv hl => ?_⟩
    simp only [Rep] at rv
    obtain ⟨p, xs, rfl, h1, h2⟩ := rv
    exact ⟨p, rfl, ⟨xs, .inl (.inl (r'.sub _ _ h1))⟩, q _ F' as' H' g r' (WK.list h1 h2) (by rw [← h2.length]; exact hl p xs rfl (.inl (.inl (.inl (r'.sub _ _ h1)))))⟩⟩
/-- range(a), range(a, b) -/
theorem it_range2 (G : Gd X N sc k) (hg : isGl sc "range" = true) (hm : X.mg "range" = none) (hs : noStar a = true) (hs' : noStar b = true) (ha : PE X a (tE X.K Q T C S ca)) (hb : PE X b (tE X.K Q T C S cb)) : PI X tg (.Call (.Name "range" p) [a, b] [] pos) (tIt X.K Q T C S (.bf .rng [ca, cb])) := by
  obtain ⟨hgl, hdb, hn⟩ := G.gl hg
  refine ⟨fun pins s σ H Z I ⟨B, F, as, ρ, w, d, w', ds, r, he, hi, q⟩ => (pi_range2 (tg := tg) hgl hm (pa_cons ha (pa_cons hb pa_nil (starEach_plain hs')) (starEach_plain hs)) ?_ ?_).run pins s σ H Z I ?_⟩
  · rw [starEach_plain hs, starEach_plain hs']; rfl
  · rw [starEach_plain hs']; rfl
  · rw [bf_two] at he
    obtain ⟨d1, w1, e1, he⟩ := R.bind_ok he
    obtain ⟨d2, w2, e2, he⟩ := R.bind_ok he
    obtain ⟨he, rfl⟩ := ofO_ok he
    cases d1 <;> cases d2 <;> simp only [bfD, reduceCtorEq] at he
    rename_i i _ j _
    split at he
    case isFalse => cases he
    rename_i hij
    cases he
    cases (show some (rngL i j) = some ds from hi)
    refine ⟨B, F, as, ρ, w, _, w1, r, e1, fun u F1 as1 H1 g1 r1 o1 => ⟨B, F1, as1, ρ, w1, _, _, r1, e2, fun v F2 as2 H2 g2 r2 o2 => ?_⟩⟩
    simp only [Rep] at o1 o2
    subst o1 o2
    refine ⟨i, j, rfl, ⟨hij.1, hij.2.1, hij.2.2.1, hij.2.2.2.1⟩, q _ F2 as2 H2 (g1.trans g2) r2 WK.range ?_⟩
    unfold rngL
    rw [List.length_map, List.length_range]
    exact bigN_le (by have := hij.2.2.2.2; omega)
theorem it_range1 (G : Gd X N sc k) (hg : isGl sc "range" = true) (hm : X.mg "range" = none) (hs : noStar a = true) (ha : PE X a (tE X.K Q T C S ca)) : PI X tg (.Call (.Name "range" p) [a] [] pos) (tIt X.K Q T C S (.bf .rng [.int 0, ca])) := by
  obtain ⟨hgl, hdb, hn⟩ := G.gl hg
  refine ⟨fun pins s σ H Z I ⟨B, F, as, ρ, w, d, w', ds, r, he, hi, q⟩ => (pi_range1 (tg := tg) hgl hm (pa_cons ha pa_nil (starEach_plain hs)) ?_).run pins s σ H Z I ?_⟩
  · rw [starEach_plain hs]; rfl
  · rw [bf_two] at he
    obtain ⟨d1, w1, e1, he⟩ := R.bind_ok he
    cases (show R.ok (D.int 0) w = .ok d1 w1 from e1)
    obtain ⟨d2, w2, e2, he⟩ := R.bind_ok he
    obtain ⟨he, rfl⟩ := ofO_ok he
    cases d2 <;> simp only [bfD, reduceCtorEq] at he
    rename_i j _
    split at he
    case isFalse => cases he
    rename_i hij
    cases he
    cases (show some (rngL 0 j) = some ds from hi)
    refine ⟨B, F, as, ρ, w, _, _, r, e2, fun v F2 as2 H2 g2 r2 o2 => ?_⟩
    simp only [Rep] at o2
    subst o2
    refine ⟨j, rfl, hij.2.2.1, hij.2.2.2.1, q _ F2 as2 H2 g2 r2 ?_ ?_⟩
    · have := WK.range (K := X.K) (Q := Q) (F := F2) (as := as2) (lo := 0) (hi := j)
      rw [show (j - 0).toNat = j.toNat by omega] at this
      exact this
    · unfold rngL
      rw [List.length_map, List.length_range]
      exact bigN_le (by have := hij.2.2.2.2; omega)
/-- enumerate(a), a a list -/
theorem it_enum (G : Gd X N sc k) {elts : List Expr} {kk : Nat} {tpos : Pos} (hg : isGl sc "enumerate" = true) (hm : X.mg "enumerate" = none) (hs : noStar a = true) (ha : PE X a (tE X.K Q T C S ca)) : PI X (.Tuple elts kk tpos) (.Call (.Name "enumerate" p) [a] [] pos) (tIt X.K Q T C S (.bf .enum [ca])) := by
  obtain ⟨hgl, hdb, hn⟩ := G.gl hg
  refine ⟨fun pins s σ H Z I ⟨B, F, as, ρ, w, d, w', ds, r, he, hi, q⟩ => ?_⟩
  rw [bf_one] at he
  obtain ⟨d1, w1, e1, he⟩ := R.bind_ok he
  obtain ⟨he, rfl⟩ := ofO_ok he
  cases d1 <;> simp only [bfD, reduceCtorEq, Option.some.injEq] at he
  case tup xs _ =>
    subst he
    cases (show some (enumL 0 xs) = some ds from hi)
    refine (pi_enumT hgl hm (pa_cons ha.len pa_nil (starEach_plain hs)) (by rw [starEach_plain hs]; rfl)).run pins s σ H Z I ⟨B, F, as, ρ, w, _, _, r, e1, fun v F' as' H' g r' rv hl => ?_⟩
    simp only [Rep] at rv
    obtain ⟨p, ys, rfl, h1, h2⟩ := rv
    exact ⟨p, ys, rfl, r'.sub.sqT h1, q _ F' as' H' g r' (WK.enumT h1 h2) (by rw [enumL_length, ← h2.length]; exact hl p ys rfl (.inr (r'.sub.sqT h1)))⟩
  case lst xs _ =>
    subst he
    cases (show some (enumL 0 xs) = some ds from hi)
    refine (pi_enum hgl hm (pa_cons ha.len pa_nil (starEach_plain hs)) (by rw [starEach_plain hs]; rfl)).run pins s σ H Z I ⟨B, F, as, ρ, w, _, _, r, e1, fun v F' as' H' g r' rv hl => ?_⟩
    simp only [Rep] at rv
    obtain ⟨p, ys, rfl, h1, h2⟩ := rv
    exact ⟨p, ys, rfl, .inl (.inl (r'.sub _ _ h1)), q _ F' as' H' g r' (WK.enum h1 h2) (by rw [enumL_length, ← h2.length]; exact hl p ys rfl (.inl (.inl (.inl (r'.sub _ _ h1)))))⟩
/-- zip(a, b), two lists or two tuples -/
theorem it_zip (G : Gd X N sc k) {elts : List Expr} {kk : Nat} {tpos : Pos} (hg : isGl sc "zip" = true) (hm : X.mg "zip" = none) (hs : noStar a = true) (hs' : noStar b = true) (ha : PE X a (tE X.K Q T C S ca)) (hb : PE X b (tE X.K Q T C S cb)) : PI X (.Tuple elts kk tpos) (.Call (.Name "zip" p) [a, b] [] pos) (tIt X.K Q T C S (.bf .zip [ca, cb])) := by
  obtain ⟨hgl, hdb, hn⟩ := G.gl hg
  refine ⟨fun pins s σ H Z I ⟨B, F, as, ρ, w, d, w', ds, r, he, hi, q⟩ => ?_⟩
  rw [bf_two] at he
  obtain ⟨d1, w1, e1, he⟩ := R.bind_ok he
  obtain ⟨d2, w2, e2, he⟩ := R.bind_ok he
  obtain ⟨he, rfl⟩ := ofO_ok he
  refine (RZ.pi_zipA hgl hm (pa_cons ha (pa_cons hb.len pa_nil (starEach_plain hs')) (starEach_plain hs)) (by rw [starEach_plain hs]) (by rw [starEach_plain hs']; rfl)).run pins s σ H Z I ⟨B, F, as, ρ, w, _, _, r, e1, fun u F1 as1 H1 g1 r1 ru => ⟨B, F1, as1, ρ, w1, _, _, r1, e2, fun v F' as' H' g r' rv hl => ?_⟩⟩
  have ru' := ru.mono g.fz g.pr
  cases d1 <;> cases d2 <;> simp only [bfD, reduceCtorEq, Option.some.injEq] at he
  case tup.tup xs _ ys _ =>
    subst he
    cases (show some (MP.zipL xs ys) = some ds from hi)
    simp only [Rep] at rv ru'
    obtain ⟨p, us, rfl, h1, h2⟩ := ru'
    obtain ⟨p', vs, rfl, h3, h4⟩ := rv
    refine ⟨p, p', us, vs, rfl, .inr ⟨r'.sub.sqT h1, r'.sub.sqT h3, q _ F' as' H' (g1.trans g) r' (WK.zipT h1 h3 h2 h4) ?_⟩⟩
    have := hl p' vs rfl (.inr (r'.sub.sqT h3))
    rw [zipL_length, ← h4.length]
    omega
  case lst.lst xs _ ys _ =>
    subst he
    cases (show some (MP.zipL xs ys) = some ds from hi)
    simp only [Rep] at rv ru'
    obtain ⟨p, us, rfl, h1, h2⟩ := ru'
    obtain ⟨p', vs, rfl, h3, h4⟩ := rv
    refine ⟨p, p', us, vs, rfl, .inl ⟨.inl (.inl (r'.sub _ _ h1)), .inl (.inl (r'.sub _ _ h3)), q _ F' as' H' (g1.trans g) r' (WK.zipL h1 h3 h2 h4) ?_⟩⟩
    have := hl p' vs rfl (.inl (.inl (.inl (r'.sub _ _ h3))))
    rw [zipL_length, ← h4.length]
    omega
/-! ### [e for p in it if c] -/
def tCs (K : PySem.W.Frag) (Q : Cls) (T : Tb) (C : CallF) (S : List Nat) (cs : List CE) : TT := fun σ H Z => ∃ B F as ρ w b w', SR K Q B S F as ρ w σ H ∧ evC T C cs ρ w = .ok b w' ∧
  ∀ F' as' H', Grw F as H F' as' H' → SR K Q B S F' as' ρ w' σ H' → Z b H'
theorem _root_.L2.PTs.imp {X : Cx} {es : List Expr} {t t' : TT} (h : PTs X es t) (hi : ∀ σ H Q, t' σ H Q → t σ H Q) : PTs X es t' := ⟨fun pins s σ H Q I q => h.run pins s σ H Q I (hi σ H Q q)⟩
theorem ifs_nil : PTs X [] (tCs X.K Q T C S []) := pts_nil.imp fun σ H Z ⟨B, F, as, ρ, w, b, w', r, he, q⟩ => by
  cases (show R.ok true w = .ok b w' from he)
  exact q F as H Grw.rfl' r
theorem ifs_one (ha : PT X a (tTst X.K Q T C S ca)) : PTs X [a] (tCs X.K Q T C S [ca]) := (pts_one ha).imp fun σ H Z ⟨B, F, as, ρ, w, b, w', r, he, q⟩ => by
  obtain ⟨b1, w1, e1, e2⟩ := R.bind_ok (show (evT T C ca ρ w).bind (fun b w => if b = true then evC T C [] ρ w else .ok false w) = .ok b w' from he)
  refine ⟨B, F, as, ρ, w, b1, w1, r, e1, fun F' as' H' g r' => ?_⟩
  cases b1 with
  | true =>
    rw [if_pos rfl] at e2
    cases (show R.ok true w1 = .ok b w' from e2)
    exact q F' as' H' g r'
  | false =>
    rw [if_neg Bool.false_ne_true] at e2
    cases e2
    exact q F' as' H' g r'
theorem fold_plain {env : Env} (h : noSet e = true) : ∀ x, foldedSetIterable e env x = pure x := by
  intro x
  cases e <;> first | rfl | cases h
section
variable {K : PySem.W.Frag} {B : Bs} {F1 : Hp} {as1 : List Addr} {H1 : Hp} {ρ : En} {σ : L2.St} {w' : Wd} {p0 : Pat} {ys : List D} {f : D → Wd → R (Option D)} {ds : List D}
/-- the state ahead of turn i: the new list at D holds what has come -/
def LcInv (K : PySem.W.Frag) (Q : Cls) (B : Bs) (S : List Nat) (F1 : Hp) (as1 : List Addr) (H1 : Hp) (ρ : En) (σ : L2.St) (f : D → Wd → R (Option D)) (ds ys : List D) (w' : Wd) (L : Addr) (i : Nat) (H : Hp) : Prop :=
  ∃ F as w ya yr acc, SR K Q B S F as ρ w σ H ∧ Grw F1 as1 H1 F as H ∧ goL f (ds.drop i) w = .ok yr w' ∧ ys = ya ++ yr ∧ ya.length ≤ i ∧ F L = none ∧ L ∉ as ∧ H L = some (.lst acc) ∧ RepL K Q F as ya acc
end
theorem drop_at {α : Type} : ∀ {ds : List α} {i : Nat} {d : α}, ds[i]? = some d → ds.drop i = d :: ds.drop (i + 1)
  | [], i, d, h => by simp at h
  | x :: xs, 0, d, h => by simp at h; subst h; rfl
  | x :: xs, i + 1, d, h => by
    rw [List.drop_succ_cons, List.drop_succ_cons]
    exact drop_at (by simpa using h)
theorem lc_imp (G : Gd X N sc k) {own : List (Str × Nat)} {pt : Pat} {cit ce : CE} (h0 : 0 ∉ own.map (·.2))
    (hps : ∀ i ∈ pslots pt, i ∈ own.map (·.2)) (hos : ∀ i ∈ own.map (·.2), i ∈ pslots pt) : ∀ σ H Z, tN X.K Q T C S (.lc pt cit cs ce) σ H Z → tLc (tIt X.K Q T C S cit) (tG X.K Q S pt) (tCs X.K Q T C S cs) (tE X.K Q T C S ce) (own.map (·.2)) σ H Z := fun σ H Z ⟨B, F, as, ρ, w, d, w', r, hev, q⟩ => by
  obtain ⟨xs, w1, e1, hev1⟩ := R.bind_ok (show (ev T C cit ρ w).bind _ = .ok d w' from hev)
  obtain ⟨ds, w2, e2', hev2⟩ := R.bind_ok hev1
  obtain ⟨e2, rfl⟩ := ofO_ok e2'
  obtain ⟨ys, w3, e3, hev3⟩ := R.bind_ok hev2
  cases (show R.ok (D.lst ys) w3 = .ok d w' from hev3)
  refine ⟨B, F, as, ρ, w, xs, _, ds, r, e1, e2, fun J F1 as1 H1 g1 r1 wk hlen L hL => ?_⟩
  have hBL : B.H L = none := r1.grw.tr L hL
  have hFL : F1 L = none := r1.sub.non hL
  have noL : ∀ i, i ∈ S → (ρ.getD i none).isSome → σ[i]? ≠ some (some (V.ref L)) := fun i hi' hs' e => by
    obtain ⟨d', hd'⟩ := Option.isSome_iff_exists.mp hs'
    obtain ⟨a, u, z1, z2, z3, z4, z5, z6⟩ := r1.own i d' hd' hi'
    rw [e] at z1
    cases z1
    rw [hL] at z4
    cases z4
  refine lc_it (w := wk) (Pv := LcInv X.K Q B S F1 as1 H1 ρ σ _ ds ys _ L) ⟨F1, as1, _, [], ys, [], r1.poke hFL (r1.notin hL) hBL noL, Grw.rfl'.poke hL, e3, rfl, Nat.le_refl _, hFL, r1.notin hL, upd_same, .nil⟩ (fun i H _ h => ?_) ?_ fun H h => ?_
  · obtain ⟨F2, as2, w2, ya, yr, acc, sr, g2, _⟩ := h
    exact fun a u e => sr.sub a u (g2.fz a u e)
  · intro i x H2 H2' hlt h y
    obtain ⟨F2, as2, w2, ya, yr, acc, sr, g2, hgo, hys, hya, hF, hA, hD, hR⟩ := h
    obtain ⟨F3, d, hd, g3, sr3, rx⟩ := YD.use sr g2.fz g2.pr y
    rw [drop_at hd] at hgo
    obtain ⟨o, w3', hf1, hgo1⟩ := R.bind_ok (show R.bind _ _ = _ from hgo)
    obtain ⟨yr', w4, hgo2, hfin⟩ := R.bind_ok hgo1
    obtain ⟨ρ', w5, hb1, hf2⟩ := R.bind_ok hf1
    obtain ⟨hb, rfl⟩ := ofO_ok hb1
    obtain ⟨bb, w6, hc, hf⟩ := R.bind_ok hf2
    have hD3 : H2' L = some (.lst acc) := g3.kp L _ hD hA
    have hF3 : F3 L = none := by
      cases z : F3 L with
      | none => rfl
      | some u =>
        rcases g3.nf L u z with z1 | z1
        · rw [hF] at z1; cases z1
        · rw [hD] at z1; cases z1
    refine ⟨B, F3, as2, _, _, d, ρ', sr3.wipe (own.map (·.2)) h0, rx, bind_wiped hos hb, fun σ2 sr4 hout => ⟨?_, ?_⟩⟩
    · rw [wipe_eq (σ := wipe σ (own.map (·.2))) (by rw [sr4.len, wipe_length, bindP_length hb]; exact sr.len.symm ▸ rfl) fun j hj => hout j fun m => hj (hps j m)]
      refine wipe_eq (wipe_length _ _) fun j hj => ?_
      rw [wipe_get, if_neg (fun z => hj z.1)]
    · refine ⟨B, F3, as2, ρ', _, bb, _, sr4, hc, fun F5 as5 H5 g5 sr5 => ?_⟩
      have keep : ∀ {F6 : Hp} {as6 : List Addr} {H6 : Hp}, Grw F3 as2 H2' F6 as6 H6 → H6 L = some (.lst acc) ∧ F6 L = none ∧ L ∉ as6 := fun g6 => by
        refine ⟨g6.kp L _ hD3 hA, ?_, fun m => ?_⟩
        · cases z : (_ : Hp) L with
          | none => exact z
          | some u =>
            rcases g6.nf L u z with z1 | z1
            · rw [hF3] at z1; cases z1
            · rw [hD3] at z1; cases z1
        · rcases g6.na L m with z1 | z1
          · exact hA z1
          · rw [hD3] at z1; cases z1
      cases bb with
      | false =>
        dsimp only
        rw [if_neg Bool.false_ne_true] at hf ⊢
        cases hf
        cases hfin
        obtain ⟨k1, k2, k3⟩ := keep g5
        exact ⟨F5, as5, _, ya, _, acc, sr3.step g5 sr5.sub sr5.wld, (g2.trans g3).trans g5, hgo2, hys, Nat.le_succ_of_le hya, k2, k3, k1, (hR.mono g3.fz g3.pr).mono g5.fz g5.pr⟩
      | true =>
        dsimp only
        rw [if_pos rfl] at hf ⊢
        obtain ⟨y, w7, hel, hf3⟩ := R.bind_ok hf
        cases hf3
        cases hfin
        refine ⟨B, F5, as5, ρ', _, y, _, sr5, hel, fun u F6 as6 H6 g6 sr6 ry => ?_⟩
        have g56 := g5.trans g6
        obtain ⟨k1, k2, k3⟩ := keep g56
        have sr7 := sr3.step g56 sr6.sub sr6.wld
        have hR6 := (hR.mono g3.fz g3.pr).mono g56.fz g56.pr
        refine ⟨acc, k1, ?_, F6, as6, _, ya ++ [y], yr', acc ++ [u], sr7.poke k2 k3 hBL noL, ((g2.trans g3).trans g56).poke hL, hgo2, by rw [hys, List.append_assoc]; rfl, by rw [List.length_append]; exact Nat.succ_le_succ hya, k2, k3, upd_same, hR6.append (.cons ry .nil)⟩
        rw [hR.length]
        exact Nat.lt_of_le_of_lt hya (Nat.lt_of_lt_of_le hlt hlen)
  · obtain ⟨F2, as2, w2, ya, yr, acc, sr, g2, hgo, hys, hya, hF, hA, hD, hR⟩ := h
    rw [List.drop_of_length_le (Nat.le_refl _)] at hgo
    cases (show R.ok [] w2 = .ok yr _ from hgo)
    rw [List.append_nil] at hys
    subst hys
    exact q rfl L _ F2 as2 H (g1.trans g2) sr (g1.tr L hL) hF hA hD ⟨acc, rfl, hR⟩
/-- [e for p in it if c] -/
theorem snd_lc (G : Gd X N sc k) {iter elt tgt : Expr} {ifs : List Expr} {scope : Scope} {own : List (Str × Nat)} {pt : Pat} {cit ce : CE} (ok : blkC N sc scope own = true) (hi : PI X tgt iter (tIt X.K Q T C S cit)) (hset : noSet iter = true) (h0 : 0 ∉ own.map (·.2))
    (hps : ∀ i ∈ pslots pt, i ∈ own.map (·.2)) (hos : ∀ i ∈ own.map (·.2), i ∈ pslots pt)
    (hg : ∀ (s : Shared) (H : Hp) (Ca : Addr) (cl : List (Str × Addr)) (fp : List Addr), PG (X.blk s H scope (compEnvC scope cl Ca X.env) fp) tgt (tG X.K Q S pt))
    (ht : ∀ (s : Shared) (H : Hp) (Ca : Addr) (cl : List (Str × Addr)) (fp : List Addr), PTs (X.blk s H scope (compEnvC scope cl Ca X.env) fp) ifs (tCs X.K Q T C S cs))
    (he : ∀ (s : Shared) (H : Hp) (Ca : Addr) (cl : List (Str × Addr)) (fp : List Addr), PE (X.blk s H scope (compEnvC scope cl Ca X.env) fp) elt (tE X.K Q T C S ce)) :
    PE X (.ListComp elt [⟨tgt, iter, ifs, 0⟩] scope pos) (tN X.K Q T C S (.lc pt cit cs ce)) :=
  (pe_lc (own := own) G.calm G.nd hi (by rw [G.nm, G.sc]; exact blkOk_by ok) hg ht he (fold_plain hset)).imp (lc_imp G h0 hps hos)
/-- name = [..] on one line, the name a local -/
theorem st_lc (G : Gd X N sc k) {i : Nat} {y : Str} {py : Pos} {iter elt tgt : Expr} {ifs : List Expr} {scope : Scope} {own : List (Str × Nat)} {pt : Pat} {cit ce : CE} {spos : Pos} (hN : N[i]? = some y) (hk : sc.kind = .function) (hy : sc.names.lookup y = some .local) (hl : (py.line == pos.line) = true)
    (hny : (scope.names.any fun (n, k) => n == y && (k == .local || k == .cell)) = false) (ok : blkC N sc scope own = true) (hi : PI X tgt iter (tIt X.K Q T C S cit)) (hset : noSet iter = true) (h0 : 0 ∉ own.map (·.2))
    (hps : ∀ i ∈ pslots pt, i ∈ own.map (·.2)) (hos : ∀ i ∈ own.map (·.2), i ∈ pslots pt)
    (hg : ∀ (s : Shared) (H : Hp) (Ca : Addr) (cl : List (Str × Addr)) (fp : List Addr), PG (X.blk s H scope (compEnvC scope cl Ca X.env) fp) tgt (tG X.K Q S pt))
    (ht : ∀ (s : Shared) (H : Hp) (Ca : Addr) (cl : List (Str × Addr)) (fp : List Addr), PTs (X.blk s H scope (compEnvC scope cl Ca X.env) fp) ifs (tCs X.K Q T C S cs))
    (he : ∀ (s : Shared) (H : Hp) (Ca : Addr) (cl : List (Str × Addr)) (fp : List Addr), PE (X.blk s H scope (compEnvC scope cl Ca X.env) fp) elt (tE X.K Q T C S ce)) :
    PS X (.Assign [.Name y py] (.ListComp elt [⟨tgt, iter, ifs, 0⟩] scope pos) spos) (tAsg (tN X.K Q T C S (.lc pt cit cs ce)) (gName i)) :=
  (ps_setLc (own := own) G.calm G.nd (by rw [G.nm]; exact hN) (by rw [G.sc]; exact hy) (sw_true (by rw [G.sc]; exact hk) (by rw [G.sc]; exact hy) hl hny) hi (by rw [G.nm, G.sc]; exact blkOk_by ok) hg ht he (fold_plain hset)).imp fun D σ H z => lc_imp G h0 hps hos σ H _ z
end
end MP

set_option Elab.async false
set_option linter.all false
set_option maxRecDepth 100000
/-! MP11: statements. -/
namespace MP
open PySem PySem.Spec PyProof.Rows L2
/-! ### slots that own -/
def addS (S : List Nat) (i : Nat) : List Nat := if i ∈ S then S else i :: S
theorem mem_addS {S : List Nat} {i j : Nat} : j ∈ addS S i ↔ j = i ∨ j ∈ S := by
  unfold addS
  split
  · rename_i h
    exact ⟨.inr, fun z => z.elim (fun e => e ▸ h) id⟩
  · exact List.mem_cons
section
variable {K : PySem.W.Frag} {Q : Cls} {B : Bs} {S : List Nat} {F F' H H' : Hp} {as as' : List Addr} {ρ : En} {w w' : Wd} {σ : L2.St} {d : D} {v : V}
/-- an owned object is rewritten -/
theorem SR.wr (r : SR K Q B S F as ρ w σ H) {i : Nat} {a : Addr} {d' : D} {o' : HO} (hi : i ∈ S) (hd : ρ.getD i none = some d) (hv : σ[i]? = some (some (.ref a))) (ho : ORep K Q F as d' o') : SR K Q B S F as (ρ.set i (some d')) w σ (upd H a o') := by
  obtain ⟨a', o, h1, h2, h3, h4, h5, h6⟩ := r.own i d hd hi
  rw [hv] at h1
  cases h1
  have hlt : i < ρ.length := by rw [← r.len]; exact (List.getElem?_eq_some_iff.mp hv).1
  exact {
    sub := fun b u e => by rw [upd_ne (ne_of_none e h2)]; exact r.sub b u e
    grw := ⟨r.grw.fz, r.grw.pr, fun b u e n => by
      rw [upd_ne (ne_of_none e h5)]; exact r.grw.kp b u e n, r.grw.nf, r.grw.na, fun b e => by
      by_cases z : b = a
      · subst z; rw [upd_same] at e; cases e
      · rw [upd_ne z] at e; exact r.grw.tr b e⟩
    len := by rw [List.length_set]; exact r.len
    frz := fun j dj e n => by
      have ne : i ≠ j := fun q => n (q ▸ hi)
      rw [getD_set, if_neg (fun z => ne z.1)] at e
      exact r.frz j dj e n
    own := fun j dj e n => by
      rw [getD_set] at e
      by_cases z : i = j
      · subst z
        rw [if_pos ⟨rfl, hlt⟩] at e
        cases e
        exact ⟨a, o', hv, h2, h3, upd_same, h5, ho⟩
      · rw [if_neg (fun q => z q.1)] at e
        obtain ⟨b, u, g1, g2, g3, g4, g5, g6⟩ := r.own j dj e n
        have ne : b ≠ a := fun q => r.dis i j a hi n z (by rw [hd]; rfl) (by rw [e]; rfl) hv (by rw [g1, q])
        exact ⟨b, u, g1, g2, g3, by rw [upd_ne ne]; exact g4, g5, g6⟩
    dis := fun j k b hj hk hjk sj sk e1 e2 => by
      have fix : ∀ l, l ∈ S → ((ρ.set i (some d')).getD l none).isSome → (ρ.getD l none).isSome := fun l hl sl => by
        rw [getD_set] at sl
        by_cases z : i = l
        · subst z; rw [hd]; rfl
        · rw [if_neg (fun q => z q.1)] at sl; exact sl
      exact r.dis j k b hj hk hjk (fix j hj sj) (fix k hk sk) e1 e2
    wld := ⟨r.wld.len, r.wld.nd, fun n dn b e1 e2 => by
      obtain ⟨f, u, g1, g2⟩ := r.wld.at_ n dn b e1 e2
      have ne : b ≠ a := fun z => h3 (z ▸ List.mem_of_getElem? e2)
      exact ⟨f, u, by rw [upd_ne ne]; exact g1, g2⟩, r.wld.sc⟩
    pin := r.pin }
/-- a new object that nobody owns yet -/
structure Nw (K : PySem.W.Frag) (Q : Cls) (B : Bs) (S : List Nat) (F : Hp) (as : List Addr) (ρ : En) (σ : L2.St) (H : Hp) (a : Addr) (d : D) : Prop where
  h : ∃ o, H a = some o ∧ ORep K Q F as d o
  f : F a = none
  n : a ∉ as
  b : B.H a = none
  s : ∀ i, i ∈ S → (ρ.getD i none).isSome → σ[i]? ≠ some (some (V.ref a))
theorem Nw.step {a : Addr} (x : Nw K Q B S F as ρ σ H a d) (g : Grw F as H F' as' H') : Nw K Q B S F' as' ρ σ H' a d := by
  obtain ⟨o, ho, rep⟩ := x.h
  refine ⟨⟨o, g.kp a o ho x.n, rep.mono g.fz g.pr⟩, ?_, fun m => ?_, x.b, x.s⟩
  · cases z : F' a with
    | none => rfl
    | some u =>
      rcases g.nf a u z with z1 | z1
      · rw [x.f] at z1; cases z1
      · rw [ho] at z1; cases z1
  · rcases g.na a m with z1 | z1
    · exact x.n z1
    · rw [ho] at z1; cases z1
/-- it is put into a slot -/
theorem SR.take (r : SR K Q B S F as ρ w σ H) {i : Nat} (hi0 : i ≠ 0) {a : Addr} (x : Nw K Q B S F as ρ σ H a d) : SR K Q B (addS S i) F as (ρ.set i (some d)) w (σ.set i (some (.ref a))) H where
  sub := r.sub
  grw := r.grw
  len := by rw [List.length_set, List.length_set]; exact r.len
  frz := fun j dj e n => by
    rw [mem_addS, not_or] at n
    have ne : i ≠ j := fun q => n.1 q.symm
    rw [getD_set, if_neg (fun z => ne z.1)] at e
    obtain ⟨v, h1, h2⟩ := r.frz j dj e n.2
    exact ⟨v, by rw [List.getElem?_set_ne ne]; exact h1, h2⟩
  own := fun j dj e n => by
    rw [getD_set] at e
    by_cases z : i = j ∧ i < ρ.length
    · rw [if_pos z] at e
      cases e
      obtain ⟨rfl, z2⟩ := z
      obtain ⟨o, ho, rep⟩ := x.h
      exact ⟨a, o, List.getElem?_set_self (by rw [r.len]; exact z2), x.f, x.n, ho, x.b, rep⟩
    · rw [if_neg z] at e
      have hlt : j < ρ.length := by
        by_cases q : j < ρ.length
        · exact q
        · rw [List.getD_eq_getElem?_getD, List.getElem?_eq_none (by omega)] at e; cases e
      have ne : i ≠ j := fun q => z ⟨q, q ▸ hlt⟩
      have hj : j ∈ S := (mem_addS.mp n).elim (fun q => absurd q.symm ne) id
      obtain ⟨b, u, g1, g2⟩ := r.own j dj e hj
      exact ⟨b, u, by rw [List.getElem?_set_ne ne]; exact g1, g2⟩
  dis := fun j k b hj hk hjk sj sk e1 e2 => by
    have at_ : ∀ l, ((ρ.set i (some d)).getD l none).isSome → l < ρ.length := fun l sl => by
      by_cases q : l < ρ.length
      · exact q
      · rw [List.getD_eq_getElem?_getD, List.getElem?_eq_none (by rw [List.length_set]; omega)] at sl; cases sl
    by_cases zj : i = j
    · subst zj
      rw [List.getElem?_set_self (by rw [r.len]; exact at_ i sj)] at e1
      cases e1
      have hkS : k ∈ S := (mem_addS.mp hk).elim (fun q => absurd q.symm hjk) id
      rw [List.getElem?_set_ne hjk] at e2
      rw [getD_set, if_neg (fun z => hjk z.1)] at sk
      exact x.s k hkS sk e2
    · have hjS : j ∈ S := (mem_addS.mp hj).elim (fun q => absurd q.symm zj) id
      rw [List.getElem?_set_ne zj] at e1
      rw [getD_set, if_neg (fun z => zj z.1)] at sj
      by_cases zk : i = k
      · subst zk
        rw [List.getElem?_set_self (by rw [r.len]; exact at_ i sk)] at e2
        cases e2
        exact x.s j hjS sj e1
      · have hkS : k ∈ S := (mem_addS.mp hk).elim (fun q => absurd q.symm zk) id
        rw [List.getElem?_set_ne zk] at e2
        rw [getD_set, if_neg (fun z => zk z.1)] at sk
        exact r.dis j k b hjS hkS hjk sj sk e1 e2
  wld := r.wld
  pin := fun b e => ⟨mem_addS.mpr (.inr (r.pin b e).1), by rw [List.getElem?_set_ne hi0]; exact (r.pin b e).2⟩
theorem Nw.other {a a' : Addr} {i : Nat} {d0 : D} (x : Nw K Q B S F as ρ σ H a d) (ne : a' ≠ a) : Nw K Q B (addS S i) F as (ρ.set i (some d0)) (σ.set i (some (.ref a'))) H a d :=
  ⟨x.h, x.f, x.n, x.b, fun j hj sj e => by
    by_cases z : i = j
    · subst z
      by_cases q : i < σ.length
      · rw [List.getElem?_set_self q] at e
        cases e
        exact ne rfl
      · rw [List.getElem?_eq_none (by rw [List.length_set]; omega)] at e; cases e
    · have hjS : j ∈ S := (mem_addS.mp hj).elim (fun q => absurd q.symm z) id
      rw [List.getElem?_set_ne z] at e
      rw [getD_set, if_neg (fun q => z q.1)] at sj
      exact x.s j hjS sj e⟩
end
/-! ### what a statement comes to -/
section
variable (K : PySem.W.Frag) (Q : Cls) (T : Tb) (C : CallF) (S S' L : List Nat)
/-- the ends, by what the core says -/
def Fin (B : Bs) (F : Hp) (as : List Addr) (w' : Wd) (D : Ends) : Fl → Prop
  | .nx ρ' => ∀ F' as' σ' H', Le F F' → Pre as as' → SR K Q B S' F' as' ρ' w' σ' H' → D.nx σ' H'
  | .bk ρ' => ∀ F' as' σ' H', Le F F' → Pre as as' → SR K Q B L F' as' ρ' w' σ' H' → D.bk σ' H'
  | .ct ρ' => ∀ F' as' σ' H', Le F F' → Pre as as' → SR K Q B L F' as' ρ' w' σ' H' → D.ct σ' H'
  | .rt d => ∀ v F' as' ρ' σ' S2 H', SR K Q B S2 F' as' ρ' w' σ' H' → Rep K Q F' as' d v → D.rt v H'
def tS (c : CS) : TS := fun D σ H => ∃ B F as ρ w r w', SR K Q B S F as ρ w σ H ∧ evS T C c ρ w = .ok r w' ∧ Fin K Q S' L B F as w' D r
def tSs (cs : List CS) : TS := fun D σ H => ∃ B F as ρ w r w', SR K Q B S F as ρ w σ H ∧ evSs T C cs ρ w = .ok r w' ∧ Fin K Q S' L B F as w' D r
end
theorem Fin.mono {K : PySem.W.Frag} {Q : Cls} {S' L : List Nat} {B : Bs} {F F1 : Hp} {as as1 : List Addr} {w' : Wd} {D : Ends} {r : Fl} (h : Fin K Q S' L B F as w' D r) (l : Le F F1) (p : Pre as as1) : Fin K Q S' L B F1 as1 w' D r := by
  cases r with
  | nx ρ' => exact fun F' as' σ' H' l' p' => h F' as' σ' H' (l.trans l') (p.trans p')
  | bk ρ' => exact fun F' as' σ' H' l' p' => h F' as' σ' H' (l.trans l') (p.trans p')
  | ct ρ' => exact fun F' as' σ' H' l' p' => h F' as' σ' H' (l.trans l') (p.trans p')
  | rt d => exact h
section
variable {Q : Cls} {T : Tb} {C : CallF} {S S' S1 L : List Nat} {X : Cx} {N : List Str} {sc : Scope} {k : Nat} {n : Nm} {e a b c tg : Expr} {es : List Expr} {st : Stmt} {sts : List Stmt} {ca cb cc : CE} {cs : List CE} {s0 : CS} {ss ss2 : List CS} {pos p apos : Pos} {x : Str} {fb : Str → Bool}
theorem ss_nil : PSs X [] (tSs X.K Q T C S S L []) := pss_nil.imp fun D σ H ⟨B, F, as, ρ, w, r, w', sr, he, q⟩ => by
  cases (show R.ok (Fl.nx ρ) w = .ok r w' from he)
  exact q F as σ H Le.rfl' Pre.rfl' sr
theorem ss_cons (h1 : PS X st (tS X.K Q T C S S1 L s0)) (h2 : PSs X sts (tSs X.K Q T C S1 S' L ss)) : PSs X (st :: sts) (tSs X.K Q T C S S' L (s0 :: ss)) := (pss_cons h1 h2).imp fun D σ H ⟨B, F, as, ρ, w, r, w', sr, he, q⟩ => by
  obtain ⟨r1, w1, e1, e2⟩ := R.bind_ok (show (evS T C s0 ρ w).bind _ = .ok r w' from he)
  refine ⟨B, F, as, ρ, w, r1, w1, sr, e1, ?_⟩
  cases r1 with
  | nx ρ1 => exact fun F' as' σ' H' l p sr' => ⟨B, F', as', ρ1, w1, r, w', sr', e2, q.mono l p⟩
  | bk ρ1 => cases e2; exact q
  | ct ρ1 => cases e2; exact q
  | rt d => cases e2; exact q
/-- a core step without a statement: the object of slot i is frozen -/
theorem ss_mv {i : Nat} (hi0 : i ≠ 0) (h2 : PSs X sts (tSs X.K Q T C (S.filter (· ≠ i)) S' L ss)) : PSs X sts (tSs X.K Q T C S S' L (.mv i :: ss)) := h2.imp fun D σ H ⟨B, F, as, ρ, w, r, w', sr, he, q⟩ => by
  obtain ⟨F', l, sr'⟩ := sr.give i hi0
  exact ⟨B, F', as, ρ, w, r, w', sr', he, q.mono l Pre.rfl'⟩
/-- no more is looked at behind a return -/
theorem ss_ret (ha : PE X e (tE X.K Q T C S ca)) : PS X (.Return (some e) pos) (tS X.K Q T C S S' L (.ret ca)) := (ps_ret ha).imp fun D σ H ⟨B, F, as, ρ, w, r, w', sr, he, q⟩ => by
  obtain ⟨d, w1, e1, e2⟩ := R.bind_ok (show (ev T C ca ρ w).bind _ = .ok r w' from he)
  cases (show R.ok (Fl.rt d) w1 = .ok r w' from e2)
  exact ⟨B, F, as, ρ, w, d, _, sr, e1, fun v F' as' H' g r' rv => q v F' as' ρ σ S H' r' rv⟩
theorem ss_retn : PS X (.Return none pos) (tS X.K Q T C S S' L .retn) := ps_retN.imp fun D σ H ⟨B, F, as, ρ, w, r, w', sr, he, q⟩ => by
  cases (show R.ok (Fl.rt .non) w = .ok r w' from he)
  exact q .non F as ρ σ S H sr (by simp only [Rep])
theorem ss_pass : PS X (.Pass pos) (tS X.K Q T C S S L .pas) := ps_pass.imp fun D σ H ⟨B, F, as, ρ, w, r, w', sr, he, q⟩ => by
  cases (show R.ok (Fl.nx ρ) w = .ok r w' from he)
  exact q F as σ H Le.rfl' Pre.rfl' sr
theorem ss_brk : PS X (.Break pos) (tS X.K Q T C S S' S .brk) := ps_break.imp fun D σ H ⟨B, F, as, ρ, w, r, w', sr, he, q⟩ => by
  cases (show R.ok (Fl.bk ρ) w = .ok r w' from he)
  exact q F as σ H Le.rfl' Pre.rfl' sr
theorem ss_cnt : PS X (.Continue pos) (tS X.K Q T C S S' S .cnt) := ps_continue.imp fun D σ H ⟨B, F, as, ρ, w, r, w', sr, he, q⟩ => by
  cases (show R.ok (Fl.ct ρ) w = .ok r w' from he)
  exact q F as σ H Le.rfl' Pre.rfl' sr
/-- a list comprehension's value dropped is another form -/
def noComp : Expr → Bool
  | .ListComp _ _ _ _ => false
  | .SetComp _ _ _ _ => false
  | .DictComp _ _ _ _ _ => false
  | _ => true
theorem sw_no {o : Option Expr} {l : Nat} {env : Env} (h : noComp e = true) : swapsWith e o l env = pure false := by
  cases e <;> first | rfl | cases h
theorem ss_ex (hn : noComp e = true) (ha : PE X e (tE X.K Q T C S ca)) : PS X (.Expr e pos) (tS X.K Q T C S S L (.ex ca)) := (ps_expr ha (sw_no hn)).imp fun D σ H ⟨B, F, as, ρ, w, r, w', sr, he, q⟩ => by
  obtain ⟨d, w1, e1, e2⟩ := R.bind_ok (show (ev T C ca ρ w).bind _ = .ok r w' from he)
  cases (show R.ok (Fl.nx ρ) w1 = .ok r w' from e2)
  exact ⟨B, F, as, ρ, w, d, _, sr, e1, fun v F' as' H' g r' rv => q F' as' σ H' g.fz g.pr r'⟩
theorem ss_if {s1 s2 : List Stmt} (hc : PT X c (tTst X.K Q T C S cc)) (ha : PSs X s1 (tSs X.K Q T C S S' L ss)) (hb : PSs X s2 (tSs X.K Q T C S S' L ss2)) : PS X (.If c s1 s2 pos) (tS X.K Q T C S S' L (.ite cc ss ss2)) := (ps_if hc ha hb).imp fun D σ H ⟨B, F, as, ρ, w, r, w', sr, he, q⟩ => by
  obtain ⟨t, w1, e1, e2⟩ := R.bind_ok (show (evT T C cc ρ w).bind _ = .ok r w' from he)
  refine ⟨B, F, as, ρ, w, t, w1, sr, e1, fun F' as' H' g r' => ?_⟩
  cases t with
  | true =>
    rw [if_pos rfl] at e2 ⊢
    exact ⟨B, F', as', ρ, w1, r, w', r', e2, q.mono g.fz g.pr⟩
  | false =>
    rw [if_neg Bool.false_ne_true] at e2 ⊢
    exact ⟨B, F', as', ρ, w1, r, w', r', e2, q.mono g.fz g.pr⟩
/-- for p in it -/
theorem ss_for (G : Gd X N sc k) (hp : PassesOwn (model X.prog X.w) X.A X.env X.xe) {iter : Expr} {body : List Stmt} {pt : Pat} (hi : PI X tg iter (tIt X.K Q T C S ca)) (hset : noSet iter = true) (hg : PG X tg (tG X.K Q S pt)) (hb : PSs X body (tSs X.K Q T C S S S ss)) :
    PS X (.For tg iter body [] pos) (tS X.K Q T C S S L (.for_ pt ca ss)) := (ps_for hp G.calm hi hg hb (fold_plain hset)).imp fun D σ H ⟨B, F, as, ρ, w, r, w', sr, he, q⟩ => by
  obtain ⟨xs, w1, e1, e2⟩ := R.bind_ok (show (ev T C ca ρ w).bind _ = .ok r w' from he)
  obtain ⟨ds, w2, e3, e4⟩ := R.bind_ok e2
  obtain ⟨e5, rfl⟩ := ofO_ok e3
  refine ⟨B, F, as, ρ, w, xs, _, ds, sr, e1, e5, fun J F1 as1 H1 g1 r1 wk hlen => ?_⟩
  refine for_it wk (Pv := fun i σ H => ∃ F2 as2 ρ2 w2, SR X.K Q B S F2 as2 ρ2 w2 σ H ∧ Le F1 F2 ∧ Pre as1 as2 ∧ goF (fun d ρ w => (ofO (bindP pt ρ d) w).bind fun ρ w => evSs T C ss ρ w) (ds.drop i) ρ2 w2 = .ok r w') ⟨F1, as1, ρ, _, r1, Le.rfl', Pre.rfl', e4⟩ ?_ ?_ ?_
  · rintro i σ H _ ⟨F2, as2, ρ2, w2, sr2, l2, p2, _⟩
    exact fun a u z => sr2.sub a u (l2 a u z)
  · rintro i x σ2 H2 H2' hlt ⟨F2, as2, ρ2, w2, sr2, l2, p2, hgo⟩ y
    obtain ⟨F3, d, hd, g3, sr3, rx⟩ := YD.use sr2 l2 p2 y
    rw [drop_at hd] at hgo
    obtain ⟨r2, w3, hf1, hgo1⟩ := R.bind_ok (show R.bind _ _ = _ from hgo)
    obtain ⟨ρ3, w4, hb1, hf2⟩ := R.bind_ok hf1
    obtain ⟨hb, rfl⟩ := ofO_ok hb1
    refine ⟨B, F3, as2, ρ2, _, d, ρ3, sr3, rx, hb, fun σ3 sr4 _ => ⟨B, F3, as2, ρ3, _, r2, w3, sr4, hf2, ?_⟩⟩
    have l3 := l2.trans g3.fz
    have p3 := p2.trans g3.pr
    cases r2 with
    | nx ρ4 => exact fun F' as' σ' H' l p sr' => ⟨F', as', ρ4, w3, sr', l3.trans l, p3.trans p, hgo1⟩
    | ct ρ4 => exact fun F' as' σ' H' l p sr' => ⟨F', as', ρ4, w3, sr', l3.trans l, p3.trans p, hgo1⟩
    | bk ρ4 =>
      cases (show R.ok (Fl.nx ρ4) w3 = .ok r w' from hgo1)
      exact fun F' as' σ' H' l p sr' => q F' as' σ' H' ((g1.fz.trans l3).trans l) ((g1.pr.trans p3).trans p) sr'
    | rt d4 =>
      cases (show R.ok (Fl.rt d4) w3 = .ok r w' from hgo1)
      exact q
  · rintro σ2 H2 ⟨F2, as2, ρ2, w2, sr2, l2, p2, hgo⟩
    rw [List.drop_of_length_le (Nat.le_refl _)] at hgo
    cases (show R.ok (Fl.nx ρ2) w2 = .ok r w' from hgo)
    exact q F2 as2 σ2 H2 (g1.fz.trans l2) (g1.pr.trans p2) sr2
/-- while c -/
theorem ss_while (hp : PassesOwn (model X.prog X.w) X.A X.env X.xe) {body : List Stmt} (hc : PT X c (tTst X.K Q T C S cc)) (hb : PSs X body (tSs X.K Q T C S S S ss)) :
    PS X (.While c body [] pos) (tS X.K Q T C S S L (.whl cc ss)) := (ps_while hp hc hb).imp fun D σ H ⟨B, F, as, ρ, w, r, w', sr, he, q⟩ => by
  refine ⟨fun m σ H => ∃ F2 as2 ρ2 w2, SR X.K Q B S F2 as2 ρ2 w2 σ H ∧ Le F F2 ∧ Pre as as2 ∧ goW (fun ρ w => evT T C cc ρ w) (fun ρ w => evSs T C ss ρ w) m ρ2 w2 = .ok r w', ⟨whileMost, F, as, ρ, w, sr, Le.rfl', Pre.rfl', he⟩, ?_⟩
  rintro m σ2 H2 ⟨F2, as2, ρ2, w2, sr2, l2, p2, hgo⟩
  cases m with
  | zero => cases hgo
  | succ m =>
    obtain ⟨t, w3, h1, h2⟩ := R.bind_ok (show R.bind _ _ = _ from hgo)
    refine ⟨B, F2, as2, ρ2, w2, t, w3, sr2, h1, fun F3 as3 H3 g3 sr3 => ?_⟩
    have l3 := l2.trans g3.fz
    have p3 := p2.trans g3.pr
    cases t with
    | false =>
      dsimp only
      rw [if_neg Bool.false_ne_true] at h2 ⊢
      cases h2
      exact q F3 as3 σ2 H3 l3 p3 sr3
    | true =>
      dsimp only
      rw [if_pos rfl] at h2 ⊢
      obtain ⟨r2, w4, h3, h4⟩ := R.bind_ok h2
      refine ⟨fun σ' H' => ∃ F2 as2 ρ2 w2, SR X.K Q B S F2 as2 ρ2 w2 σ' H' ∧ Le F F2 ∧ Pre as as2 ∧ goW (fun ρ w => evT T C cc ρ w) (fun ρ w => evSs T C ss ρ w) m ρ2 w2 = .ok r w', fun σ' H' z => ⟨m, Nat.lt_succ_self m, z⟩, B, F3, as3, ρ2, w3, r2, w4, sr3, h3, ?_⟩
      cases r2 with
      | nx ρ4 => exact fun F' as' σ' H' l p sr' => ⟨F', as', ρ4, w4, sr', l3.trans l, p3.trans p, h4⟩
      | ct ρ4 => exact fun F' as' σ' H' l p sr' => ⟨F', as', ρ4, w4, sr', l3.trans l, p3.trans p, h4⟩
      | bk ρ4 =>
        cases (show R.ok (Fl.nx ρ4) w4 = .ok r w' from h4)
        exact fun F' as' σ' H' l p sr' => q F' as' σ' H' (l3.trans l) (p3.trans p) sr'
      | rt d4 =>
        cases (show R.ok (Fl.rt d4) w4 = .ok r w' from h4)
        exact q
/-! ### stores -/
def tgt1 (N : List Str) (sc : Scope) (fb : Str → Bool) (i : Nat) (e : Expr) : Bool := tgtB N sc fb i e
/-- name = e, a value -/
theorem asg_imp {i : Nat} (hi : i ∉ S) : ∀ D σ H, tS X.K Q T C S S L (.set (.n i) ca) D σ H → tAsg (tE X.K Q T C S ca) (gName i) D σ H := fun D σ H ⟨B, F, as, ρ, w, r, w', sr, he, q⟩ => by
  obtain ⟨d, w1, e1, e2⟩ := R.bind_ok (show (ev T C ca ρ w).bind _ = .ok r w' from he)
  cases (show R.ok (Fl.nx (ρ.set i (some d))) w1 = .ok r w' from e2)
  exact ⟨B, F, as, ρ, w, d, _, sr, e1, fun v F' as' H' g r' rv => q F' as' _ H' g.fz g.pr (r'.put hi rv)⟩
theorem asgN_imp {i : Nat} (hi0 : i ≠ 0) : ∀ D σ H, tS X.K Q T C S (addS S i) L (.seto i ca) D σ H → tAsg (tN X.K Q T C S ca) (gName i) D σ H := fun D σ H ⟨B, F, as, ρ, w, r, w', sr, he, q⟩ => by
  obtain ⟨d, w1, e1, e2⟩ := R.bind_ok (show (ev T C ca ρ w).bind _ = .ok r w' from he)
  refine ⟨B, F, as, ρ, w, d, w1, sr, e1, fun hn p o F' as' H' g r' hp hf ha ho rep => ?_⟩
  simp only [hn, if_true] at e2
  cases (show R.ok (Fl.nx (ρ.set i (some d))) w1 = .ok r w' from e2)
  refine q F' as' _ H' g.fz g.pr (r'.take hi0 ⟨⟨o, ho, rep⟩, hf, ha, sr.grw.tr p hp, fun j hj sj e => ?_⟩)
  obtain ⟨d', hd'⟩ := Option.isSome_iff_exists.mp sj
  obtain ⟨b, u, z1, z2, z3, z4, z5, z6⟩ := sr.own j d' hd' hj
  rw [e] at z1
  cases z1
  rw [hp] at z4
  cases z4
theorem ss_set (G : Gd X N sc k) (hfb : ∀ x, fb x = true → X.fn x = true) {i : Nat} (ht : tgtB N sc fb i tg = true) (hi : i ∉ S) (hn : noComp e = true) (ha : PE X e (tE X.K Q T C S ca)) : PS X (.Assign [tg] e pos) (tS X.K Q T C S S L (.set (.n i) ca)) := by
  obtain ⟨x, p, rfl, hN, hl, hf⟩ := tgtB_ok ht
  exact (ps_set G.nd (by rw [G.nm]; exact hN) (by rw [G.sc]; exact hl) ha (sw_no hn) (hf.elim (fun z => .inl (hfb x z)) fun z => .inr (by rw [G.sc]; exact z))).imp (asg_imp hi)
theorem ss_seto (G : Gd X N sc k) (hfb : ∀ x, fb x = true → X.fn x = true) {i : Nat} (hi0 : i ≠ 0) (ht : tgtB N sc fb i tg = true) (hn : noComp e = true) (ha : PE X e (tN X.K Q T C S ca)) : PS X (.Assign [tg] e pos) (tS X.K Q T C S (addS S i) L (.seto i ca)) := by
  obtain ⟨x, p, rfl, hN, hl, hf⟩ := tgtB_ok ht
  exact (ps_set G.nd (by rw [G.nm]; exact hN) (by rw [G.sc]; exact hl) ha (sw_no hn) (hf.elim (fun z => .inl (hfb x z)) fun z => .inr (by rw [G.sc]; exact z))).imp (asgN_imp hi0)
/-- name = [..] on one line -/
theorem lcSet {i : Nat} (h : PS X st (tAsg (tN X.K Q T C S ca) (gName i))) (hi : i ∉ S) : PS X st (tS X.K Q T C S S L (.set (.n i) ca)) := h.imp fun D σ H ⟨B, F, as, ρ, w, r, w', sr, he, q⟩ => by
  obtain ⟨d, w1, e1, e2⟩ := R.bind_ok (show (ev T C ca ρ w).bind _ = .ok r w' from he)
  cases (show R.ok (Fl.nx (ρ.set i (some d))) w1 = .ok r w' from e2)
  refine ⟨B, F, as, ρ, w, d, _, sr, e1, fun hn p o F' as' H' g r' hp hf ha ho rep => ?_⟩
  have r2 := r'.freeze ho hf ha (sr.grw.tr p hp) fun j hj sj e => by
    obtain ⟨d', hd'⟩ := Option.isSome_iff_exists.mp sj
    obtain ⟨b, u, z1, z2, z3, z4, z5, z6⟩ := sr.own j d' hd' hj
    rw [e] at z1
    cases z1
    rw [hp] at z4
    cases z4
  have rep' := rep.mono (Le.upd (F := F') (p := p) (o := o) hf) (Pre.rfl' (as := as'))
  refine q (L2.upd F' p o) as' _ H' (g.fz.trans (Le.upd hf)) g.pr (r2.put hi ?_)
  cases d <;> simp only [ORep] at rep' <;> simp only [Rep]
  · obtain ⟨xs, rfl, z⟩ := rep'
    exact ⟨p, xs, rfl, upd_same, z⟩
  · obtain ⟨kvs, rfl, z1, z2⟩ := rep'
    exact ⟨p, kvs, rfl, .inl upd_same, z1, z2⟩
  · obtain ⟨dx, nfs, rfl, z1, z2⟩ := rep'
    exact ⟨p, dx, nfs, rfl, upd_same, z1, z2⟩
theorem lcSetN {i : Nat} (hi0 : i ≠ 0) (h : PS X st (tAsg (tN X.K Q T C S ca) (gName i))) : PS X st (tS X.K Q T C S (addS S i) L (.seto i ca)) := h.imp (asgN_imp hi0)
/-- a pattern = e -/
theorem ss_setp (hw : swappedStores [tg] e X.env = pure none) (hn : noComp e = true) (hs : noStar tg = true) {pt : Pat} (hg : PG X tg (tG X.K Q S pt)) (ha : PE X e (tE X.K Q T C S ca)) : PS X (.Assign [tg] e pos) (tS X.K Q T C S S L (.set pt ca)) :=
  (ps_asg ha hg (sw_no hn) hw (assignEach_plain (es := []) hs)).imp fun D σ H ⟨B, F, as, ρ, w, r, w', sr, he, q⟩ => by
    obtain ⟨d, w1, e1, e2⟩ := R.bind_ok (show (ev T C ca ρ w).bind _ = .ok r w' from he)
    obtain ⟨ρ1, w2, e3, e4⟩ := R.bind_ok e2
    obtain ⟨e5, rfl⟩ := ofO_ok e3
    cases (show R.ok (Fl.nx ρ1) w2 = .ok r w' from e4)
    exact ⟨B, F, as, ρ, w, d, _, sr, e1, fun v F' as' H' g r' rv => ⟨B, F', as', ρ, _, d, ρ1, r', rv, e5, fun σ' sr' _ => q F' as' σ' H' g.fz g.pr sr'⟩⟩
end
end MP

set_option Elab.async false
set_option linter.all false
set_option maxRecDepth 100000
/-! MP12: what is written into an own object; op=; several stores at once. -/
namespace MP
open PySem PySem.Spec PyProof.Rows L2
section
variable {Q : Cls} {T : Tb} {C : CallF} {S S' S1 L : List Nat} {X : Cx} {N : List Str} {sc : Scope} {k : Nat} {n : Nm} {e a b c tg : Expr} {es : List Expr} {st : Stmt} {sts : List Stmt} {ca cb cc : CE} {cs : List CE} {s0 : CS} {ss ss2 : List CS} {pos p apos spos : Pos} {x : Str} {fb : Str → Bool}
theorem few_of {es : List Expr} {env : Env} (hs : (e :: es).all noStar = true) (hl : es.length < 29) : ((backTo pos (starEach (e :: es) env)).all (fun x => !x.1) && (backToKw pos (keywordEach [] env)).all (fun x => x.1.isSome)
      && decide ((e :: es).length + ([] : List Keyword).length + (if ([] : List Keyword).isEmpty then 0 else 1) < 30)) = true := by
  rw [(stars_plain hs).2]
  simp [backToKw, keywordEach]
  omega
theorem slot_var (G : Gd X N sc k) {i : Nat} (h : isSlot N sc i e = true) : PE X e (tVar i) := by
  obtain ⟨x, p, rfl, hN, hv, h1, h2⟩ := isSlot_ok h
  exact pe_var (by rw [G.nm]; exact hN) (by unfold Vis; rw [G.sc]; exact hv) h1 h2
/-- the list of an own slot -/
theorem SR.lst {K : PySem.W.Frag} {B : Bs} {F H : Hp} {as : List Addr} {ρ : En} {w : Wd} {σ : L2.St} {i : Nat} {xs : List D} (r : SR K Q B S F as ρ w σ H) (hi : i ∈ S) (h : lstAt ρ i = some xs) : ρ.getD i none = some (.lst xs) ∧ ∃ a vs, σ[i]? = some (some (.ref a)) ∧ H a = some (.lst vs) ∧ RepL K Q F as xs vs ∧ a ∉ as := by
  unfold lstAt at h
  split at h
  · rename_i ys e
    cases h
    refine ⟨e, ?_⟩
    obtain ⟨a, o, h1, h2, h3, h4, h5, h6⟩ := r.own i _ e hi
    simp only [ORep] at h6
    obtain ⟨vs, rfl, h7⟩ := h6
    exact ⟨a, vs, h1, h4, h7, h3⟩
  · cases h
/-- xs.append(e) -/
theorem ss_app (G : Gd X N sc k) {i : Nat} {o : Expr} (hi : isSlot N sc i o = true) (hS : i ∈ S) (hs : noStar e = true) (hline : (apos.endLine == pos.line) = true) (ha : PE X e (tE X.K Q T C S ca)) :
    PS X (.Expr (.Call (.Attribute o "append" apos) [e] [] pos) spos) (tS X.K Q T C S S L (.app i ca)) := by
  have hb : baseOk o = true := by obtain ⟨x, p, rfl, _⟩ := isSlot_ok hi; rfl
  refine (ps_expr (pe_bm (T := "list") (id := "list.append") F.plainAttrs_list F.slot_list_append F.type_list_append (show MtR X "list.append" rAppend from mt_append) (slot_var G hi) (pa_cons ha pa_nil (starEach_plain hs)) (base_of hb) (few_of (by simp [hs]) (by decide)) hline (starEach_plain hs) rfl) rfl).imp fun D σ H ⟨B, F, as, ρ, w, r, w', sr, he, q⟩ => ?_
  obtain ⟨d, w1, e1, e2⟩ := R.bind_ok (show (ev T C ca ρ w).bind _ = .ok r w' from he)
  cases hx : lstAt ρ i with
  | none => rw [hx] at e2; cases e2
  | some xs =>
    simp only [hx] at e2
    split at e2
    case isFalse => cases e2
    rename_i hlt
    cases (show R.ok (Fl.nx (ρ.set i (some (.lst (xs ++ [d]))))) w1 = .ok r w' from e2)
    obtain ⟨hd, ad, vs, h1, h2, h3, h4⟩ := sr.lst hS hx
    refine ⟨.ref ad, h1, .inl ⟨rfl, vs, .inl (.inl h2)⟩, B, F, as, ρ, w, d, _, sr, e1, fun v F' as' H' g r' rv => ⟨ad, vs, v, rfl, rfl, g.kp ad _ h2 h4, ?_, ?_⟩⟩
    · rw [h3.length, sizeLine_eq]; exact hlt
    · exact q F' as' σ _ g.fz g.pr (r'.wr hS hd h1 (by simp only [ORep]; exact ⟨_, rfl, (h3.mono g.fz g.pr).append (.cons rv .nil)⟩))
/-- xs.extend(a list) -/
theorem ss_ext (G : Gd X N sc k) {i : Nat} {o : Expr} (hi : isSlot N sc i o = true) (hS : i ∈ S) (hs : noStar e = true) (hline : (apos.endLine == pos.line) = true) (ha : PE X e (tE X.K Q T C S ca)) :
    PS X (.Expr (.Call (.Attribute o "extend" apos) [e] [] pos) spos) (tS X.K Q T C S S L (.ext i ca)) := by
  have hb : baseOk o = true := by obtain ⟨x, p, rfl, _⟩ := isSlot_ok hi; rfl
  refine (ps_expr (pe_bm (T := "list") (id := "list.extend") F.plainAttrs_list F.slot_list_extend F.type_list_extend (show MtR X "list.extend" rExtend from mt_extend) (slot_var G hi) (pa_cons ha pa_nil (starEach_plain hs)) (base_of hb) (few_of (by simp [hs]) (by decide)) hline (starEach_plain hs) rfl) rfl).imp fun D σ H ⟨B, F, as, ρ, w, r, w', sr, he, q⟩ => ?_
  obtain ⟨d, w1, e1, e2⟩ := R.bind_ok (show (ev T C ca ρ w).bind _ = .ok r w' from he)
  cases hx : lstAt ρ i with
  | none => rw [hx] at e2; cases e2
  | some xs =>
    cases d <;> simp only [hx, reduceCtorEq] at e2
    rename_i ys
    split at e2
    case isFalse => cases e2
    rename_i hlt
    cases (show R.ok (Fl.nx (ρ.set i (some (.lst (xs ++ ys))))) w1 = .ok r w' from e2)
    obtain ⟨hd, ad, vs, h1, h2, h3, h4⟩ := sr.lst hS hx
    refine ⟨.ref ad, h1, .inl ⟨rfl, vs, .inl (.inl h2)⟩, B, F, as, ρ, w, _, _, sr, e1, fun v F' as' H' g r' rv => ?_⟩
    simp only [Rep] at rv
    obtain ⟨b, us, rfl, h5, h6⟩ := rv
    refine ⟨ad, b, vs, us, rfl, rfl, g.kp ad _ h2 h4, r'.sub _ _ h5, ?_, ?_⟩
    · rw [h3.length, h6.length]; exact bigN_le hlt
    · exact q F' as' σ _ g.fz g.pr (r'.wr hS hd h1 (by simp only [ORep]; exact ⟨_, rfl, (h3.mono g.fz g.pr).append h6⟩))
/-- xs.insert(k, e) -/
theorem ss_insr (G : Gd X N sc k) {i : Nat} {o : Expr} (hi : isSlot N sc i o = true) (hS : i ∈ S) (hs : noStar a = true) (hs' : noStar b = true) (hline : (apos.endLine == pos.line) = true) (ha : PE X a (tE X.K Q T C S ca)) (hb : PE X b (tE X.K Q T C S cb)) :
    PS X (.Expr (.Call (.Attribute o "insert" apos) [a, b] [] pos) spos) (tS X.K Q T C S S L (.insr i ca cb)) := by
  have hb0 : baseOk o = true := by obtain ⟨x, p, rfl, _⟩ := isSlot_ok hi; rfl
  refine (ps_expr (pe_bm (T := "list") (id := "list.insert") F.plainAttrs_list F.slot_list_insert F.type_list_insert mt_insert (slot_var G hi) (pa_cons ha (pa_cons hb pa_nil (starEach_plain hs')) (starEach_plain hs)) (base_of hb0) (few_of (by simp [hs, hs']) (by simp)) hline (starEach_plain hs) (by rw [starEach_plain hs']; rfl)) rfl).imp fun D σ H ⟨B, F, as, ρ, w, r, w', sr, he, q⟩ => ?_
  obtain ⟨d1, w1, e1, e2⟩ := R.bind_ok (show (ev T C ca ρ w).bind _ = .ok r w' from he)
  obtain ⟨d2, w2, e3, e4⟩ := R.bind_ok e2
  cases hx : lstAt ρ i with
  | none => rw [hx] at e4; cases e4
  | some xs =>
    cases d1 <;> simp only [hx, reduceCtorEq] at e4
    rename_i j
    split at e4
    case isFalse => cases e4
    rename_i hlt
    cases (show R.ok (Fl.nx (ρ.set i (some (.lst (xs.take j.toNat ++ d2 :: xs.drop j.toNat))))) w2 = .ok r w' from e4)
    obtain ⟨hd, ad, vs, h1, h2, h3, h4⟩ := sr.lst hS hx
    refine ⟨.ref ad, h1, .inl ⟨rfl, vs, .inl (.inl h2)⟩, B, F, as, ρ, w, _, w1, sr, e1, fun u F1 as1 H1 g1 r1 ru => ⟨B, F1, as1, ρ, w1, d2, _, r1, e3, fun v F' as' H' g r' rv => ?_⟩⟩
    simp only [Rep] at ru
    subst ru
    have g2 := g1.trans g
    have hb : xs.length < 16777216 := hlt.2.2
    refine ⟨ad, vs, j, v, rfl, rfl, g2.kp ad _ h2 h4, by rw [h3.length, sizeLine_eq]; exact hb, hlt.1, by have := hlt.2.1; omega, ?_⟩
    have h5 := h3.mono g2.fz g2.pr
    refine q F' as' σ _ g2.fz g2.pr (r'.wr hS hd h1 ?_)
    simp only [ORep]
    refine ⟨_, rfl, ?_⟩
    rw [List.append_assoc]
    exact (h5.take _).append (.cons rv (h5.drop _))
/-- i += e, intsO -/
theorem ss_aug (G : Gd X N sc k) (hfb : ∀ x, fb x = true → X.fn x = true) {i : Nat} {o : Bop} {op : Operator} (ho : (match o, op with | .add, .Add => true | .sub, .Sub => true | _, _ => false) = true) (ht : tgtB N sc fb i tg = true) (hi : i ∉ S) (ha : PE X e (tE X.K Q T C S ca)) : PS X (.AugAssign tg op e pos) (tS X.K Q T C S S L (.aug i o ca)) := by
  obtain ⟨x, p, rfl, hN, hl, hf⟩ := tgtB_ok ht
  have key : ∀ (ti : TIp) (hp : PIp X op ti), (∀ a b d, augD o a b = some d → ∃ i j : Int, a = .int i ∧ b = .int j ∧ ∃ l : Int, d = .int l ∧ ∀ H Z, Z (.int l) H → ti (.int i) (.int j) H Z) → PS X (.AugAssign (.Name x p) op e pos) (tS X.K Q T C S S L (.aug i o ca)) := fun ti hp h =>
    (ps_aug G.nd (by rw [G.nm]; exact hN) (by rw [G.sc]; exact hl) ha hp (hf.elim (fun z => .inl (hfb x z)) fun z => .inr (by rw [G.sc]; exact z))).imp fun D σ H ⟨B, F, as, ρ, w, r, w', sr, he, q⟩ => by
      obtain ⟨d1, w1, e1, e2⟩ := R.bind_ok (show (ofO (ρ.getD i none) w).bind _ = .ok r w' from he)
      obtain ⟨e3, rfl⟩ := ofO_ok e1
      obtain ⟨d2, w2, e4, e5⟩ := R.bind_ok e2
      obtain ⟨d, w3, e6, e7⟩ := R.bind_ok e5
      obtain ⟨e8, rfl⟩ := ofO_ok e6
      cases (show R.ok (Fl.nx (ρ.set i (some d))) w3 = .ok r w' from e7)
      obtain ⟨i1, j1, rfl, rfl, l, rfl, hz⟩ := h _ _ _ e8
      obtain ⟨v, hv, rv⟩ := sr.frz i _ e3 hi
      simp only [Rep] at rv
      subst rv
      refine ⟨_, hv, B, F, as, ρ, _, _, _, sr, e4, fun v F' as' H' g r' rv => ?_⟩
      simp only [Rep] at rv
      subst rv
      exact hz H' _ (q F' as' _ H' g.fz g.pr (r'.put hi (by simp only [Rep])))
  cases o <;> cases op <;> simp only [Bool.false_eq_true] at ho
  · refine key _ (show PIp X .Add (rI0 fun i j => .int (i + j)) from iop_add) fun a b d h => ?_
    cases a <;> cases b <;> simp only [augD, reduceCtorEq, Option.some.injEq] at h
    subst h
    exact ⟨_, _, rfl, rfl, _, rfl, fun H Z z => ⟨_, _, rfl, rfl, z⟩⟩
  · refine key _ (show PIp X .Sub (rI0 fun i j => .int (i - j)) from iop_sub) fun a b d h => ?_
    cases a <;> cases b <;> simp only [augD, reduceCtorEq, Option.some.injEq] at h
    subst h
    exact ⟨_, _, rfl, rfl, _, rfl, fun H Z z => ⟨_, _, rfl, rfl, z⟩⟩
/-! ### o[k] = e -/
theorem rep_keys {K : PySem.W.Frag} {F : Hp} {as : List Addr} {x d : D} {v : V} {kk : Key} (hx : keyO x = some kk) (rv : Rep K Q F as d v) : ∀ {ks vs vs' : List D} {kvs : List (Key × V)}, ks.map keyO = kvs.map (fun p => some p.1) → RepL K Q F as vs (kvs.map (·.2)) → repD x d ks vs = some vs' →
    ks.map keyO = (kvs.map fun kv => if kv.1 = kk then (kv.1, v) else kv).map (fun p => some p.1) ∧ RepL K Q F as vs' ((kvs.map fun kv => if kv.1 = kk then (kv.1, v) else kv).map (·.2))
  | [], [], vs', [], _, _, h => by
    cases (show some [] = some vs' from h)
    exact ⟨rfl, .nil⟩
  | [], _ :: _, _, _, _, _, h => by cases h
  | _ :: _, [], _, _, _, _, h => by cases h
  | [], [], _, _ :: _, h, _, _ => by simp at h
  | _ :: _, _ :: _, _, [], h, _, _ => by simp at h
  | z :: ks, y :: vs, vs', p :: kvs, h, hr, hp => by
    rw [List.map_cons, List.map_cons] at h
    injection h with h1 h2
    rw [List.map_cons] at hr
    simp only [RepL] at hr
    obtain ⟨u, us, e, r, rs⟩ := hr
    injection e with e1 e2
    subst e1 e2
    have hp' : (match eqD z x, repD x d ks vs with
      | some b, some r => some ((if b then d else y) :: r)
      | _, _ => none) = some vs' := hp
    rw [key_eq h1 hx] at hp'
    cases g : repD x d ks vs with
    | none => rw [g] at hp'; cases hp'
    | some r0 =>
      rw [g] at hp'
      cases hp'
      obtain ⟨t1, t2⟩ := rep_keys hx rv h2 rs g
      by_cases e : p.1 = kk
      · simp only [List.map_cons, if_pos e, decide_eq_true e, if_true]
        exact ⟨by rw [h1, t1], .cons rv (by simpa using t2)⟩
      · simp only [List.map_cons, if_neg e, decide_eq_false e, Bool.false_eq_true, if_false]
        exact ⟨by rw [h1, t1], .cons r (by simpa using t2)⟩
theorem put_keys {K : PySem.W.Frag} {F : Hp} {as : List Addr} {x d : D} {v : V} {kk : Key} (hx : keyO x = some kk) (rv : Rep K Q F as d v) {ks vs ks' vs' : List D} {kvs : List (Key × V)} (h : ks.map keyO = kvs.map (fun p => some p.1)) (hr : RepL K Q F as vs (kvs.map (·.2))) (hp : putD x d ks vs = some (ks', vs')) :
    ks'.map keyO = (putK kvs kk v).map (fun p => some p.1) ∧ RepL K Q F as vs' ((putK kvs kk v).map (·.2)) ∧ kvs.length ≤ ks'.length := by
  unfold putD at hp
  split at hp
  case isFalse => cases hp
  have hl := congrArg List.length h
  simp only [List.length_map] at hl
  have ha := any_keys hx h
  rw [ha] at hp
  have hs : (kvs.any fun kv => decide (kv.1 = kk)) = (valV kvs kk).isSome := by
    clear h hr hl ha hp
    induction kvs with
    | nil => rfl
    | cons q qs ih =>
      rw [List.any_cons, ih]
      by_cases z : q.1 = kk
      · rw [valV_pos z, decide_eq_true z, Bool.true_or, Option.isSome_some]
      · rw [valV_neg z, decide_eq_false z, Bool.false_or]
  unfold putK
  rw [hs]
  cases e : (valV kvs kk).isSome with
  | true =>
    rw [e] at hp
    obtain ⟨r, g1, g2⟩ := Option.map_eq_some_iff.mp (show (repD x d ks vs).map (fun r => (ks, r)) = some (ks', vs') from hp)
    cases g2
    obtain ⟨t1, t2⟩ := rep_keys hx rv h hr g1
    rw [if_pos rfl]
    exact ⟨t1, t2, by omega⟩
  | false =>
    rw [e] at hp
    cases (show some (ks ++ [x], vs ++ [d]) = some (ks', vs') from hp)
    rw [if_neg Bool.false_ne_true]
    refine ⟨by simp [h, hx], by rw [List.map_append]; exact hr.append (.cons rv .nil), by simp; omega⟩
def rSet2 : TSet := fun o i v H Z => rSetL o i v H Z ∨ rSetD o i v H Z
theorem set2 (G : Gd X N sc k) : PSet X rSet2 := fun pins s σ H o i v ov iv u Z I ro ri rv h => h.elim (set_list pins s σ H o i v ov iv u Z I ro ri rv) (set_dict G.hu pins s σ H o i v ov iv u Z I ro ri rv)
theorem sw_sub {i : Expr} {o : Expr} {l : Nat} {env : Env} : swapsWith e (some (.Subscript o i spos)) l env = pure false := by
  cases e <;> rfl
theorem sws_sub {i : Expr} {o : Expr} {env : Env} : swappedStores [.Subscript o i spos] e env = pure none := by
  cases e <;> rfl
/-- o[k] = e, o an own list or dict -/
theorem ss_seti (G : Gd X N sc k) {i : Nat} {o : Expr} {p2 : Pos} (hi : isSlot N sc i o = true) (hS : i ∈ S) (hpl : plainIx a = true) (ha : PE X a (tE X.K Q T C S ca)) (he : PE X e (tE X.K Q T C S cb)) :
    PS X (.Assign [.Subscript o a spos] e p2) (tS X.K Q T C S S L (.seti i ca cb)) :=
  (ps_asg he (pg_sub (slot_var G hi) ha (set2 G) (by
    obtain ⟨x, p, rfl, _⟩ := isSlot_ok hi
    intro v
    cases a <;> first | rfl | cases hpl)) (sw_sub : swapsWith e (some (.Subscript o a spos)) p2.line X.env = pure false) sws_sub rfl).imp fun D σ H ⟨B, F, as, ρ, w, r, w', sr, hev, q⟩ => by
    obtain ⟨d, w1, e1, e2⟩ := R.bind_ok (show (ev T C cb ρ w).bind _ = .ok r w' from hev)
    obtain ⟨j, w2, e3, e4⟩ := R.bind_ok e2
    refine ⟨B, F, as, ρ, w, d, w1, sr, e1, fun v F1 as1 H1 g1 r1 rv => ?_⟩
    cases hx : ρ.getD i none with
    | none => simp only [hx] at e4; cases e4
    | some dx =>
      obtain ⟨ad, ob, h1, h2, h3, h4, h5, h6⟩ := r1.own i dx hx hS
      refine ⟨.ref ad, h1, B, F1, as1, ρ, w1, j, _, r1, e3, fun u F2 as2 H2 g2 r2 ru => ?_⟩
      have h4' := g2.kp ad _ h4 h3
      have h6' := h6.mono g2.fz g2.pr
      have l12 := g1.fz.trans g2.fz
      have p12 := g1.pr.trans g2.pr
      have rv' := rv.mono g2.fz g2.pr
      cases dx <;> simp only [ORep] at h6'
      case lst xs =>
        obtain ⟨vs, rfl, h7⟩ := h6'
        cases j <;> simp only [hx, reduceCtorEq] at e4
        rename_i z
        cases hz : ixD xs.length z with
        | none => rw [hz] at e4; cases e4
        | some m =>
          rw [hz] at e4
          cases (show R.ok (Fl.nx (ρ.set i (some (.lst (xs.set m d))))) w2 = .ok r w' from e4)
          simp only [Rep] at ru
          subst ru
          refine .inl ⟨ad, vs, z, m, rfl, rfl, h4', by rw [h7.length]; exact hz, ?_⟩
          exact q F2 as2 σ _ l12 p12 (r2.wr hS hx h1 (by simp only [ORep]; exact ⟨_, rfl, h7.set rv' m⟩))
      case dct ks ds =>
        obtain ⟨kvs, rfl, h7, h8⟩ := h6'
        have e5 : (match putD j d ks ds with
          | some (ks, vs) => if ks.length < bigN then R.ok (Fl.nx (ρ.set i (some (.dct ks vs)))) w2 else .bad
          | none => .bad) = .ok r w' := by
          rw [hx] at e4
          cases j <;> exact e4
        cases hp : putD j d ks ds with
        | none => rw [hp] at e5; cases e5
        | some kv =>
          obtain ⟨ks', ds'⟩ := kv
          rw [hp] at e5
          have e6 : (if ks'.length < bigN then R.ok (Fl.nx (ρ.set i (some (.dct ks' ds')))) w2 else .bad) = .ok r w' := e5
          split at e6
          case isFalse => cases e6
          rename_i hlt
          cases (show R.ok (Fl.nx (ρ.set i (some (.dct ks' ds')))) w2 = .ok r w' from e6)
          have hkb : keyB j = true := by
            unfold putD at hp
            split at hp
            · assumption
            · cases hp
          obtain ⟨kk, hkk⟩ := key_of hkb
          obtain ⟨t1, t2, t3⟩ := put_keys hkk rv' h7 h8 hp
          refine .inr ⟨ad, _, rfl, ?_, q F2 as2 σ _ l12 p12 (r2.wr hS hx h1 (by simp only [ORep]; exact ⟨_, rfl, t1, t2⟩))⟩
          rw [rep_key (Top.of ru r2.sub) hkk]
          have hb : ks'.length < 16777216 := hlt
          exact DPut.k h4' (by rw [sizeLine_eq]; omega)
      all_goals (exfalso; first | exact h6' | (simp only [hx] at e4; cases e4))
/-! ### several at once -/
/-- what arguments come to, some of them new -/
def MixL (K : PySem.W.Frag) (Q : Cls) (B : Bs) (S : List Nat) (F : Hp) (as : List Addr) (ρ : En) (σ : L2.St) (H : Hp) : List Bool → List D → List V → Prop
  | [], [], [] => True
  | false :: os, d :: ds, v :: vs => Rep K Q F as d v ∧ MixL K Q B S F as ρ σ H os ds vs
  | true :: os, d :: ds, v :: vs => ∃ a, v = .ref a ∧ Nw K Q B S F as ρ σ H a d ∧ (∀ (j : Nat) (a' : Addr), os[j]? = some true → vs[j]? = some (V.ref a') → a' ≠ a) ∧ MixL K Q B S F as ρ σ H os ds vs
  | _, _, _ => False
def tAM (K : PySem.W.Frag) (Q : Cls) (T : Tb) (C : CallF) (S : List Nat) (os : List Bool) (cs : List CE) : TA := fun σ H Z => ∃ B F as ρ w ds w', SR K Q B S F as ρ w σ H ∧ evs T C cs ρ w = .ok ds w' ∧ newAt os ds = true ∧
  ∀ vs F' as' H', Grw F as H F' as' H' → SR K Q B S F' as' ρ w' σ H' → MixL K Q B S F' as' ρ σ H' os ds vs → (∀ (j : Nat) (a' : Addr), os[j]? = some true → vs[j]? = some (V.ref a') → H a' = none) → Z vs H'
theorem am_nil : PA X [] (tAM X.K Q T C S [] []) := pa_nil.imp fun σ H Z ⟨B, F, as, ρ, w, ds, w', r, he, hn, q⟩ => by
  cases (show R.ok [] w = .ok ds w' from he)
  exact q [] F as H Grw.rfl' r trivial fun j a' h _ => by simp at h
theorem am_val {os : List Bool} (hn : noStar e = true) (h : PE X e (tE X.K Q T C S ca)) (hs : PA X es (tAM X.K Q T C S os cs)) : PA X (e :: es) (tAM X.K Q T C S (false :: os) (ca :: cs)) :=
  (pa_cons h hs (starEach_plain hn)).imp fun σ H Z ⟨B, F, as, ρ, w, ds, w', r, he, hnw, q⟩ => by
    obtain ⟨d, w1, h1, he1⟩ := R.bind_ok (show (ev T C ca ρ w).bind _ = .ok ds w' from he)
    obtain ⟨es', w2, h2, he2⟩ := R.bind_ok (show (evs T C cs ρ w1).bind _ = .ok ds w' from he1)
    cases (show R.ok (d :: es') w2 = .ok ds w' from he2)
    refine ⟨B, F, as, ρ, w, d, w1, r, h1, fun v F1 as1 H1 g1 r1 rv => ?_⟩
    refine ⟨B, F1, as1, ρ, w1, es', _, r1, h2, hnw, fun vs F2 as2 H2 g2 r2 rvs hf => ?_⟩
    refine q (v :: vs) F2 as2 H2 (g1.trans g2) r2 ⟨rv.mono g2.fz g2.pr, rvs⟩ fun j a' ho hv => ?_
    cases j with
    | zero => simp at ho
    | succ j => exact g1.tr a' (hf j a' (by simpa using ho) (by simpa using hv))
theorem am_new {os : List Bool} (hn : noStar e = true) (h : PE X e (tN X.K Q T C S ca)) (hs : PA X es (tAM X.K Q T C S os cs)) : PA X (e :: es) (tAM X.K Q T C S (true :: os) (ca :: cs)) :=
  (pa_cons h hs (starEach_plain hn)).imp fun σ H Z ⟨B, F, as, ρ, w, ds, w', r, he, hnw, q⟩ => by
    obtain ⟨d, w1, h1, he1⟩ := R.bind_ok (show (ev T C ca ρ w).bind _ = .ok ds w' from he)
    obtain ⟨es', w2, h2, he2⟩ := R.bind_ok (show (evs T C cs ρ w1).bind _ = .ok ds w' from he1)
    cases (show R.ok (d :: es') w2 = .ok ds w' from he2)
    have hnw' : (isNewD d && newAt os es') = true := hnw
    rw [Bool.and_eq_true] at hnw'
    refine ⟨B, F, as, ρ, w, d, w1, r, h1, fun _ p o F1 as1 H1 g1 r1 hp hf ha ho rep => ?_⟩
    have nw : Nw X.K Q B S F1 as1 ρ σ H1 p d := ⟨⟨o, ho, rep⟩, hf, ha, r.grw.tr p hp, fun j hj sj e => by
      obtain ⟨d', hd'⟩ := Option.isSome_iff_exists.mp sj
      obtain ⟨b, u, z1, z2, z3, z4, z5, z6⟩ := r.own j d' hd' hj
      rw [e] at z1
      cases z1
      rw [hp] at z4
      cases z4⟩
    refine ⟨B, F1, as1, ρ, w1, es', _, r1, h2, hnw'.2, fun vs F2 as2 H2 g2 r2 rvs hfr => ?_⟩
    refine q (.ref p :: vs) F2 as2 H2 (g1.trans g2) r2 ⟨p, rfl, nw.step g2, fun j a' ho' hv' e => ?_, rvs⟩ fun j a' ho' hv' => ?_
    · have := hfr j a' ho' hv'
      rw [e, ho] at this
      cases this
    · cases j with
      | zero =>
        simp at hv'
        subst hv'
        exact hp
      | succ j => exact g1.tr a' (hfr j a' (by simpa using ho') (by simpa using hv'))
mutual
theorem bindP_out : ∀ {pt : Pat} {ρ ρ' : En} {d : D} {i : Nat}, i ∉ pslots pt → bindP pt ρ d = some ρ' → ρ'.getD i none = ρ.getD i none
  | .n j, ρ, ρ', d, i, hi, h => by
    cases (show some (ρ.set j (some d)) = some ρ' from h)
    rw [getD_set, if_neg]
    exact fun z => hi (by rw [← z.1]; exact List.mem_singleton.mpr rfl)
  | .t ps, ρ, ρ', .tup ds, i, hi, h => bindPs_out hi (show bindPs ps ρ ds = some ρ' from h)
  | .t ps, _, _, .non, _, _, h | .t ps, _, _, .bl _, _, _, h | .t ps, _, _, .int _, _, _, h | .t ps, _, _, .str _, _, _, h | .t ps, _, _, .lst _, _, _, h | .t ps, _, _, .dct _ _, _, _, h | .t ps, _, _, .ins _ _, _, _, h | .t ps, _, _, .obj _, _, _, h | .t ps, _, _, .ext _, _, _, h => by cases h
theorem bindPs_out : ∀ {ps : List Pat} {ρ ρ' : En} {ds : List D} {i : Nat}, i ∉ pslotsL ps → bindPs ps ρ ds = some ρ' → ρ'.getD i none = ρ.getD i none
  | [], ρ, ρ', [], i, _, h => by cases (show some ρ = some ρ' from h); rfl
  | [], _, _, _ :: _, _, _, h => by cases h
  | p :: ps, _, _, [], _, _, h => by cases h
  | p :: ps, ρ, ρ', d :: ds, i, hi, h => by
    obtain ⟨ρ1, h1, h2⟩ := Option.bind_eq_some_iff.mp (show (bindP p ρ d).bind (fun ρ' => bindPs ps ρ' ds) = some ρ' from h)
    have hi' : i ∉ pslots p ++ pslotsL ps := hi
    rw [List.mem_append, not_or] at hi'
    rw [bindPs_out hi'.2 h2, bindP_out hi'.1 h1]
end
/-- the slots that own behind the stores -/
def addAt (S : List Nat) : List Pat → List Bool → List Nat
  | .n i :: ps, true :: os => addAt (addS S i) ps os
  | _ :: ps, _ :: os => addAt S ps os
  | _, _ => S
/-- the stores that may be made so -/
def parOk (S : List Nat) : List Pat → List Bool → Bool
  | .n i :: ps, true :: os => decide (i ≠ 0) && parOk (addS S i) ps os
  | .t _ :: _, true :: _ => false
  | p :: ps, false :: os => (pslots p).all (fun i => !S.contains i) && parOk S ps os
  | [], [] => true
  | _, _ => false
theorem MixL.put {K : PySem.W.Frag} {B : Bs} {F H : Hp} {as : List Addr} {ρ ρ' : En} {σ σ' : L2.St} (hs : ∀ i, i ∈ S → ρ'.getD i none = ρ.getD i none ∧ σ'[i]? = σ[i]?) : ∀ {os : List Bool} {ds : List D} {vs : List V}, MixL K Q B S F as ρ σ H os ds vs → MixL K Q B S F as ρ' σ' H os ds vs
  | [], [], [], _ => by simp only [MixL]
  | false :: os, d :: ds, v :: vs, h => ⟨h.1, MixL.put hs h.2⟩
  | true :: os, d :: ds, v :: vs, ⟨a, h1, h2, h3, h4⟩ => ⟨a, h1, ⟨h2.h, h2.f, h2.n, h2.b, fun i hi sj => by rw [(hs i hi).1] at sj; rw [(hs i hi).2]; exact h2.s i hi sj⟩, h3, MixL.put hs h4⟩
theorem MixL.take {K : PySem.W.Frag} {B : Bs} {F H : Hp} {as : List Addr} {ρ : En} {σ : L2.St} {i : Nat} {a0 : Addr} {d0 : D} : ∀ {os : List Bool} {ds : List D} {vs : List V}, (∀ (j : Nat) (a' : Addr), os[j]? = some true → vs[j]? = some (V.ref a') → a' ≠ a0) → MixL K Q B S F as ρ σ H os ds vs → MixL K Q B (addS S i) F as (ρ.set i (some d0)) (σ.set i (some (.ref a0))) H os ds vs
  | [], [], [], _, _ => by simp only [MixL]
  | false :: os, d :: ds, v :: vs, hne, h => ⟨h.1, MixL.take (fun j a' h1 h2 => hne (j + 1) a' (by simpa using h1) (by simpa using h2)) h.2⟩
  | true :: os, d :: ds, v :: vs, hne, ⟨a, h1, h2, h3, h4⟩ => ⟨a, h1, h2.other (Ne.symm (hne 0 a rfl (by rw [h1]; rfl))), h3, MixL.take (fun j a' h1 h2 => hne (j + 1) a' (by simpa using h1) (by simpa using h2)) h4⟩
def tGM (K : PySem.W.Frag) (Q : Cls) (S : List Nat) (ps : List Pat) (os : List Bool) : TGs := fun vs σ H Z => ∃ B F as ρ w ds ρ', SR K Q B S F as ρ w σ H ∧ MixL K Q B S F as ρ σ H os ds vs ∧ bindPs ps ρ ds = some ρ' ∧ ∀ σ', SR K Q B (addAt S ps os) F as ρ' w σ' H → Z σ' H
theorem gm_nil : PGs X [] (tGM X.K Q S [] []) := pgs_nil.imp fun v σ H Z ⟨B, F, as, ρ, w, ds, ρ', r, rv, hb, q⟩ => by
  cases ds with
  | nil =>
    cases (show some ρ = some ρ' from hb)
    cases v with
    | nil => exact ⟨rfl, q σ r⟩
    | cons _ _ => exact rv.elim
  | cons d ds => cases hb
theorem addAt_false {pt : Pat} {ps : List Pat} {os : List Bool} : addAt S (pt :: ps) (false :: os) = addAt S ps os := by cases pt <;> rfl
theorem gm_val {os : List Bool} {pt : Pat} {ps : List Pat} (hs : noStar e = true) (hp : (pslots pt).all (fun i => !S.contains i) = true) (h : PG X e (tG X.K Q S pt)) (h' : PGs X es (tGM X.K Q S ps os)) : PGs X (e :: es) (tGM X.K Q S (pt :: ps) (false :: os)) := (pgs_cons h h' (assignEach_plain hs)).imp fun v σ H Z ⟨B, F, as, ρ, w, ds, ρ', r, rv, hb, q⟩ => by
  cases ds with
  | nil => cases hb
  | cons d ds =>
    cases v with
    | nil => exact rv.elim
    | cons u us =>
      obtain ⟨ρ1, h1, h2⟩ := Option.bind_eq_some_iff.mp (show (bindP pt ρ d).bind (fun ρ' => bindPs ps ρ' ds) = some ρ' from hb)
      refine ⟨u, us, rfl, B, F, as, ρ, w, d, ρ1, r, rv.1, h1, fun σ1 sr1 k1 => ⟨B, F, as, ρ1, w, ds, ρ', sr1, MixL.put (fun i hi => ?_) rv.2, h2, fun σ2 sr2 => q σ2 (by rw [addAt_false]; exact sr2)⟩⟩
      have hn : i ∉ pslots pt := fun m => by
        have := List.all_eq_true.mp hp i m
        simp [hi] at this
      exact ⟨bindP_out hn h1, k1 i hn⟩
theorem gm_new (G : Gd X N sc k) (hfb : ∀ x, fb x = true → X.fn x = true) {os : List Bool} {i : Nat} {ps : List Pat} (hi0 : i ≠ 0) (h : tgtB N sc fb i e = true) (h' : PGs X es (tGM X.K Q (addS S i) ps os)) : PGs X (e :: es) (tGM X.K Q S (.n i :: ps) (true :: os)) := by
  obtain ⟨x, p, rfl, hN, hl, hf⟩ := tgtB_ok h
  refine (pgs_cons (pg_name G.nd (by rw [G.nm]; exact hN) (by rw [G.sc]; exact hl) (hf.elim (fun z => .inl (hfb x z)) fun z => .inr (by rw [G.sc]; exact z))) h' (assignEach_plain rfl)).imp fun v σ H Z ⟨B, F, as, ρ, w, ds, ρ', r, rv, hb, q⟩ => ?_
  cases ds with
  | nil => cases hb
  | cons d ds =>
    cases v with
    | nil => exact rv.elim
    | cons u us =>
      obtain ⟨a, rfl, nw, hne, rest⟩ := rv
      exact ⟨.ref a, us, rfl, B, F, as, ρ.set i (some d), w, ds, ρ', r.take hi0 nw, rest.take hne, hb, q⟩
/-! ### a, b = x, y -/
theorem Mix_len {K : PySem.W.Frag} {B : Bs} {F H : Hp} {as : List Addr} {ρ : En} {σ : L2.St} : ∀ {os : List Bool} {ds : List D} {vs : List V}, MixL K Q B S F as ρ σ H os ds vs → vs.length = ds.length ∧ os.length = ds.length
  | [], [], [], _ => ⟨rfl, rfl⟩
  | false :: os, d :: ds, v :: vs, h => by
    obtain ⟨h1, h2⟩ := Mix_len h.2
    exact ⟨by rw [List.length_cons, List.length_cons, h1], by rw [List.length_cons, List.length_cons, h2]⟩
  | true :: os, d :: ds, v :: vs, ⟨a, _, _, _, h⟩ => by
    obtain ⟨h1, h2⟩ := Mix_len h
    exact ⟨by rw [List.length_cons, List.length_cons, h1], by rw [List.length_cons, List.length_cons, h2]⟩
theorem bindPs_len : ∀ {ps : List Pat} {ρ ρ' : En} {ds : List D}, bindPs ps ρ ds = some ρ' → ds.length = ps.length
  | [], _, _, [], _ => rfl
  | [], _, _, _ :: _, h => by cases h
  | _ :: _, _, _, [], h => by cases h
  | p :: ps, ρ, ρ', d :: ds, h => by
    obtain ⟨ρ1, h1, h2⟩ := Option.bind_eq_some_iff.mp (show (bindP p ρ d).bind (fun ρ' => bindPs ps ρ' ds) = some ρ' from h)
    rw [List.length_cons, List.length_cons, bindPs_len h2]
theorem evSs_par {ps : List Pat} {os : List Bool} {cs : List CE} {ρ : En} {w w' : Wd} {r : Fl} (h : evS T C (.par ps os cs) ρ w = .ok r w') : ∃ ds ρ', evs T C cs ρ w = .ok ds w' ∧ newAt os ds = true ∧ bindPs ps ρ ds = some ρ' ∧ r = .nx ρ' := by
  obtain ⟨ds, w1, e1, e2⟩ := R.bind_ok (show (evs T C cs ρ w).bind _ = .ok r w' from h)
  split at e2
  case isFalse => cases e2
  rename_i hn
  obtain ⟨ρ1, w2, e3, e4⟩ := R.bind_ok e2
  obtain ⟨e5, rfl⟩ := ofO_ok e3
  cases (show R.ok (Fl.nx ρ1) w2 = .ok r w' from e4)
  exact ⟨ds, ρ1, e1, hn, e5, rfl⟩
/-- by way of a tuple -/
theorem ss_parG (G : Gd X N sc k) {ts vs : List Expr} {kt k2 : Nat} {pt pt2 : Pos} {ps : List Pat} {os : List Bool} (hw : swappedStores [.Tuple ts kt pt] (.Tuple vs k2 pt2) X.env = pure none) (hts : ts.all noStar = true) (hl : ts.length = ps.length) (hcs : cs.length ≤ sizeLine)
    (hg : PGs X ts (tGM X.K Q S ps os)) (ha : PA X vs (tAM X.K Q T C S os cs)) : PS X (.Assign [.Tuple ts kt pt] (.Tuple vs k2 pt2) pos) (tS X.K Q T C S (addAt S ps os) L (.par ps os cs)) :=
  (ps_asg (pe_tup ha) (pg_tup (n := ts.length) G.calm hg (each_plain hts).1 (each_plain hts).2) rfl hw rfl).imp fun D σ H ⟨B, F, as, ρ, w, r, w', sr, he, q⟩ => by
    obtain ⟨ds, ρ', e1, hn, e2, rfl⟩ := evSs_par he
    refine ⟨B, F, as, ρ, w, ds, w', sr, e1, hn, fun us F1 as1 H1 g1 r1 mx hfr => ⟨?_, fun p hp => ?_⟩⟩
    · rw [(Mix_len mx).1, evs_length e1]; exact hcs
    · refine ⟨p, us, rfl, .inl (.inl upd_same), by rw [(Mix_len mx).1, bindPs_len e2, hl], B, F1, as1, ρ, w', ds, ρ', r1.newO hp, ?_, e2, fun σ' sr' => q F1 as1 σ' _ g1.fz g1.pr sr'⟩
      have : ∀ {os : List Bool} {ds : List MP.D} {vs : List V}, MixL X.K Q B S F1 as1 ρ σ H1 os ds vs → MixL X.K Q B S F1 as1 ρ σ (upd H1 p (.tup us)) os ds vs := by
        intro os
        induction os with
        | nil => intro ds vs h; cases ds <;> cases vs <;> first | exact h | exact h.elim
        | cons o os ih =>
          intro ds vs h
          cases ds with
          | nil => cases o <;> exact h.elim
          | cons d ds =>
            cases vs with
            | nil => cases o <;> exact h.elim
            | cons v vs =>
              cases o with
              | false => exact ⟨h.1, ih h.2⟩
              | true =>
                obtain ⟨a, h1, h2, h3, h4⟩ := h
                obtain ⟨ob, ho, rep⟩ := h2.h
                exact ⟨a, h1, ⟨⟨ob, by rw [upd_ne (ne_of_none ho hp)]; exact ho, rep⟩, h2.f, h2.n, h2.b, h2.s⟩, h3, ih h4⟩
      exact this mx
end
end MP

set_option Elab.async false
set_option linter.all false
set_option maxRecDepth 100000
/-! MP13: several stores at once, from the right; fields of a new instance. -/
namespace MP
open PySem PySem.Spec PyProof.Rows L2
def isStar : Expr → Bool
  | .Starred .. => true
  | _ => false
def blkK (k : ScopeKind) : ScopeKind := if k.isAnnotationScope then .function else k
def swNames (sc : Scope) (ts : List Expr) : List Str := ts.filterMap fun
    | .Name id pos => if sc.names.lookup id == some .local && pos.line == (ts.head?.map (·.pos.line)).getD 0 then some id else none
    | _ => none
/-- swappedStores, told ahead -/
def swPure (sc : Scope) (ts vs : List Expr) : Option (Option (List Str)) :=
  if !(ts.length == 2 || ts.length == 3) || vs.length != ts.length || blkK sc.kind != .function then some none else
  if vs.any isStar then some none else
  if (swNames sc ts).length != ts.length || (swNames sc ts).eraseDups.length != (swNames sc ts).length then some none else
  if vs.all (foldedForSure 8) then some none else
  if vs.all (constantsAlone 8) then none else some (some (swNames sc ts))
theorem swPure_ok {sc : Scope} {ts vs : List Expr} {kt k2 : Nat} {p1 p2 : Pos} {env : Env} {r : Option (List Str)} (he : env.scope = sc) (h : swPure sc ts vs = some r) : swappedStores [.Tuple ts kt p1] (.Tuple vs k2 p2) env = pure r := by
  subst he
  have e : swappedStores [.Tuple ts kt p1] (.Tuple vs k2 p2) env = (if (!(ts.length == 2 || ts.length == 3) || vs.length != ts.length || blkK env.scope.kind != .function) = true then pure none else
    if vs.any isStar = true then pure none else
    if ((swNames env.scope ts).length != ts.length || (swNames env.scope ts).eraseDups.length != (swNames env.scope ts).length) = true then pure none else
    if vs.all (foldedForSure 8) = true then pure none else
    if vs.all (constantsAlone 8) = true then unsupported "assign.tuple-of-constant-expressions:order-of-the-stores" else pure (some (swNames env.scope ts))) := by
    have e2 : (fun x : Expr => match x with | .Starred .. => true | _ => false) = isStar := by
      funext x
      cases x <;> rfl
    unfold swappedStores
    dsimp only
    by_cases c5 : vs.all (constantsAlone 8) = true
    · simp only [c5, if_true]
      rfl
    · simp only [c5, if_false]
      rfl
  rw [e]
  unfold swPure at h
  split at h
  · rename_i c; rw [if_pos c]; cases h; rfl
  · rename_i c; rw [if_neg c]
    split at h
    · rename_i c; rw [if_pos c]; cases h; rfl
    · rename_i c; rw [if_neg c]
      split at h
      · rename_i c; rw [if_pos c]; cases h; rfl
      · rename_i c; rw [if_neg c]
        split at h
        · rename_i c; rw [if_pos c]; cases h; rfl
        · rename_i c; rw [if_neg c]
          split at h
          · cases h
          · rename_i c; rw [if_neg c]; cases h; rfl
section
variable {Q : Cls} {T : Tb} {C : CallF} {S S' S1 L : List Nat} {X : Cx} {N : List Str} {sc : Scope} {k : Nat} {n : Nm} {e a b c tg : Expr} {es : List Expr} {st : Stmt} {sts : List Stmt} {ca cb cc : CE} {cs : List CE} {s0 : CS} {ss ss2 : List CS} {pos p apos spos : Pos} {x y z : Str} {fb : Str → Bool}
def setAll : L2.St → List Nat → List V → L2.St
  | σ, i :: is, v :: vs => setAll (σ.set i (some v)) is vs
  | σ, _, _ => σ
theorem mix_store {K : PySem.W.Frag} {B : Bs} {F H : Hp} {as : List Addr} {w : Wd} : ∀ {is : List Nat} {os : List Bool} {S : List Nat} {ρ ρ' : En} {σ : L2.St} {ds : List MP.D} {vs : List V}, SR K Q B S F as ρ w σ H → MixL K Q B S F as ρ σ H os ds vs → parOk S (is.map .n) os = true → bindPs (is.map .n) ρ ds = some ρ' → SR K Q B (addAt S (is.map .n) os) F as ρ' w (setAll σ is vs) H
  | [], os, S, ρ, ρ', σ, ds, vs, sr, mx, ok, hb => by
    cases ds with
    | cons _ _ => cases hb
    | nil =>
      cases (show some ρ = some ρ' from hb)
      have : addAt S ([].map Pat.n) os = S := by cases os <;> rfl
      rw [this]
      cases vs <;> exact sr
  | i :: is, [], S, ρ, ρ', σ, ds, vs, sr, mx, ok, hb => by cases ok
  | i :: is, o :: os, S, ρ, ρ', σ, ds, vs, sr, mx, ok, hb => by
    cases ds with
    | nil => cases hb
    | cons d ds =>
      cases vs with
      | nil => cases o <;> exact mx.elim
      | cons v vs =>
        have hb' : bindPs (is.map .n) (ρ.set i (some d)) ds = some ρ' := hb
        cases o with
        | false =>
          have ok' : ((pslots (.n i)).all (fun i => !S.contains i) && parOk S (is.map .n) os) = true := ok
          rw [Bool.and_eq_true] at ok'
          have hi : i ∉ S := fun m => by
            have := List.all_eq_true.mp ok'.1 i (List.mem_singleton.mpr rfl)
            simp [m] at this
          rw [List.map_cons, addAt_false]
          refine mix_store (S := S) (sr.put hi mx.1) (MixL.put (fun j hj => ?_) mx.2) ok'.2 hb'
          have ne : i ≠ j := fun q => hi (q ▸ hj)
          exact ⟨by rw [getD_set, if_neg (fun z => ne z.1)], List.getElem?_set_ne ne⟩
        | true =>
          obtain ⟨a, rfl, nw, hne, rest⟩ := mx
          have ok' : (decide (i ≠ 0) && parOk (addS S i) (is.map .n) os) = true := ok
          rw [Bool.and_eq_true] at ok'
          exact mix_store (S := addS S i) (sr.take (of_decide_eq_true ok'.1) nw) (rest.take hne) ok'.2 hb'
theorem ss_par2 (G : Gd X N sc k) {i j : Nat} {px py pt pt2 : Pos} {kt k2 : Nat} {os : List Bool} (hx : N[i]? = some x) (hy : N[j]? = some y) (hij : i ≠ j) (lx : sc.names.lookup x = some .local) (ly : sc.names.lookup y = some .local)
    (hw : swPure sc [.Name x px, .Name y py] [a, b] = some (some [x, y])) (ok : parOk S [.n i, .n j] os = true) (ha : PA X [a, b] (tAM X.K Q T C S os cs)) :
    PS X (.Assign [.Tuple [.Name x px, .Name y py] kt pt] (.Tuple [a, b] k2 pt2) pos) (tS X.K Q T C S (addAt S [.n i, .n j] os) L (.par [.n i, .n j] os cs)) :=
  (ps_par G.calm G.nd (by rw [G.nm]; exact hx) (by rw [G.nm]; exact hy) hij (by rw [G.sc]; exact lx) (by rw [G.sc]; exact ly) ha (swPure_ok G.sc hw) rfl).imp fun D σ H ⟨B, F, as, ρ, w, r, w', sr, he, q⟩ => by
    obtain ⟨ds, ρ', e1, hn, e2, rfl⟩ := evSs_par he
    refine ⟨B, F, as, ρ, w, ds, w', sr, e1, hn, fun us F1 as1 H1 g1 r1 mx hfr => ?_⟩
    have hl := (Mix_len mx).1
    rw [bindPs_len e2] at hl
    match us, hl with
    | [v1, v2], _ => exact ⟨v1, v2, rfl, q F1 as1 _ H1 g1.fz g1.pr (mix_store (is := [i, j]) r1 mx ok e2)⟩
theorem ss_par3 (G : Gd X N sc k) {i j l : Nat} {px py pz pt pt2 : Pos} {kt k2 : Nat} {os : List Bool} (hx : N[i]? = some x) (hy : N[j]? = some y) (hz : N[l]? = some z) (hij : i ≠ j) (hil : i ≠ l) (hjl : j ≠ l) (lx : sc.names.lookup x = some .local) (ly : sc.names.lookup y = some .local) (lz : sc.names.lookup z = some .local)
    (hw : swPure sc [.Name x px, .Name y py, .Name z pz] [a, b, c] = some (some [x, y, z])) (ok : parOk S [.n i, .n j, .n l] os = true) (ha : PA X [a, b, c] (tAM X.K Q T C S os cs)) :
    PS X (.Assign [.Tuple [.Name x px, .Name y py, .Name z pz] kt pt] (.Tuple [a, b, c] k2 pt2) pos) (tS X.K Q T C S (addAt S [.n i, .n j, .n l] os) L (.par [.n i, .n j, .n l] os cs)) :=
  (ps_par3 G.calm G.nd (by rw [G.nm]; exact hx) (by rw [G.nm]; exact hy) (by rw [G.nm]; exact hz) hij hil hjl (by rw [G.sc]; exact lx) (by rw [G.sc]; exact ly) (by rw [G.sc]; exact lz) ha (swPure_ok G.sc hw) rfl).imp fun D σ H ⟨B, F, as, ρ, w, r, w', sr, he, q⟩ => by
    obtain ⟨ds, ρ', e1, hn, e2, rfl⟩ := evSs_par he
    refine ⟨B, F, as, ρ, w, ds, w', sr, e1, hn, fun us F1 as1 H1 g1 r1 mx hfr => ?_⟩
    have hl := (Mix_len mx).1
    rw [bindPs_len e2] at hl
    match us, hl with
    | [v1, v2, v3], _ => exact ⟨v1, v2, v3, rfl, q F1 as1 _ H1 g1.fz g1.pr (mix_store (is := [i, j, l]) r1 mx ok e2)⟩
/-- self.f = e, in an __init__ -/
theorem putF_at {f : Str} {v : V} : ∀ {nfs : List (Str × V)} {j : Nat}, (nfs.map (·.1)).Nodup → (nfs.map (·.1))[j]? = some f → putF f v nfs = nfs.set j (f, v)
  | [], j, _, h => by simp at h
  | (g, x) :: r, 0, _, h => by
    simp at h
    subst h
    simp [putF]
  | (g, x) :: r, j + 1, nd, h => by
    rw [List.map_cons, List.nodup_cons] at nd
    have h' : (r.map (·.1))[j]? = some f := by simpa using h
    have ne : g ≠ f := fun e => nd.1 (e ▸ List.mem_of_getElem? h')
    show (if g = f then _ else (g, x) :: putF f v r) = _
    rw [if_neg ne, putF_at nd.2 h']
    rfl
theorem putF_new {f : Str} {v : V} : ∀ {nfs : List (Str × V)}, f ∉ nfs.map (·.1) → putF f v nfs = nfs ++ [(f, v)]
  | [], _ => rfl
  | (g, x) :: r, h => by
    rw [List.map_cons, List.mem_cons, not_or] at h
    show (if g = f then _ else (g, x) :: putF f v r) = _
    rw [if_neg (Ne.symm h.1), putF_new h.2]
    rfl
theorem put_fld {K : PySem.W.Frag} {F : Hp} {as : List Addr} {names : List Str} {fs fs' : List MP.D} {nfs : List (Str × V)} {j : Nat} {f : Str} {d : MP.D} {v : V} (hn : names.Nodup) (hf : names[j]? = some f) (h1 : nfs.map (·.1) = names.take fs.length) (h2 : RepL K Q F as fs (nfs.map (·.2))) (rv : Rep K Q F as d v) (hs : setFld j d fs = some fs') :
    (putF f v nfs).map (·.1) = names.take fs'.length ∧ RepL K Q F as fs' ((putF f v nfs).map (·.2)) := by
  have hl := h2.length
  rw [List.length_map] at hl
  have nd : (nfs.map (·.1)).Nodup := by rw [h1]; exact hn.sublist (List.take_sublist _ _)
  unfold setFld at hs
  split at hs
  · rename_i hj
    cases hs
    have hf' : (nfs.map (·.1))[j]? = some f := by rw [h1, List.getElem?_take, if_pos hj]; exact hf
    rw [putF_at nd hf', List.map_set, List.map_set, List.length_set]
    refine ⟨?_, h2.set rv j⟩
    rw [← h1]
    refine List.ext_getElem? fun i => ?_
    rw [List.getElem?_set]
    split
    · rename_i e
      subst e
      split
      · exact hf'.symm
      · rename_i q
        rw [List.getElem?_eq_none (by omega)]
    · rfl
  · split at hs
    case isFalse => cases hs
    rename_i hne hj
    cases hs
    have hf' : f ∉ nfs.map (·.1) := fun m => by
      rw [h1] at m
      obtain ⟨i, hi, e⟩ := List.getElem_of_mem m
      have hi' : i < fs.length := by rw [List.length_take] at hi; omega
      have e2 : names[i]? = some f := by
        have : (names.take fs.length)[i]? = some f := by rw [List.getElem?_eq_getElem hi, e]
        rw [List.getElem?_take, if_pos hi'] at this
        exact this
      have := (List.getElem?_inj (by have := List.getElem?_eq_some_iff.mp e2; exact this.1) hn).mp (e2.trans hf.symm)
      omega
    rw [putF_new hf', List.map_append, List.map_append, h1, List.length_append]
    refine ⟨?_, h2.append (.cons rv .nil)⟩
    show _ = List.take (fs.length + 1) names
    rw [List.take_add_one, ← hj, hf]
    rfl
theorem ss_setf (G : Gd X N sc k) (GX : GX X n Q T C k) {i f : Nat} {o : Expr} (hi : isSlot N sc i o = true) (hS : i ∈ S) (hn : noComp e = true) (hx : n.at_ x = some f) (ha : PE X e (tE X.K Q T C S ca)) :
    PS X (.Assign [.Attribute o x p] e pos) (tS X.K Q T C S S L (.setf i f ca)) :=
  (ps_fld (slot_var G hi) ha (sw_no hn)).imp fun D σ H ⟨B, F, as, ρ, w, r, w', sr, hev, q⟩ => by
    obtain ⟨d, w1, e1, e2⟩ := R.bind_ok (show (ev T C ca ρ w).bind _ = .ok r w' from hev)
    refine ⟨B, F, as, ρ, w, d, w1, sr, e1, fun v F1 as1 H1 g1 r1 rv => ?_⟩
    cases hd : ρ.getD i none with
    | none => simp only [hd] at e2; cases e2
    | some dx =>
      obtain ⟨ad, ob, h1, h2, h3, h4, h5, h6⟩ := r1.own i dx hd hS
      cases dx <;> simp only [hd, reduceCtorEq] at e2
      rename_i c fs
      cases hj : (T.fpos f c).bind fun j => setFld j d fs with
      | none => rw [hj] at e2; cases e2
      | some fs' =>
        rw [hj] at e2
        cases (show R.ok (Fl.nx (ρ.set i (some (.ins c fs')))) w1 = .ok r w' from e2)
        obtain ⟨j, hj1, hj2⟩ := Option.bind_eq_some_iff.mp hj
        obtain ⟨k1, k2, k3⟩ := GX.at_ x f c j hx hj1
        simp only [ORep] at h6
        obtain ⟨dx, nfs, rfl, h7, h8⟩ := h6
        obtain ⟨t1, t2⟩ := put_fld (GX.nn c) k1 h7 h8 rv hj2
        refine ⟨.ref ad, h1, ad, Q.addr c, dx, nfs, rfl, h4, k2, k3, ?_, ?_⟩
        · have := congrArg List.length h7
          simp only [List.length_map, List.length_take] at this
          have := GX.nl c
          omega
        · exact q F1 as1 σ _ g1.fz g1.pr (r1.wr hS hd h1 (by simp only [ORep]; exact ⟨dx, _, rfl, t1, t2⟩))
end
end MP

set_option Elab.async false
set_option linter.all false
set_option maxRecDepth 100000
/-! MP14: built-ins by their names; isinstance; methods of texts and lists; written dicts; globals. -/
namespace MP
open PySem PySem.Spec PyProof.Rows L2
section
variable {Q : Cls} {T : Tb} {C : CallF} {S S' S1 L : List Nat} {X : Cx} {N : List Str} {sc : Scope} {k : Nat} {n : Nm} {e a b c tg : Expr} {es : List Expr} {ca cb cc : CE} {cs : List CE} {pos p apos spos : Pos} {x y z : Str}
/-- a global that is a plain value -/
theorem snd_g (G : Gd X N sc k) (GX : GX X n Q T C k) {i : Nat} (hn : n.gl x = some i) (hg : isGl sc x = true) : PE X (.Name x pos) (tE X.K Q T C S (.g i)) := by
  obtain ⟨hgl, hdb, _⟩ := G.gl hg
  refine ⟨fun pins s σ H Z I ⟨B, F, as, ρ, w, d, w', r, he, q⟩ => ?_⟩
  obtain ⟨e1, rfl⟩ := ofO_ok (show ofO (T.glb i) w = .ok d w' from he)
  obtain ⟨u, v, h1, h2, h3⟩ := GX.gl x i d hn e1
  exact (pe_glob hgl h1 h2 hdb).run pins s σ H Z I (q v F as H Grw.rfl' r (h3 F as))
theorem one_go {id : String} {f : Wd → MP.D → Option MP.D} {r : V → Hp → VK → Prop} {rr : List V → Hp → VK → Prop} {ce : CE} (h : PE X e (tCB rr (tCons (tO X.K Q T C S ca) tNil))) (ho : Op1 X.K Q S f r) (hr : ∀ u H Z, r u H Z → rr [u] H Z) (he : ∀ ρ w, ev T C ce ρ w = (ev T C ca ρ w).bind fun d w => ofO (f w d) w) : PE X e (tE X.K Q T C S ce) :=
  h.imp (one_of ho hr he)
def bName : Bf → Option Str
  | .len => some "len" | .tuple => some "tuple" | .list => some "list" | .abs => some "abs" | .str => some "str" | .all => some "all" | .any => some "any" | .sum => some "sum" | .sorted => some "sorted" | .int => some "int" | _ => none
/-- which of them are told here -/
def bf1Ok : Bf → Bool
  | .len | .tuple | .list | .abs | .str | .all | .any | .sum | .sorted | .int => true
  | _ => false
theorem snd_bf1 (G : Gd X N sc k) (GX : GX X n Q T C k) {f : Bf} (hf : bName f = some x) (hg : isGl sc x = true) (hs : noStar a = true) (ha : PE X a (tO X.K Q T C S ca)) (hl : f ≠ .list) : PE X (.Call (.Name x p) [a] [] pos) (tE X.K Q T C S (.bf f [ca])) := by
  cases f <;> simp only [bName, reduceCtorEq, Option.some.injEq] at hf <;> subst hf
  · exact (one_blt G len2 hg (GX.bi _ (by decide +kernel)) (by decide +kernel) hs ha).imp (one_of op1_len (fun _ _ _ z => z) fun ρ w => bf_one)
  · exact (one_ty G call_tuple_of hg (GX.bi _ (by decide +kernel)) (by decide +kernel) hs ha).imp (one_of op1_tuple (fun _ _ _ z => z) fun ρ w => bf_one)
  · exact absurd rfl hl
  · exact (one_blt G call_abs hg (GX.bi _ (by decide +kernel)) (by decide +kernel) hs ha).imp (one_of op1_abs (fun _ _ _ z => z) fun ρ w => bf_one)
  · exact (one_ty G call_str_int hg (GX.bi _ (by decide +kernel)) (by decide +kernel) hs ha).imp (one_of op1_str (fun _ _ _ z => z) fun ρ w => bf_one)
  · exact (one_blt G (cr_all G.calm) hg (GX.bi _ (by decide +kernel)) (by decide +kernel) hs ha).imp (one_of op1_all (fun _ _ _ z => z) fun ρ w => bf_one)
  · exact (one_blt G (cr_any G.calm) hg (GX.bi _ (by decide +kernel)) (by decide +kernel) hs ha).imp (one_of op1_any (fun _ _ _ z => z) fun ρ w => bf_one)
  · exact (one_blt G (cr_sum G.calm) hg (GX.bi _ (by decide +kernel)) (by decide +kernel) hs ha).imp (one_of op1_sum (fun _ _ _ z => z) fun ρ w => bf_one)
  · exact (one_blt G cr_sortedI hg (GX.bi _ (by decide +kernel)) (by decide +kernel) hs ha).imp (one_of (Op1.ofN op1_sorted) (fun _ _ _ z => z) fun ρ w => bf_one)
  · exact (one_ty G call_int3 hg (GX.bi _ (by decide +kernel)) (by decide +kernel) hs ha).imp (one_of op1_int (fun _ _ _ z => z) fun ρ w => bf_one)
/-- list(a): new; a dict is another form -/
theorem snd_list (G : Gd X N sc k) (GX : GX X n Q T C k) (hg : isGl sc "list" = true) (hs : noStar a = true) (ha : PE X a (tO X.K Q T C S ca)) : PE X (.Call (.Name "list" p) [a] [] pos) (tN X.K Q T C S (.bf .list [ca])) :=
  (one_ty G (rr := rList2 X.K) (call_list3 G.calm) hg (GX.bi _ (by decide +kernel)) (by decide +kernel) hs ha).imp (one_ofN op1_list (fun _ _ _ z => z) (fun ρ w => bf_one) fun w d d' h => by
    simp only [bfD] at h
    cases e : deref w d <;> rw [e] at h <;> simp only [reduceCtorEq, Option.some.injEq, Option.ite_none_right_eq_some] at h <;> first | (subst h; rfl) | (obtain ⟨_, rfl⟩ := h; rfl))
theorem snd_bf2 (G : Gd X N sc k) (GX : GX X n Q T C k) {f : Bf} (hf : (f = .max2 ∧ x = "max") ∨ (f = .min2 ∧ x = "min")) (hg : isGl sc x = true) (hs : noStar a = true) (hs' : noStar b = true) (ha : PE X a (tO X.K Q T C S ca)) (hb : PE X b (tO X.K Q T C S cb)) : PE X (.Call (.Name x p) [a, b] [] pos) (tE X.K Q T C S (.bf f [ca, cb])) := by
  rcases hf with ⟨rfl, rfl⟩ | ⟨rfl, rfl⟩
  · exact (two_blt G (call_max2 G.calm) hg (GX.bi _ (by decide +kernel)) (by decide +kernel) hs hs' ha hb).imp (two2_of opD_max (fun _ _ _ _ ⟨i, j, h1, h2, h3⟩ => ⟨i, j, by rw [h1, h2], h3⟩) fun ρ w => bf_two)
  · exact (two_blt G (call_min2 G.calm) hg (GX.bi _ (by decide +kernel)) (by decide +kernel) hs hs' ha hb).imp (two2_of opD_min (fun _ _ _ _ ⟨i, j, h1, h2, h3⟩ => ⟨i, j, by rw [h1, h2], h3⟩) fun ρ w => bf_two)
theorem rgL_rep {K : PySem.W.Frag} {F : Hp} {as : List Addr} {i j : Int} : RepL K Q F as (rngL i j) (rgV i j) := by
  have : rgV i j = ((List.range (j - i).toNat).map fun (k : Nat) => i + (k : Int)).map V.int := by unfold rgV; rw [List.map_map]; rfl
  have e2 : rngL i j = ((List.range (j - i).toNat).map fun (k : Nat) => i + (k : Int)).map D.int := by unfold rngL; rw [List.map_map]; rfl
  rw [this, e2]
  exact repL_of_ints _
theorem rng_ok {w : Wd} {d1 d2 d : MP.D} (h : bfD w .rng [d1, d2] = some d) : ∃ i j, d1 = .int i ∧ d2 = .int j ∧ RgOk i j ∧ d = .lst (rngL i j) := by
  cases d1 <;> try (cases h; done)
  cases d2 <;> try (cases h; done)
  simp only [bfD] at h
  split at h
  case isFalse => cases h
  rename_i hij
  cases h
  have hb : (_ : Int).toNat < 16777216 := hij.2.2.2.2
  exact ⟨_, _, rfl, rfl, ⟨hij.1, hij.2.1, hij.2.2.1, hij.2.2.2.1, by omega⟩, rfl⟩
/-- list(range(a, b)) -/
theorem snd_listRg2 (G : Gd X N sc k) (GX : GX X n Q T C k) {p1 q1 : Pos} (hg : isGl sc "list" = true) (hg' : isGl sc "range" = true) (hs : noStar a = true) (hs' : noStar b = true) (ha : PE X a (tE X.K Q T C S ca)) (hb : PE X b (tE X.K Q T C S cb)) : PE X (.Call (.Name "list" p) [.Call (.Name "range" p1) [a, b] [] q1] [] pos) (tN X.K Q T C S (.bf .list [.bf .rng [ca, cb]])) := by
  obtain ⟨hgl, hdb, _⟩ := G.gl hg
  obtain ⟨hgl', hdb', _⟩ := G.gl hg'
  refine (pe_listRg G.calm hgl (GX.bi _ (by decide +kernel)) (prg_2 hgl' (GX.bi _ (by decide +kernel)) ha hb (starEach_plain hs) (starEach_plain hs') (by rw [starEach_plain hs']; rfl))).imp fun σ H Z ⟨B, F, as, ρ, w, d, w', r, he, q⟩ => ?_
  rw [bf_one] at he
  obtain ⟨d0, w0, e0, he0⟩ := R.bind_ok he
  rw [bf_two] at e0
  obtain ⟨d1, w1, e1, e2⟩ := R.bind_ok e0
  obtain ⟨d2, w2, e3, e4⟩ := R.bind_ok e2
  obtain ⟨e5, rfl⟩ := ofO_ok e4
  obtain ⟨e6, rfl⟩ := ofO_ok he0
  obtain ⟨i, j, rfl, rfl, hr, rfl⟩ := rng_ok e5
  cases (show some (D.lst (rngL i j)) = some d from e6)
  refine ⟨B, F, as, ρ, w, _, w1, r, e1, fun u F1 as1 H1 g1 r1 ru => ⟨B, F1, as1, ρ, w1, _, _, r1, e3, fun v F2 as2 H2 g2 r2 rv => ?_⟩⟩
  simp only [Rep] at ru rv
  subst ru rv
  have g12 := g1.trans g2
  exact ⟨i, j, rfl, rfl, hr, fun p hp => q rfl p _ F2 as2 _ (g12.trans (Grw.newO hp)) (r2.newO hp) (g12.tr p hp) (r2.sub.non hp) (r2.notin hp) upd_same ⟨_, rfl, rgL_rep⟩⟩
theorem snd_listRg1 (G : Gd X N sc k) (GX : GX X n Q T C k) {p1 q1 : Pos} (hg : isGl sc "list" = true) (hg' : isGl sc "range" = true) (hs : noStar a = true) (ha : PE X a (tE X.K Q T C S ca)) : PE X (.Call (.Name "list" p) [.Call (.Name "range" p1) [a] [] q1] [] pos) (tN X.K Q T C S (.bf .list [.bf .rng [.int 0, ca]])) := by
  obtain ⟨hgl, hdb, _⟩ := G.gl hg
  obtain ⟨hgl', hdb', _⟩ := G.gl hg'
  refine (pe_listRg G.calm hgl (GX.bi _ (by decide +kernel)) (prg_1 hgl' (GX.bi _ (by decide +kernel)) ha (starEach_plain hs))).imp fun σ H Z ⟨B, F, as, ρ, w, d, w', r, he, q⟩ => ?_
  rw [bf_one] at he
  obtain ⟨d0, w0, e0, he0⟩ := R.bind_ok he
  rw [bf_two] at e0
  obtain ⟨d1, w1, e1, e2⟩ := R.bind_ok e0
  cases (show R.ok (D.int 0) w = .ok d1 w1 from e1)
  obtain ⟨d2, w2, e3, e4⟩ := R.bind_ok e2
  obtain ⟨e5, rfl⟩ := ofO_ok e4
  obtain ⟨e6, rfl⟩ := ofO_ok he0
  obtain ⟨i, j, hi, rfl, hr, rfl⟩ := rng_ok e5
  cases hi
  cases (show some (D.lst (rngL 0 j)) = some d from e6)
  refine ⟨B, F, as, ρ, w, _, _, r, e3, fun v F2 as2 H2 g2 r2 rv => ?_⟩
  simp only [Rep] at rv
  subst rv
  exact ⟨j, rfl, hr, fun p hp => q rfl p _ F2 as2 _ (g2.trans (Grw.newO hp)) (r2.newO hp) (g2.tr p hp) (r2.sub.non hp) (r2.notin hp) upd_same ⟨_, rfl, rgL_rep⟩⟩
/-! ### isinstance -/
def tyName : Ty → Option Str
  | .int => some "int" | .str => some "str" | .bool => some "bool" | .tuple => some "tuple" | .list => some "list" | .cls _ => none
def tyOk (n : Nm) (sc : Scope) (t : Ty) : Expr → Bool
  | .Name x _ => isGl sc x && (match t with
    | .cls c => decide (n.cl x = some c)
    | t => decide (tyName t = some x))
  | _ => false
theorem tyOk_pe (G : Gd X N sc k) (GX : GX X n Q T C k) {t : Ty} (h : tyOk n sc t e = true) : ∃ cv cu, PE X e (tC cv) ∧ ClsV cv cu ∧ noStar e = true ∧ cu = (match t with
    | .int => .type "int" | .str => .type "str" | .bool => .type "bool" | .tuple => .type "tuple" | .list => .type "list" | .cls c => .ref (Q.addr c)) := by
  cases e <;> try (simp only [tyOk] at h; exact absurd h Bool.false_ne_true)
  rename_i x p
  simp only [tyOk, Bool.and_eq_true] at h
  obtain ⟨hgl, hdb, hnn⟩ := G.gl h.1
  have bt : ∀ (T0 : String) (hx : some (Str.ofString T0) = some x) (hbi : Str.ofString T0 ∈ (["len", "tuple", "list", "range", "enumerate", "zip", "all", "any", "isinstance", "str", "int", "abs", "max", "min", "sorted", "sum", "set", "dict", "repr", "bool"] : List String).map Str.ofString) (hv : bootBuiltins (Str.ofString T0) = some (.type T0)), PE X (.Name x p) (tC (.ty T0)) := fun T0 hx hbi hv => by
    cases hx
    exact ⟨fun pins s σ H Z I q => ld_blt I hgl (GX.bi _ hbi) hv ⟨.ty T0, H, I, rfl, q⟩ hnn hdb⟩
  cases t with
  | int => exact ⟨_, _, bt "int" (of_decide_eq_true h.2) (by decide +kernel) (by decide +kernel), .ty _, rfl, rfl⟩
  | str => exact ⟨_, _, bt "str" (of_decide_eq_true h.2) (by decide +kernel) (by decide +kernel), .ty _, rfl, rfl⟩
  | bool => exact ⟨_, _, bt "bool" (of_decide_eq_true h.2) (by decide +kernel) (by decide +kernel), .ty _, rfl, rfl⟩
  | tuple => exact ⟨_, _, bt "tuple" (of_decide_eq_true h.2) (by decide +kernel) (by decide +kernel), .ty _, rfl, rfl⟩
  | list => exact ⟨_, _, bt "list" (of_decide_eq_true h.2) (by decide +kernel) (by decide +kernel), .ty _, rfl, rfl⟩
  | cls c0 => exact ⟨.ref (Q.addr c0), _, pe_glob (u := .ref (Q.addr c0)) hgl (GX.clv x c0 (of_decide_eq_true h.2)) rfl hdb, .own _, rfl, rfl⟩
theorem snd_isi (G : Gd X N sc k) (GX : GX X n Q T C k) {t : Ty} (ht : tyOk n sc t b = true) (hg : isGl sc "isinstance" = true) (hs : noStar a = true) (ha : PE X a (tO X.K Q T C S ca)) : PE X (.Call (.Name "isinstance" p) [a, b] [] pos) (tE X.K Q T C S (.isi ca t)) := by
  obtain ⟨cv, cu, hb, hcv, hs', hcu⟩ := tyOk_pe G GX ht
  refine (two_blt G call_isi hg (GX.bi _ (by decide +kernel)) (by decide +kernel) hs hs' ha hb).imp fun σ H Z ⟨B, F, as, ρ, w, d, w', r, he, q⟩ => ?_
  obtain ⟨d1, w1, e1, he1⟩ := R.bind_ok (show (ev T C ca ρ w).bind _ = .ok d w' from he)
  obtain ⟨he2, rfl⟩ := ofO_ok he1
  obtain ⟨bb, hbb, rfl⟩ := Option.map_eq_some_iff.mp he2
  refine ⟨B, F, as, ρ, w, d1, _, r, e1, fun v F1 as1 H1 g1 r1 o1 => ?_⟩
  obtain ⟨tv, ty, hk⟩ := GX.is1 F1 as1 H1 d1 v t bb (o1.top r1) r1.sub hbb
  exact ⟨v, cv, tv, cu, bb, rfl, hcv, ty, by rw [hcu]; cases t <;> exact hk, q _ F1 as1 H1 g1 r1 (by simp only [Rep])⟩
/-! ### methods of texts and lists -/
theorem one_bm {o : Expr} {T0 id : String} {r : V → List V → Hp → VK → Prop} {t1 t2 : TE} (pa : PlainAttrs T0) (slot : Slot T0 x id) (hty : typeOf (.builtin id) = pure (.type "method_descriptor")) (hm : MtR X id r) (hb : baseOk o = true) (hs : noStar a = true) (hline : (apos.endLine == pos.line) = true) (ho : PE X o t1) (ha : PE X a t2) :
    PE X (.Call (.Attribute o x apos) [a] [] pos) (tBM X.K T0 r t1 (tCons t2 tNil)) :=
  pe_bm pa slot hty hm ho (pa_cons ha pa_nil (starEach_plain hs)) (base_of hb) (few_of (by simp [hs]) (by simp)) hline (starEach_plain hs) rfl
theorem splitL_last {c : Nat} : ∀ {s : List Nat}, c ∉ s → splitL c s = [s]
  | [], _ => rfl
  | x :: xs, h => by
    rw [List.mem_cons, not_or] at h
    show (if x = c then [] :: splitL c xs else match splitL c xs with
      | [] => [[x]]
      | y :: ys => (x :: y) :: ys) = _
    rw [if_neg (Ne.symm h.1), splitL_last h.2]
theorem splitL_part {c : Nat} : ∀ {p r : List Nat}, c ∉ p → splitL c (p ++ c :: r) = p :: splitL c r
  | [], r, _ => by
    show (if c = c then _ else _) = _
    rw [if_pos rfl]
  | x :: xs, r, h => by
    rw [List.mem_cons, not_or] at h
    show (if x = c then [] :: splitL c (xs ++ c :: r) else match splitL c (xs ++ c :: r) with
      | [] => [[x]]
      | y :: ys => (x :: y) :: ys) = _
    rw [if_neg (Ne.symm h.1), splitL_part h.2]
theorem spl_eq {c : Nat} : ∀ (m : Nat) (s : List Nat), s.length ≤ m → TL.spl [c] 0 [] s = splitL c s
  | 0, s, h => by
    have : s = [] := List.eq_nil_of_length_eq_zero (by omega)
    subst this
    rw [TL.spl_last1 (by simp), splitL_last (by simp)]
    rfl
  | m + 1, s, h => by
    by_cases hc : c ∈ s
    · obtain ⟨p, r, rfl, hp⟩ := List.eq_append_cons_of_mem hc
      have e1 := TL.spl_part1 (s := c) (S := []) (p := p) (rest := r) (acc := []) hp
      rw [List.nil_append] at e1
      rw [splitL_part hp, ← spl_eq m r (by simp at h; omega)]
      exact e1
    · rw [TL.spl_last1 hc, splitL_last hc, List.nil_append]
theorem split_eq {s : List Nat} {c : Nat} (hc : c < 256) : Txt.split (toS s) (toS [c]) = (splitL c s).map toS := by
  refine TL.map_tl_inj ?_
  rw [TL.split_spl _ _ (by simp [toS]) (TL.kind_ok (by simp [toS, hc]))]
  have e : ((splitL c s).map toS).map TL.tl = splitL c s := by
    rw [List.map_map]
    conv => rhs; rw [← List.map_id (splitL c s)]
    refine List.map_congr_left fun z _ => ?_
    simp [toS, TL.tl]
  rw [e]
  simp only [toS, TL.tl]
  exact spl_eq _ s (Nat.le_refl _)
theorem splitL_small {c m : Nat} : ∀ {s : List Nat}, (∀ x ∈ s, x < m) → ∀ p ∈ splitL c s, ∀ x ∈ p, x < m
  | [], _, p, hp, x, hx => by
    rw [List.mem_singleton.mp hp] at hx
    exact absurd hx List.not_mem_nil
  | y :: ys, h, p, hp, x, hx => by
    have ih := splitL_small (c := c) (m := m) (s := ys) fun z hz => h z (List.mem_cons_of_mem _ hz)
    have hp' : p ∈ (if y = c then [] :: splitL c ys else match splitL c ys with
      | [] => [[y]]
      | z :: zs => (y :: z) :: zs) := hp
    split at hp'
    · rcases List.mem_cons.mp hp' with rfl | q
      · exact absurd hx List.not_mem_nil
      · exact ih p q x hx
    · split at hp'
      · rw [List.mem_singleton.mp hp'] at hx
        rw [List.mem_singleton.mp hx]
        exact h y List.mem_cons_self
      · rename_i z zs e
        rcases List.mem_cons.mp hp' with rfl | q
        · rcases List.mem_cons.mp hx with rfl | hx'
          · exact h x List.mem_cons_self
          · exact ih z (by rw [e]; exact List.mem_cons_self) x hx'
        · exact ih p (by rw [e]; exact List.mem_cons_of_mem _ q) x hx
theorem bmD_split {w : Wd} {d1 d2 d : MP.D} (h : bmD w .split d1 [d2] = some d) : ∃ s c, d1 = .str s ∧ d2 = .str [c] ∧ s.length + 2 ≤ bigN ∧ c < 256 ∧ d = .lst ((splitL c s).map .str) := by
  cases d1 with
  | str s =>
    cases d2 with
    | str s2 =>
      match s2, h with
      | [c], h =>
        have h' : (if s.length + 2 ≤ bigN ∧ c < 256 then some (D.lst ((splitL c s).map .str)) else none) = some d := h
        split at h'
        · rename_i hz
          cases h'
          exact ⟨s, c, rfl, rfl, hz.1, hz.2, rfl⟩
        · cases h'
      | [], h => cases h
      | _ :: _ :: _, h => cases h
    | _ => cases h
  | _ => cases h
/-- s.split(c), c one sign -/
theorem snd_split {o : Expr} (hb : baseOk o = true) (hs : noStar a = true) (hline : (apos.endLine == pos.line) = true) (ho : PE X o (tE X.K Q T C S ca)) (ha : PE X a (tE X.K Q T C S cb)) : PE X (.Call (.Attribute o "split" apos) [a] [] pos) (tE X.K Q T C S (.bm .split ca [cb])) :=
  (one_bm F.plainAttrs_str F.slot_str_split F.type_str_split mt_split hb hs hline ho ha).imp fun σ H Z ⟨B, F, as, ρ, w, d, w', r, he, q⟩ => by
    obtain ⟨d1, w1, e1, he1⟩ := R.bind_ok (show (ev T C ca ρ w).bind _ = .ok d w' from he)
    obtain ⟨ds, w2, e2, he2⟩ := R.bind_ok he1
    obtain ⟨d2, w3, e3, e4⟩ := R.bind_ok (show (ev T C cb ρ w1).bind _ = .ok ds w2 from e2)
    cases (show R.ok [d2] w3 = .ok ds w2 from e4)
    obtain ⟨he3, rfl⟩ := ofO_ok he2
    obtain ⟨s, c, rfl, rfl, hz, hc, rfl⟩ := bmD_split he3
    refine ⟨B, F, as, ρ, w, _, w1, r, e1, fun v F1 as1 H1 g1 r1 rv => ?_⟩
    simp only [Rep] at rv
    obtain ⟨rfl, hs⟩ := rv
    refine ⟨rfl, B, F1, as1, ρ, w1, _, _, r1, e3, fun u F2 as2 H2 g2 r2 ru => ?_⟩
    simp only [Rep] at ru
    obtain ⟨rfl, _⟩ := ru
    refine ⟨toS s, toS [c], rfl, rfl, rfl, by rw [toS_length]; exact bigN_le hz, fun p hp => ?_⟩
    rw [split_eq hc]
    refine q (.ref p) (upd F2 p _) as2 _ ((g1.trans g2).trans (Grw.newF hp (r2.sub.non hp))) (r2.newF hp) ?_
    simp only [Rep]
    exact ⟨p, _, rfl, upd_same, repL_of_strs (splitL_small hs)⟩
theorem strs_len {K : PySem.W.Frag} {F : Hp} {as : List Addr} : ∀ {ds : List MP.D} {zs : List (List Nat)}, MP.strsO ds = some zs → ds = zs.map .str
  | [], zs, h => by cases h; rfl
  | d :: ds, zs, h => by
    cases d <;> simp only [MP.strsO, reduceCtorEq] at h
    obtain ⟨zs', h', rfl⟩ := Option.map_eq_some_iff.mp h
    rw [strs_len (K := K) (F := F) (as := as) h']
    rfl
theorem join_eq (sep : List Nat) : ∀ zs : List (List Nat), Txt.join (toS sep) (zs.map toS) = toS (joinL sep zs) := fun zs => by
  rw [TL.join_eq]
  induction zs with
  | nil => rfl
  | cons x zs ih =>
    cases zs with
    | nil => rfl
    | cons y r =>
      show toS x ++ toS sep ++ Str.join (toS sep) ((y :: r).map toS) = toS (x ++ sep ++ joinL sep (y :: r))
      rw [ih]
      simp only [toS, HAppend.hAppend, Append.append, Str.append]
      simp
theorem joinL_small {sep : List Nat} {m : Nat} (hs : ∀ x ∈ sep, x < m) : ∀ {zs : List (List Nat)}, (∀ z ∈ zs, ∀ x ∈ z, x < m) → ∀ x ∈ joinL sep zs, x < m
  | [], _, x, hx => absurd hx List.not_mem_nil
  | [z], h, x, hx => h z (List.mem_singleton.mpr rfl) x hx
  | z :: y :: r, h, x, hx => by
    have hx' : x ∈ z ++ sep ++ joinL sep (y :: r) := hx
    rw [List.mem_append, List.mem_append] at hx'
    rcases hx' with (a | a) | a
    · exact h z List.mem_cons_self x a
    · exact hs x a
    · exact joinL_small hs (fun z hz => h z (List.mem_cons_of_mem _ hz)) x a
theorem bmD_join {w : Wd} {d1 d2 d : MP.D} (h : bmD w .join d1 [d2] = some d) : ∃ s xs zs, d1 = .str s ∧ (deref w d2 = .tup xs ∨ deref w d2 = .lst xs) ∧ MP.strsO xs = some zs ∧ fpl s zs ≤ bigN ∧ d = .str (joinL s zs) := by
  cases d1 with
  | str s =>
    have h' : (match deref w d2 with
      | .tup xs => (MP.strsO xs).bind fun zs => if fpl s zs ≤ bigN then some (D.str (joinL s zs)) else none
      | .lst xs => (MP.strsO xs).bind fun zs => if fpl s zs ≤ bigN then some (D.str (joinL s zs)) else none
      | _ => none) = some d := h
    split at h'
    · rename_i xs e
      obtain ⟨zs, h1, h2⟩ := Option.bind_eq_some_iff.mp h'
      split at h2
      · rename_i hz; cases h2; exact ⟨s, xs, zs, rfl, .inl e, h1, hz, rfl⟩
      · cases h2
    · rename_i xs e
      obtain ⟨zs, h1, h2⟩ := Option.bind_eq_some_iff.mp h'
      split at h2
      · rename_i hz; cases h2; exact ⟨s, xs, zs, rfl, .inr e, h1, hz, rfl⟩
      · cases h2
    · cases h'
  | _ => cases h
theorem fpl_le (s : List Nat) (zs : List (List Nat)) : ((zs.map toS).map (·.length)).sum + (zs.map toS).length * (toS s).length = fpl s zs := by
  unfold fpl
  induction zs with
  | nil => simp
  | cons z zs ih =>
    simp only [List.map_cons, List.sum_cons, List.length_cons, toS_length, Nat.succ_mul] at ih ⊢
    omega
/-- s.join(a list, a tuple of texts) -/
theorem snd_join {o : Expr} (hb : baseOk o = true) (hs : noStar a = true) (hline : (apos.endLine == pos.line) = true) (ho : PE X o (tE X.K Q T C S ca)) (ha : PE X a (tO X.K Q T C S cb)) : PE X (.Call (.Attribute o "join" apos) [a] [] pos) (tE X.K Q T C S (.bm .join ca [cb])) :=
  (one_bm F.plainAttrs_str F.slot_str_join F.type_str_join mt_join hb hs hline ho ha).imp fun σ H Z ⟨B, F, as, ρ, w, d, w', r, he, q⟩ => by
    obtain ⟨d1, w1, e1, he1⟩ := R.bind_ok (show (ev T C ca ρ w).bind _ = .ok d w' from he)
    obtain ⟨ds, w2, e2, he2⟩ := R.bind_ok he1
    obtain ⟨d2, w3, e3, e4⟩ := R.bind_ok (show (ev T C cb ρ w1).bind _ = .ok ds w2 from e2)
    cases (show R.ok [d2] w3 = .ok ds w2 from e4)
    obtain ⟨he3, rfl⟩ := ofO_ok he2
    obtain ⟨s, xs, zs, rfl, hx, hzs, hz, rfl⟩ := bmD_join he3
    refine ⟨B, F, as, ρ, w, _, w1, r, e1, fun v F1 as1 H1 g1 r1 rv => ?_⟩
    simp only [Rep] at rv
    obtain ⟨rfl, hs⟩ := rv
    refine ⟨rfl, B, F1, as1, ρ, w1, _, _, r1, e3, fun u F2 as2 H2 g2 r2 o2 => ?_⟩
    have tx := (o2.top r2).toD r2
    obtain ⟨p, ys, rfl, h1, h2⟩ : ∃ p ys, u = .ref p ∧ (SqL X.K H2 p ys ∨ SqT X.K H2 p ys) ∧ RepL X.K Q F2 as2 xs ys := by
      rcases hx with hx | hx <;> rw [hx] at tx
      · exact Top.sq r2.sub (.inr tx)
      · exact Top.sq r2.sub (.inl tx)
    obtain ⟨rfl, hc⟩ := repL_strs h2 hzs
    refine ⟨toS s, p, zs.map toS, rfl, rfl, h1, by rw [fpl_le]; exact hz, ?_⟩
    rw [join_eq]
    exact q _ F2 as2 H2 (g1.trans g2) r2 (by simp only [Rep]; exact ⟨trivial, joinL_small hs hc⟩)
end
end MP

set_option Elab.async false
set_option linter.all false
set_option maxRecDepth 100000
/-! MPA1: dead code, written dicts, displays with stars, displays of dicts. -/
namespace MP
open PySem PySem.Spec PyProof.Rows L2
section
variable {Q : Cls} {T : Tb} {C : CallF} {S S' S1 L : List Nat} {X : Cx} {N : List Str} {sc : Scope} {k : Nat} {n : Nm} {e a b c tg : Expr} {es : List Expr} {ca cb cc : CE} {cs : List CE} {pos p apos spos : Pos} {x y z : Str}
theorem snd_bad : PE X e (tE X.K Q T C S .bad) := ⟨fun pins s σ H Z I ⟨B, F, as, ρ, w, d, w', r, he, q⟩ => by cases he⟩
theorem tst_bad : PT X e (tTst X.K Q T C S .bad) := ⟨fun pins s σ H Z I ⟨B, F, as, ρ, w, d, w', r, he, q⟩ => by cases he⟩
theorem ss_never {st : Stmt} : PS X st (tS X.K Q T C S S1 L .never) := ⟨fun pins s σ H Z I ⟨B, F, as, ρ, w, r, w', sr, he, q⟩ => by cases he⟩
/-! ### written dicts -/
theorem snd_tin (G : Gd X N sc k) (GX : GX X n Q T C k) {g : Nat} {op : CmpOp} {neg : Bool} (ho : (match op, neg with | .In, false => true | .NotIn, true => true | _, _ => false) = true) (hn : n.tb x = some g) (hg : isGl sc x = true) (ha : PE X a (tE X.K Q T C S ca)) :
    PE X (.Compare a [op] [.Name x p] pos) (tE X.K Q T C S (.tin neg g ca)) ∧ PT X (.Compare a [op] [.Name x p] pos) (tTst X.K Q T C S (.tin neg g ca)) := by
  cases hl : T.tab g with
  | none => exact ⟨⟨fun pins s σ H Z I ⟨B, F, as, ρ, w, d, w', r, he, q⟩ => by
      obtain ⟨d1, w1, e1, he1⟩ := R.bind_ok (show (ev T C ca ρ w).bind _ = .ok d w' from he)
      rw [hl] at he1
      cases (ofO_ok he1).1⟩, ⟨fun pins s σ H Z I ⟨B, F, as, ρ, w, d, w', r, he, q⟩ => by
      obtain ⟨d0, w0, e0, he0⟩ := R.bind_ok (show (ev T C (.tin neg g ca) ρ w).bind boolR = .ok d w' from he)
      obtain ⟨d1, w1, e1, he1⟩ := R.bind_ok (show (ev T C ca ρ w).bind _ = .ok d0 w0 from e0)
      rw [hl] at he1
      cases (ofO_ok he1).1⟩⟩
  | some l =>
  obtain ⟨ad, hm, es, m, D, tk⟩ := GX.tb x g l hn hl
  obtain ⟨hgl, hdb, _⟩ := G.gl hg
  have hnm : PE X (.Name x p) (tC (.ref ad)) := pe_glob hgl hm rfl hdb
  have key : ∀ {r : R2} (h1 : OpR X (compareOp op) r) (h2 : ∀ s H Z, (∀ rr, PySem.W.nsIn X.K ad (toS s) = some rr → Z (.bl (neg != rr.isSome)) H) → r (.str (toS s)) (.ref ad) H Z), PE X (.Compare a [op] [.Name x p] pos) (tE X.K Q T C S (.tin neg g ca)) ∧ PT X (.Compare a [op] [.Name x p] pos) (tTst X.K Q T C S (.tin neg g ca)) := fun {rr} h1 h2 =>
    have im : ∀ σ H Z, tE X.K Q T C S (.tin neg g ca) σ H Z → tOp rr (tE X.K Q T C S ca) (tC (.ref ad)) σ H Z := fun σ H Z ⟨B, F, as, ρ, w, d, w', r, he, q⟩ => by
      obtain ⟨d1, w1, e1, he1⟩ := R.bind_ok (show (ev T C ca ρ w).bind _ = .ok d w' from he)
      obtain ⟨he2, rfl⟩ := ofO_ok he1
      rw [hl] at he2
      cases d1 <;> simp only [tinD, reduceCtorEq, Option.some.injEq] at he2
      rename_i s
      subst he2
      refine ⟨B, F, as, ρ, w, _, _, r, e1, fun v F' as' H' g' r' rv => ?_⟩
      simp only [Rep] at rv
      rw [rv.1]
      refine h2 s H' Z fun rr hr => ?_
      have t := tk s
      cases ht : tabLook s l with
      | none =>
        rw [ht] at t
        rw [t] at hr
        cases hr
        exact q _ F' as' H' g' r' (by simp only [Rep]; rw [ht]; rfl)
      | some d =>
        rw [ht] at t
        obtain ⟨v, u, t1, t2, t3⟩ := t
        rw [t1] at hr
        cases hr
        exact q _ F' as' H' g' r' (by simp only [Rep]; rw [ht]; rfl)
    ⟨(pe_cmpR h1 ha hnm (marks_of rfl)).imp im, (pt_cmpR h1 ha hnm (marks_of rfl)).imp (tst_of im)⟩
  have ex : ∀ s, ∃ rr, PySem.W.nsIn X.K ad (toS s) = some rr := fun s => by
    have t := tk s
    cases ht : tabLook s l with
    | none => rw [ht] at t; exact ⟨_, t⟩
    | some d => rw [ht] at t; obtain ⟨v, u, t1, _⟩ := t; exact ⟨_, t1⟩
  cases op <;> cases neg <;> simp only [Bool.false_eq_true] at ho
  · exact key (op_in_kd D) fun s H Z hz => by
      obtain ⟨rr, hr⟩ := ex s
      exact ⟨_, rr, rfl, rfl, hr, by simpa using hz rr hr⟩
  · exact key (op_notIn_kd D) fun s H Z hz => by
      obtain ⟨rr, hr⟩ := ex s
      exact ⟨_, rr, rfl, rfl, hr, by simpa using hz rr hr⟩
theorem snd_tix (G : Gd X N sc k) (GX : GX X n Q T C k) {g : Nat} (hn : n.tb x = some g) (hg : isGl sc x = true) (hp : plainIx a = true) (ha : PE X a (tE X.K Q T C S ca)) :
    PE X (.Subscript (.Name x p) a pos) (tE X.K Q T C S (.tix g ca)) := by
  cases hl : T.tab g with
  | none => exact ⟨fun pins s σ H Z I ⟨B, F, as, ρ, w, d, w', r, he, q⟩ => by
      obtain ⟨d1, w1, e1, he1⟩ := R.bind_ok (show (ev T C ca ρ w).bind _ = .ok d w' from he)
      rw [hl] at he1
      cases (ofO_ok he1).1⟩
  | some l =>
  obtain ⟨ad, hm, es, m, D, tk⟩ := GX.tb x g l hn hl
  obtain ⟨hgl, hdb, _⟩ := G.gl hg
  have hnm : PE X (.Name x p) (tC (.ref ad)) := pe_glob hgl hm rfl hdb
  refine (pe_ix ix_kdict hnm ha (plainIx_ok hp)).imp fun σ H Z ⟨B, F, as, ρ, w, d, w', r, he, q⟩ => ?_
  obtain ⟨d1, w1, e1, he1⟩ := R.bind_ok (show (ev T C ca ρ w).bind _ = .ok d w' from he)
  obtain ⟨he2, rfl⟩ := ofO_ok he1
  rw [hl] at he2
  cases d1 <;> simp only [tixD, reduceCtorEq] at he2
  rename_i s
  have t := tk s
  rw [he2] at t
  obtain ⟨v, u, t1, t2, t3⟩ := t
  refine ⟨B, F, as, ρ, w, _, _, r, e1, fun v' F' as' H' g' r' rv => ?_⟩
  simp only [Rep] at rv
  rw [rv.1]
  exact ⟨ad, _, v, rfl, rfl, ⟨es, m, u, D.at_, D.lit, t1, t2⟩, q v F' as' H' g' r' (t3 F' as')⟩
/-! ### the script -/
theorem snd_slen (G : Gd X N sc k) (GX : GX X n Q T C k) (hg : isGl sc "len" = true) (hs : noStar a = true) (ha : PE X a (tE X.K Q T C S ca)) : PE X (.Call (.Name "len" p) [a] [] pos) (tE X.K Q T C S (.slen ca)) :=
  (one_blt G len2 hg (GX.bi _ (by decide +kernel)) (by decide +kernel) hs ha).imp fun σ H Z ⟨B, F, as, ρ, w, d, w', r, he, q⟩ => by
    obtain ⟨d1, w1, e1, he1⟩ := R.bind_ok (show (ev T C ca ρ w).bind _ = .ok d w' from he)
    obtain ⟨he2, rfl⟩ := ofO_ok he1
    unfold slenD at he2
    split at he2
    · cases he2
      refine ⟨B, F, as, ρ, w, _, _, r, e1, fun v F1 as1 H1 g1 r1 rv => ?_⟩
      simp only [Rep] at rv
      obtain ⟨a, h1, h2⟩ := GX.sc F1 as1 _ H1 r1.wld
      rw [rv, h1]
      refine .inl ⟨_, (T.scr.map V.int).length, rfl, .inl ⟨_, r1.sub.sqL h2, rfl⟩, q _ F1 as1 H1 g1 r1 ?_⟩
      simp only [Rep, List.length_map]
    · cases he2
theorem snd_sidx (G : Gd X N sc k) (GX : GX X n Q T C k) (hp : plainIx b = true) (ha : PE X a (tE X.K Q T C S ca)) (hb : PE X b (tE X.K Q T C S cb)) : PE X (.Subscript a b pos) (tE X.K Q T C S (.sidx ca cb)) :=
  (pe_ix ix_seq ha hb (plainIx_ok hp)).imp fun σ H Z ⟨B, F, as, ρ, w, d, w', r, he, q⟩ => by
    obtain ⟨d1, w1, e1, he1⟩ := R.bind_ok (show (ev T C ca ρ w).bind _ = .ok d w' from he)
    obtain ⟨d2, w2, e2, he2⟩ := R.bind_ok he1
    obtain ⟨he3, rfl⟩ := ofO_ok he2
    unfold sidxD at he3
    split at he3
    · rename_i i
      obtain ⟨j, hj, hx⟩ := Option.bind_eq_some_iff.mp he3
      obtain ⟨z, hz, rfl⟩ := Option.map_eq_some_iff.mp hx
      refine ⟨B, F, as, ρ, w, _, _, r, e1, fun v F1 as1 H1 g1 r1 rv => ⟨B, F1, as1, ρ, w1, _, _, r1, e2, fun u F2 as2 H2 g2 r2 ru => ?_⟩⟩
      simp only [Rep] at rv ru
      obtain ⟨a, h1, h2⟩ := GX.sc F2 as2 _ H2 r2.wld
      rw [rv, h1, ru]
      refine .inl ⟨a, _, i, .int z, rfl, rfl, r2.sub.sqL h2, ?_, q _ F2 as2 H2 (g1.trans g2) r2 (by simp only [Rep])⟩
      unfold atI
      rw [List.length_map, ← ixD_eq, hj]
      show (T.scr.map V.int)[j]? = _
      rw [List.getElem?_map, hz]
      rfl
    · cases he3
/-! ### texts -/
theorem startswith_eq (a b : List Nat) : Txt.startswith (toS a) (toS b) = b.isPrefixOf a := by
  unfold Txt.startswith
  rw [StrLaws.subAt_eq, toS_toList, toS_toList, toS_length, toS_length, List.drop_zero, Nat.zero_add, Bool.eq_iff_iff, Bool.and_eq_true, decide_eq_true_eq, beq_iff_eq, List.isPrefixOf_iff_prefix, List.prefix_iff_eq_take]
  exact ⟨fun h => h.2.symm, fun h => ⟨by rw [h, List.length_take]; omega, h.symm⟩⟩
theorem snd_startswith {o : Expr} (hb : baseOk o = true) (hs : noStar a = true) (hline : (apos.endLine == pos.line) = true) (ho : PE X o (tE X.K Q T C S ca)) (ha : PE X a (tE X.K Q T C S cb)) : PE X (.Call (.Attribute o "startswith" apos) [a] [] pos) (tE X.K Q T C S (.bm .startswith ca [cb])) :=
  (one_bm F.plainAttrs_str F.slot_str_startswith F.type_str_startswith mt_startswith hb hs hline ho ha).imp fun σ H Z ⟨B, F, as, ρ, w, d, w', r, he, q⟩ => by
    obtain ⟨d1, w1, e1, he1⟩ := R.bind_ok (show (ev T C ca ρ w).bind _ = .ok d w' from he)
    obtain ⟨ds, w2, e2, he2⟩ := R.bind_ok he1
    obtain ⟨d2, w3, e3, e4⟩ := R.bind_ok (show (ev T C cb ρ w1).bind _ = .ok ds w2 from e2)
    cases (show R.ok [d2] w3 = .ok ds w2 from e4)
    obtain ⟨he3, rfl⟩ := ofO_ok he2
    cases d1 <;> cases d2 <;> simp only [bmD, reduceCtorEq, Option.some.injEq] at he3
    subst he3
    refine ⟨B, F, as, ρ, w, _, w1, r, e1, fun v F1 as1 H1 g1 r1 rv => ?_⟩
    simp only [Rep] at rv
    obtain ⟨rfl, hs⟩ := rv
    refine ⟨rfl, B, F1, as1, ρ, w1, _, _, r1, e3, fun u F2 as2 H2 g2 r2 o2 => ?_⟩
    simp only [Rep] at o2
    obtain ⟨rfl, hs2⟩ := o2
    exact ⟨_, _, rfl, rfl, q _ F2 as2 H2 (g1.trans g2) r2 (by simp only [Rep]; rw [startswith_eq])⟩
end
end MP

set_option Elab.async false
set_option linter.all false
set_option maxRecDepth 100000
/-! MPA2: displays with stars, displays of dicts, list.index. -/
namespace MP
open PySem PySem.Spec PyProof.Rows L2
section
variable {Q : Cls} {T : Tb} {C : CallF} {S S' S1 L : List Nat} {X : Cx} {N : List Str} {sc : Scope} {k : Nat} {n : Nm} {e a b c tg : Expr} {es : List Expr} {ca cb cc : CE} {cs : List CE} {pos p apos spos : Pos} {x y z : Str}
/-! ### displays with stars -/
/-- what a display's members come to -/
def tSpl (K : PySem.W.Frag) (Q : Cls) (T : Tb) (C : CallF) (S : List Nat) (fl : List Bool) (cs : List CE) : TA := fun σ H R => ∃ B F as ρ w ds w' xs, SR K Q B S F as ρ w σ H ∧ evs T C cs ρ w = .ok ds w' ∧ spl fl ds = some xs ∧
  ∀ vs F' as' H', Grw F as H F' as' H' → SR K Q B S F' as' ρ w' σ H' → RepL K Q F' as' xs vs → R vs H'
theorem spl_nil : PA X [] (tSpl X.K Q T C S [] []) := pa_nil.imp fun σ H Z ⟨B, F, as, ρ, w, ds, w', xs, r, he, hs, q⟩ => by
  cases (show R.ok [] w = .ok ds w' from he)
  cases (show some [] = some xs from hs)
  exact q [] F as H Grw.rfl' r .nil
theorem spl_one {fl : List Bool} (hn : noStar e = true) (h : PE X e (tE X.K Q T C S ca)) (hs : PA X es (tSpl X.K Q T C S fl cs)) : PA X (e :: es) (tSpl X.K Q T C S (false :: fl) (ca :: cs)) :=
  (pa_cons h hs (starEach_plain hn)).imp fun σ H Z ⟨B, F, as, ρ, w, ds, w', xs, r, he, hx, q⟩ => by
    obtain ⟨d, w1, h1, he⟩ := R.bind_ok (show (ev T C ca ρ w).bind _ = .ok ds w' from he)
    obtain ⟨es', w2, h2, he⟩ := R.bind_ok (show (evs T C cs ρ w1).bind _ = .ok ds w' from he)
    cases (show R.ok (d :: es') w2 = .ok ds w' from he)
    obtain ⟨ys, hy, rfl⟩ := Option.map_eq_some_iff.mp (show (spl fl es').map (fun r => d :: r) = some xs from hx)
    refine ⟨B, F, as, ρ, w, d, w1, r, h1, fun v F1 as1 H1 g1 r1 rv => ?_⟩
    refine ⟨B, F1, as1, ρ, w1, es', _, ys, r1, h2, hy, fun vs F2 as2 H2 g2 r2 rvs => ?_⟩
    exact q (v :: vs) F2 as2 H2 (g1.trans g2) r2 (.cons (rv.mono g2.fz g2.pr) rvs)
theorem spl_star {fl : List Bool} {q0 : Pos} (h : PE X e (tE X.K Q T C S ca)) (hs : PA X es (tSpl X.K Q T C S fl cs)) : PA X (.Starred e q0 :: es) (tSpl X.K Q T C S (true :: fl) (ca :: cs)) :=
  (StX.pa_star h hs).imp fun σ H Z ⟨B, F, as, ρ, w, ds, w', xs, r, he, hx, q⟩ => by
    obtain ⟨d, w1, h1, he⟩ := R.bind_ok (show (ev T C ca ρ w).bind _ = .ok ds w' from he)
    obtain ⟨es', w2, h2, he⟩ := R.bind_ok (show (evs T C cs ρ w1).bind _ = .ok ds w' from he)
    cases (show R.ok (d :: es') w2 = .ok ds w' from he)
    obtain ⟨zs, hz, hx2⟩ := Option.bind_eq_some_iff.mp (show (seqOf [] d).bind (fun xs => (spl fl es').map fun r => xs ++ r) = some xs from hx)
    obtain ⟨ys, hy, rfl⟩ := Option.map_eq_some_iff.mp hx2
    refine ⟨B, F, as, ρ, w, d, w1, r, h1, fun v F1 as1 H1 g1 r1 rv => ?_⟩
    have hd : ∃ pa us, v = .ref pa ∧ (SqT X.K H1 pa us ∨ SqL X.K H1 pa us) ∧ RepL X.K Q F1 as1 zs us := by
      cases d <;> simp only [seqOf, deref, reduceCtorEq, Option.some.injEq] at hz
      · subst hz
        simp only [Rep] at rv
        obtain ⟨pa, us, rfl, h3, h4⟩ := rv
        exact ⟨pa, us, rfl, .inl (r1.sub.sqT h3), h4⟩
      · subst hz
        simp only [Rep] at rv
        obtain ⟨pa, us, rfl, h3, h4⟩ := rv
        exact ⟨pa, us, rfl, .inr (.inl (.inl (r1.sub _ _ h3))), h4⟩
      · simp [List.getD_eq_getElem?_getD] at hz
    obtain ⟨pa, us, rfl, h3, h4⟩ := hd
    refine ⟨pa, us, rfl, h3, B, F1, as1, ρ, w1, es', _, ys, r1, h2, hy, fun vs F2 as2 H2 g2 r2 rvs => ?_⟩
    exact q (us ++ vs) F2 as2 H2 (g1.trans g2) r2 ((h4.mono g2.fz g2.pr).append rvs)
theorem snd_tups {fl : List Bool} {kk : Nat} (hs : PA X es (tSpl X.K Q T C S fl cs)) : PE X (.Tuple es kk pos) (tE X.K Q T C S (.tups fl cs)) :=
  (pe_tup hs).imp fun σ H Z ⟨B, F, as, ρ, w, d, w', r, he, q⟩ => by
    obtain ⟨ds, w1, h1, he⟩ := R.bind_ok (show (evs T C cs ρ w).bind _ = .ok d w' from he)
    obtain ⟨xs, w2, h2, he2⟩ := R.bind_ok he
    obtain ⟨h3, rfl⟩ := ofO_ok h2
    split at he2
    case isFalse => cases he2
    rename_i hl
    cases he2
    refine ⟨B, F, as, ρ, w, ds, _, xs, r, h1, h3, fun vs F1 as1 H1 g1 r1 rvs => ⟨?_, fun p hp => ?_⟩⟩
    · rw [rvs.length]
      exact bigN_le hl
    · refine q (.ref p) (upd F1 p (.tup vs)) as1 (upd H1 p (.tup vs)) (g1.trans (Grw.newF hp (r1.sub.non hp))) (r1.newF hp) ?_
      simp only [Rep]
      exact ⟨p, vs, rfl, .inl (.inl upd_same), rvs.mono (Le.upd (r1.sub.non hp)) Pre.rfl'⟩
theorem snd_lsts {fl : List Bool} (hs : PA X es (tSpl X.K Q T C S fl cs)) : PE X (.List es pos) (tN X.K Q T C S (.lsts fl cs)) :=
  (pe_lst hs).imp fun σ H Z ⟨B, F, as, ρ, w, d, w', r, he, q⟩ => by
    obtain ⟨ds, w1, h1, he⟩ := R.bind_ok (show (evs T C cs ρ w).bind _ = .ok d w' from he)
    obtain ⟨xs, w2, h2, he2⟩ := R.bind_ok he
    obtain ⟨h3, rfl⟩ := ofO_ok h2
    split at he2
    case isFalse => cases he2
    rename_i hl
    cases he2
    refine ⟨B, F, as, ρ, w, ds, _, xs, r, h1, h3, fun vs F1 as1 H1 g1 r1 rvs => ⟨?_, fun p hp => ?_⟩⟩
    · rw [rvs.length]
      exact bigN_le hl
    · exact q rfl p (.lst vs) F1 as1 (upd H1 p (.lst vs)) (g1.trans (Grw.newO hp)) (r1.newO hp) (g1.tr p hp) (r1.sub.non hp) (r1.notin hp) upd_same ⟨vs, rfl, rvs⟩
/-! ### {text: e, ..} -/
def strKey : CE → Bool
  | .str _ => true
  | _ => false
/-- what the pairs of a display come to -/
def kvD : List CE → List D → List (List Nat × D)
  | .str s :: ks, d :: ds => (s, d) :: kvD ks ds
  | _, _ => []
theorem evs_strs : ∀ {ks : List CE} {ρ : En} {w : Wd}, ks.all strKey = true → evs T C ks ρ w = .ok (ks.map fun c => match c with | .str s => D.str s | _ => .non) w
  | [], ρ, w, _ => rfl
  | c :: ks, ρ, w, h => by
    rw [List.all_cons, Bool.and_eq_true] at h
    cases c <;> simp only [strKey, Bool.false_eq_true, false_and] at h
    show (R.ok (D.str _) w).bind (fun d w => (evs T C ks ρ w).bind fun ds w => .ok (d :: ds) w) = _
    simp only [R.bind, evs_strs (w := w) (ρ := ρ) h.2, List.map_cons]
/-- the pairs, from a state -/
theorem pairs_run {K : PySem.W.Frag} {B : Bs} : ∀ {ks cs : List CE} {trs : List (TE × TE)} {F : Hp} {as : List Addr} {ρ : En} {w w' : Wd} {ds : List D} {σ : L2.St} {H : Hp} {Rr : List (V × V) → Hp → Prop},
    trs = (ks.zip cs).map (fun q => (tE K Q T C S q.1, tE K Q T C S q.2)) → ks.all strKey = true → ks.length = cs.length → SR K Q B S F as ρ w σ H → evs T C cs ρ w = .ok ds w' →
    (∀ (vs : List V) (kvs : List (Key × V)) F' as' H', Grw F as H F' as' H' → SR K Q B S F' as' ρ w' σ H' → RepL K Q F' as' ds (kvs.map (·.2)) → (ks.map fun c => match c with | .str s => D.str s | _ => .non).map keyO = kvs.map (fun p => some p.1) → Rr (kvs.map fun kv => (kV kv.1, kv.2)) H') →
    tPairs trs σ H Rr
  | [], [], trs, F, as, ρ, w, w', ds, σ, H, Rr, ht, hk, hl, r, he, q => by
    subst ht
    cases (show R.ok [] w = .ok ds w' from he)
    exact q [] [] F as H Grw.rfl' r .nil rfl
  | [], _ :: _, _, _, _, _, _, _, _, _, _, _, _, _, hl, _, _, _ => by cases hl
  | _ :: _, [], _, _, _, _, _, _, _, _, _, _, _, _, hl, _, _, _ => by cases hl
  | c :: ks, v :: cs, trs, F, as, ρ, w, w', ds, σ, H, Rr, ht, hk, hl, r, he, q => by
    subst ht
    rw [List.all_cons, Bool.and_eq_true] at hk
    obtain ⟨hc, hk⟩ := hk
    cases c <;> simp only [strKey, Bool.false_eq_true] at hc
    rename_i s
    obtain ⟨d, w1, h1, he⟩ := R.bind_ok (show (ev T C v ρ w).bind _ = .ok ds w' from he)
    obtain ⟨es', w2, h2, he⟩ := R.bind_ok (show (evs T C cs ρ w1).bind _ = .ok ds w' from he)
    cases (show R.ok (d :: es') w2 = .ok ds w' from he)
    show tE K Q T C S (.str s) σ H fun x H1 => tE K Q T C S v σ H1 fun y H2 => tPairs _ σ H2 fun ps H3 => Rr ((x, y) :: ps) H3
    refine ⟨B, F, as, ρ, w, .str s, w, r, rfl, fun x F1 as1 H1 g1 r1 rx => ?_⟩
    refine ⟨B, F1, as1, ρ, w, d, w1, r1, h1, fun y F2 as2 H2 g2 r2 ry => ?_⟩
    refine pairs_run rfl hk (by simpa using hl) r2 h2 fun vs kvs F3 as3 H3 g3 r3 rvs hkv => ?_
    simp only [Rep] at rx
    obtain ⟨rfl, _⟩ := rx
    exact q [] ((.inr (toS s), y) :: kvs) F3 as3 H3 ((g1.trans g2).trans g3) r3 (.cons (ry.mono g3.fz g3.pr) rvs) (by rw [List.map_cons, List.map_cons, List.map_cons, hkv]; rfl)
theorem evs_fst {ks : List CE} {ρ : En} {w w' : Wd} {ds : List D} (hk : ks.all strKey = true) (he : evs T C ks ρ w = .ok ds w') : ds = (ks.map fun c => match c with | .str s => D.str s | _ => .non) ∧ w' = w := by
  rw [evs_strs hk] at he
  cases he
  exact ⟨rfl, rfl⟩
theorem putK_new {kvs : List (Key × V)} {kk : Key} {v : V} (h : kk ∉ kvs.map (·.1)) : putK kvs kk v = kvs ++ [(kk, v)] := by
  unfold putK
  rw [if_neg]
  rw [List.any_eq_true]
  rintro ⟨q, hq, e⟩
  exact h (List.mem_map.mpr ⟨q, hq, of_decide_eq_true e⟩)
theorem mergeK_nodup : ∀ {more kvs : List (Key × V)}, ((kvs ++ more).map (·.1)).Nodup → mergeK kvs more = kvs ++ more
  | [], kvs, _ => by simp [mergeK]
  | q :: r, kvs, h => by
    show mergeK (putK kvs q.1 q.2) r = _
    have hq : q.1 ∉ kvs.map (·.1) := by
      rw [List.map_append, List.map_cons, List.nodup_append] at h
      exact fun m => h.2.2 _ m _ List.mem_cons_self rfl
    rw [putK_new hq, mergeK_nodup (by simpa using h)]
    simp
theorem pps_of : ∀ {keys : List (Option Expr)} {ks cs : List CE} {es : List Expr}, keys.length = ks.length → es.length = cs.length → ks.length = cs.length → (∀ (i : Nat) (e : Expr) (c : CE), keys[i]? = some (some e) → ks[i]? = some c → PE X e (tE X.K Q T C S c)) → (∀ o ∈ keys, o.isSome = true) → (∀ (i : Nat) (e : Expr) (c : CE), es[i]? = some e → cs[i]? = some c → PE X e (tE X.K Q T C S c)) →
    PPs X pos keys es ((ks.zip cs).map (fun q => (tE X.K Q T C S q.1, tE X.K Q T C S q.2)))
  | [], [], [], [], _, _, _, _, _, _ => pps_nil
  | some e :: keys, c :: ks, c2 :: cs, e2 :: es, h1, h2, h3, hk, ho, he =>
    pps_cons (hk 0 e c rfl rfl) (he 0 e2 c2 rfl rfl) (pps_of (by simpa using h1) (by simpa using h2) (by simpa using h3) (fun i e c q1 q2 => hk (i + 1) e c (by simpa using q1) (by simpa using q2)) (fun o m => ho o (List.mem_cons_of_mem _ m)) fun i e c q1 q2 => he (i + 1) e c (by simpa using q1) (by simpa using q2))
  | none :: keys, _, _, _, _, _, _, _, ho, _ => absurd (ho none List.mem_cons_self) Bool.false_ne_true
  | [], [], _ :: _, _, _, _, h, _, _, _ => by cases h
  | [], _ :: _, _, _, h, _, _, _, _, _ => by cases h
  | _ :: _, [], _, _, h, _, _, _, _, _ => by cases h
  | _, _ :: _, [], _, _, _, h, _, _, _ => by cases h
  | _, _, [], _ :: _, _, h, _, _, _, _ => by cases h
  | _, _, _ :: _, [], _, h, _, _, _, _ => by cases h
theorem keyO_inj {a b : D} {kk : Key} (h1 : keyO a = some kk) (h2 : keyO b = some kk) : a = b := by
  cases a <;> simp only [keyO, reduceCtorEq, Option.some.injEq] at h1 <;> cases b <;> simp only [keyO, reduceCtorEq, Option.some.injEq] at h2 <;> subst h1 <;> simp at h2
  · rw [h2]
  · rw [toS_inj h2]
/-- {text: e, ..} -/
theorem snd_dct {keys : List (Option Expr)} {ks : List CE} (hp : PPs X pos keys es ((ks.zip cs).map (fun q => (tE X.K Q T C S q.1, tE X.K Q T C S q.2)))) (hall : keys.all (·.isSome) = true) (hl : keys.length = es.length) (h0 : keys ≠ []) (h15 : keys.length ≤ 15) (hk : ks.all strKey = true) (hlk : ks.length = cs.length) (hlc : cs.length ≤ 15)
    (hnd : (ks.map fun c => match c with | .str s => s | _ => []).Nodup) : PE X (.Dict keys es pos) (tN X.K Q T C S (.dct ks cs)) :=
  (pe_disp hp hall hl h0 h15).imp fun σ H Z ⟨B, F, as, ρ, w, d, w', r, he, q⟩ => by
    obtain ⟨ds, w1, h1, he⟩ := R.bind_ok (show (evs T C ks ρ w).bind _ = .ok d w' from he)
    obtain ⟨es', w2, h2, he⟩ := R.bind_ok (show (evs T C cs ρ w1).bind _ = .ok d w' from he)
    cases (show R.ok (D.dct ds es') w2 = .ok d w' from he)
    obtain ⟨rfl, rfl⟩ := evs_fst hk h1
    intro p hp
    refine pairs_run rfl hk hlk (r.newO (o := .dK []) hp) h2 fun vs kvs F' as' H' g' r' rl hkv => ?_
    have hpa : p ∉ as := r.notin hp
    have h3 := g'.kp p _ upd_same hpa
    have nd : (kvs.map (·.1)).Nodup := by
      have hnd2 : ((ks.map fun c => match c with | .str s => D.str s | _ => .non).map keyO).Nodup := by
        rw [List.map_map]
        have e : (ks.map (keyO ∘ fun c => match c with | .str s => D.str s | _ => .non)) = (ks.map fun c => match c with | .str s => s | _ => []).map fun s => some (Sum.inr (toS s) : Key) := by
          rw [List.map_map]
          refine List.map_congr_left fun c hc => ?_
          have := List.all_eq_true.mp hk c hc
          cases c <;> simp only [strKey, Bool.false_eq_true] at this
          rfl
        rw [e]
        unfold List.Nodup at hnd ⊢
        rw [List.pairwise_map]
        exact hnd.imp fun h e => h (toS_inj (by simpa using e))
      rw [hkv] at hnd2
      have e2 : kvs.map (fun p => some p.1) = (kvs.map (·.1)).map some := by rw [List.map_map]; rfl
      rw [e2] at hnd2
      unfold List.Nodup at hnd2 ⊢
      rw [List.pairwise_map] at hnd2
      exact hnd2.imp fun h e => h (by rw [e])
    refine ⟨h3, kvs, rfl, ?_, ?_⟩
    · have e1 := congrArg List.length hkv
      simp only [List.length_map] at e1
      omega
    · have em : mergeK [] kvs = kvs := by rw [mergeK_nodup (by simpa using nd)]; rfl
      rw [em]
      have hF : F' p = none := by
        cases e : F' p with
        | none => rfl
        | some o =>
          rcases g'.nf p o e with z | z
          · rw [r.sub.non hp] at z; cases z
          · rw [upd_same] at z; cases z
      have hA : p ∉ as' := fun m => by
        rcases g'.na p m with z | z
        · exact hpa z
        · rw [upd_same] at z; cases z
      have hb : B.H p = none := r.grw.tr p hp
      have ne : ∀ a, (∃ u, F' a = some u) → a ≠ p := fun a ⟨u, hu⟩ e => by rw [e, hF] at hu; cases hu
      have g2 : Grw F as H F' as' (upd H' p (.dK kvs)) := {
        fz := g'.fz
        pr := g'.pr
        kp := fun a u e m => by
          rw [upd_ne (ne_of_none e hp)]
          exact g'.kp a u (by rw [upd_ne (ne_of_none e hp)]; exact e) m
        nf := fun a u e => by
          rcases g'.nf a u e with z | z
          · exact .inl z
          · refine .inr ?_
            by_cases h : a = p
            · subst h; exact hp
            · rw [upd_ne h] at z; exact z
        na := fun a e => by
          rcases g'.na a e with z | z
          · exact .inl z
          · refine .inr ?_
            by_cases h : a = p
            · subst h; exact hp
            · rw [upd_ne h] at z; exact z
        tr := fun a e => by
          by_cases h : a = p
          · subst h; exact hp
          · rw [upd_ne h] at e
            have := g'.tr a e
            rw [upd_ne h] at this
            exact this }
      have r2 : SR X.K Q B S F' as' ρ w' σ (upd H' p (.dK kvs)) := r.step g2 (fun a u e => by rw [upd_ne (ne a ⟨u, e⟩)]; exact r'.sub a u e) ⟨r'.wld.len, r'.wld.nd, fun m d a e1 e2 => by
        obtain ⟨z1, o, z2, z3⟩ := r'.wld.at_ m d a e1 e2
        have : a ≠ p := fun e => hA (e ▸ List.mem_of_getElem? e2)
        exact ⟨z1, o, by rw [upd_ne this]; exact z2, z3⟩, r'.wld.sc⟩
      exact q rfl p (.dK kvs) F' as' _ g2 r2 hp hF hA upd_same ⟨kvs, rfl, hkv, rl⟩
end
end MP

set_option Elab.async false
set_option linter.all false
set_option maxRecDepth 100000
/-! MPA3: list.index, repr(x) == repr(y). -/
namespace MP
open PySem PySem.Spec PyProof.Rows L2
section
variable {Q : Cls} {T : Tb} {C : CallF} {S S' S1 L : List Nat} {X : Cx} {N : List Str} {sc : Scope} {k : Nat} {n : Nm} {e a b c tg : Expr} {es : List Expr} {ca cb cc : CE} {cs : List CE} {pos p apos spos : Pos} {x y z : Str}
theorem idxOfS_ok {s : List Nat} : ∀ {zs : List (List Nat)} {k0 : Nat} {d : D}, bmD.idxOfS s k0 zs = some d → ∃ j, d = .int ((k0 + j : Nat) : Int) ∧ zs[j]? = some s ∧ ∀ m z, m < j → zs[m]? = some z → z ≠ s
  | [], k0, d, h => by cases h
  | x :: xs, k0, d, h => by
    have h' : (if x = s then some (D.int k0) else bmD.idxOfS s (k0 + 1) xs) = some d := h
    split at h'
    · rename_i e
      cases h'
      exact ⟨0, by simp, by simp [e], fun m z hm => by omega⟩
    · rename_i ne
      obtain ⟨j, rfl, h1, h2⟩ := idxOfS_ok h'
      refine ⟨j + 1, by rw [show k0 + 1 + j = k0 + (j + 1) by omega], by simpa using h1, fun m z hm hz => ?_⟩
      cases m with
      | zero =>
        simp at hz
        rw [← hz]
        exact ne
      | succ m => exact h2 m z (by omega) (by simpa using hz)
/-- xs.index(a text), a list of texts -/
theorem snd_index {o : Expr} (hb : baseOk o = true) (hs : noStar a = true) (hline : (apos.endLine == pos.line) = true) (ho : PE X o (tO X.K Q T C S ca)) (ha : PE X a (tE X.K Q T C S cb)) :
    PE X (.Call (.Attribute o "index" apos) [a] [] pos) (tE X.K Q T C S (.bm .index ca [cb])) :=
  (one_bm F.plainAttrs_list F.slot_list_index F.type_list_index mt_index hb hs hline ho ha).imp fun σ H Z ⟨B, F, as, ρ, w, d, w', r, he, q⟩ => by
    obtain ⟨d1, w1, e1, he1⟩ := R.bind_ok (show (ev T C ca ρ w).bind _ = .ok d w' from he)
    obtain ⟨ds, w2, e2, he2⟩ := R.bind_ok he1
    obtain ⟨d2, w3, e3, e4⟩ := R.bind_ok (show (ev T C cb ρ w1).bind _ = .ok ds w2 from e2)
    cases (show R.ok [d2] w3 = .ok ds w2 from e4)
    obtain ⟨he3, rfl⟩ := ofO_ok he2
    cases d1 <;> cases d2 <;> simp only [bmD, reduceCtorEq] at he3
    rename_i xs s
    obtain ⟨zs, hz, hi⟩ := Option.bind_eq_some_iff.mp he3
    obtain ⟨j, rfl, h1, h2⟩ := idxOfS_ok hi
    refine ⟨B, F, as, ρ, w, _, w1, r, e1, fun v F1 as1 H1 g1 r1 o1 => ?_⟩
    obtain ⟨ad, ys, rfl, t1, t2⟩ := (o1.top r1).lst_
    refine ⟨.inl ⟨rfl, ys, .inl (.inl t1)⟩, B, F1, as1, ρ, w1, _, _, r1, e3, fun u F2 as2 H2 g2 r2 o2 => ?_⟩
    simp only [Rep] at o2
    obtain ⟨rfl, hs2⟩ := o2
    obtain ⟨ad', ys', e0, t3, t4⟩ := ((o1.mono g2.fz g2.pr).top r2).lst_
    cases e0
    obtain ⟨rfl, _⟩ := repL_strs t4 hz
    refine ⟨ad, _, .str (toS s), j, .str (toS s), rfl, rfl, .inl (.inl t3), rfl, ?_, ?_, ?_, fun m z' hm hz' => ?_, ?_⟩
    · exact List.all_eq_true.mpr fun v hv => by
        obtain ⟨t, _, rfl⟩ := List.mem_map.mp hv
        rfl
    · rw [List.getElem?_map, List.getElem?_map, h1]; rfl
    · show (toS s == toS s) = true
      exact beq_self_eq_true _
    · rw [List.getElem?_map, List.getElem?_map] at hz'
      cases e6 : zs[m]? with
      | none => rw [e6] at hz'; cases hz'
      | some t =>
        rw [e6] at hz'
        cases hz'
        show (toS t == toS s) = false
        exact beq_eq_false_iff_ne.mpr fun e => h2 m t hm e6 (toS_inj e)
    · exact q _ F2 as2 H2 (g1.trans g2) r2 (by simp only [Rep, Nat.zero_add])
/-! ### repr -/
mutual
theorem same_eq : ∀ (a b : D), same a b = true → a = b
  | .non, b, h => by cases b <;> first | rfl | cases h
  | .bl x, b, h => by
    cases b <;> simp only [same, Bool.false_eq_true, beq_iff_eq] at h
    rw [h]
  | .int x, b, h => by
    cases b <;> simp only [same, Bool.false_eq_true, decide_eq_true_eq] at h
    rw [h]
  | .str x, b, h => by
    cases b <;> simp only [same, Bool.false_eq_true, decide_eq_true_eq] at h
    rw [h]
  | .tup x, b, h => by
    cases b <;> simp only [same, Bool.false_eq_true] at h
    rw [sames_eq _ _ h]
  | .lst x, b, h => by
    cases b <;> simp only [same, Bool.false_eq_true] at h
    rw [sames_eq _ _ h]
  | .dct _ _, b, h | .ins _ _, b, h | .obj _, b, h | .ext _, b, h => by cases b <;> cases h
theorem sames_eq : ∀ (a b : List D), sames a b = true → a = b
  | [], b, h => by cases b <;> first | rfl | cases h
  | x :: xs, b, h => by
    cases b <;> simp only [sames, Bool.false_eq_true, Bool.and_eq_true] at h
    rw [same_eq _ _ h.1, sames_eq _ _ h.2]
end
theorem strI_len {i : Int} (h : i.natAbs < 2 ^ 1900) : (strI i).length ≤ 600 := by
  have e1 : ∀ m : Nat, digitsN m = TL.numL m := fun m => by
    have a := digits_eq m
    have b := TL.tl_num m
    rw [a, ← b, Str.ofString_eq_toList]
    rfl
  have e2 : (digitsN i.natAbs).length ≤ 572 := by
    rw [e1]
    exact TL.numL_len (by omega) (Nat.lt_trans h (by decide +kernel))
  unfold strI
  split
  · rw [List.length_cons]; omega
  · omega
theorem joined_len (ts : List Str) : (Str.join ", " ts).length ≤ piled ts := by
  by_cases h : ts = []
  · subst h; exact Nat.le_refl 0
  · have := join_length_add ts h; omega
theorem list_len {ts : List Str} {n : Nat} (h : piled ts ≤ n) : (listText ts).length ≤ n + 2 := by
  unfold listText
  rw [strLen_append]
  have e1 : (("]" : String) : Str).length = 1 := rfl
  cases ts with
  | nil => exact Nat.le_trans (show 2 ≤ 2 by omega) (by omega)
  | cons t ts =>
    show (textFrom 1 (("[" : Str) ++ ("" : String) ++ t) ts).length + _ ≤ _
    rw [textFrom_length_pos _ _ _ (by omega), strLen_append, strLen_append]
    have e2 : (("[" : String) : Str).length = 1 := rfl
    have e4 : (("" : String) : Str).length = 0 := rfl
    rw [piled_cons] at h
    omega
mutual
theorem shown_le : ∀ (d : D) (m : Nat), rpB d = some m → (∀ (F : Hp) (as : List Addr) (K : PySem.W.Frag) (Q : Cls) (v : V), Rep K Q F as d v → (toP d).shown.length ≤ m) ∧ (toP d).showable = true ∧ (toP d).hasDict = false
  | .non, m, h => by
    cases h
    exact ⟨fun _ _ _ _ _ _ => by decide, rfl, rfl⟩
  | .bl b, m, h => by
    cases h
    exact ⟨fun _ _ _ _ _ _ => by cases b <;> decide, rfl, rfl⟩
  | .int i, m, h => by
    simp only [rpB, Option.ite_none_right_eq_some, Option.some.injEq] at h
    obtain ⟨hi, rfl⟩ := h
    refine ⟨fun _ _ _ _ _ _ => ?_, ?_, rfl⟩
    · show (Str.ofString (toString i)).length ≤ 600
      rw [← strI_eq, toS_length]
      exact strI_len hi
    · show decide (i.natAbs.log2 < 1920) = true
      refine decide_eq_true ?_
      by_cases h0 : i.natAbs = 0
      · rw [h0]; decide
      · exact Nat.lt_of_lt_of_le ((Nat.log2_lt h0).mpr hi) (by omega)
  | .str s, m, h => by
    cases h
    refine ⟨fun F as K Q v hv => ?_, rfl, rfl⟩
    simp only [Rep] at hv
    show (reprText (toS s)).length ≤ 10 * s.length + 2
    have := StrLaws.reprText_len (toS s) fun c hc => by
      rw [toS_toList] at hc
      have := hv.2 c hc
      omega
    rwa [toS_length] at this
  | .tup ds, m, h => by
    obtain ⟨n, hn, rfl⟩ := Option.map_eq_some_iff.mp (show (rpBs ds).map (· + 3) = some m from h)
    obtain ⟨h1, h2, h3⟩ := showns_le ds n hn
    refine ⟨fun F as K Q v hv => ?_, h2, h3⟩
    simp only [Rep] at hv
    obtain ⟨a, xs, _, _, rl⟩ := hv
    have := h1 F as K Q xs rl
    have j := joined_len (PyData.shownAll (toPs ds))
    show (tupleText (PyData.shownAll (toPs ds))).length ≤ n + 3
    unfold tupleText
    rw [strLen_append, strLen_append]
    have e1 : (("(" : String) : Str).length = 1 := rfl
    have e2 : ∀ b : Bool, (((if b then ",)" else ")" : String)) : Str).length ≤ 2 := fun b => by cases b <;> decide
    have e3 := e2 ((PyData.shownAll (toPs ds)).length == 1)
    omega
  | .lst ds, m, h => by
    obtain ⟨n, hn, rfl⟩ := Option.map_eq_some_iff.mp (show (rpBs ds).map (· + 2) = some m from h)
    obtain ⟨h1, h2, h3⟩ := showns_le ds n hn
    refine ⟨fun F as K Q v hv => ?_, h2, h3⟩
    simp only [Rep] at hv
    obtain ⟨a, xs, _, _, rl⟩ := hv
    have := h1 F as K Q xs rl
    show (listText (PyData.shownAll (toPs ds))).length ≤ n + 2
    exact list_len this
  | .dct _ _, m, h | .ins _ _, m, h | .obj _, m, h | .ext _, m, h => by cases h
theorem showns_le : ∀ (ds : List D) (m : Nat), rpBs ds = some m → (∀ (F : Hp) (as : List Addr) (K : PySem.W.Frag) (Q : Cls) (xs : List V), RepL K Q F as ds xs → piled (PyData.shownAll (toPs ds)) ≤ m) ∧ PyData.showableAll (toPs ds) = true ∧ PyData.hasDictAll (toPs ds) = false
  | [], m, h => by
    cases h
    exact ⟨fun _ _ _ _ _ _ => Nat.le_refl 0, rfl, rfl⟩
  | d :: ds, m, h => by
    have h' : (match rpB d, rpBs ds with
      | some a, some b => some (a + b + 2)
      | _, _ => none) = some m := h
    cases ea : rpB d with
    | none => rw [ea] at h'; cases h'
    | some a =>
      cases eb : rpBs ds with
      | none => rw [ea, eb] at h'; cases h'
      | some b =>
        rw [ea, eb] at h'
        cases h'
        obtain ⟨h1, h2, h3⟩ := shown_le d a ea
        obtain ⟨t1, t2, t3⟩ := showns_le ds b eb
        refine ⟨fun F as K Q xs rl => ?_, ?_, ?_⟩
        · simp only [RepL] at rl
          obtain ⟨v, vs, _, r, rs⟩ := rl
          have u1 := h1 F as K Q v r
          have u2 := t1 F as K Q vs rs
          show piled ((toP d).shown :: PyData.shownAll (toPs ds)) ≤ _
          rw [piled_cons]
          omega
        · show ((toP d).showable && PyData.showableAll (toPs ds)) = true
          rw [h2, t2]; rfl
        · show ((toP d).hasDict || PyData.hasDictAll (toPs ds)) = false
          rw [h3, t3]; rfl
end
theorem shown_top {K : PySem.W.Frag} {F H : Hp} {as : List Addr} {v : V} {d : D} {m : Nat} (h : rpB d = some m) (t : Top K Q F as H d v) : (toP d).shown.length ≤ m := by
  have hr := (shown_le d m h).1 F as K Q
  cases d with
  | lst ds =>
    obtain ⟨a, xs, rfl, _, rl⟩ := t.lst_
    obtain ⟨n, hn, rfl⟩ := Option.map_eq_some_iff.mp (show (rpBs ds).map (· + 2) = some m from h)
    have := (showns_le ds n hn).1 F as K Q xs rl
    show (listText (PyData.shownAll (toPs ds))).length ≤ n + 2
    exact list_len this
  | dct _ _ => cases h
  | ins _ _ => cases h
  | _ => exact hr v t
def rRp (K : PySem.W.Frag) : List V → Hp → VK → Prop := fun xs H Z => ∃ u d, xs = [u] ∧ Dp K H u d ∧ d.showable = true ∧ d.hasDict = false ∧ d.depth ≤ 13 ∧ d.shown.length ≤ sizeLine ∧ Z (.str d.shown) H
theorem call_rp (G : Gd X N sc k) : CallR X (.builtin "repr") (rRp X.K) := by
  intro pins s σ H xs us Z I r h
  obtain ⟨u, d, rfl, hd, h1, h2, h3, h4, q⟩ := h
  obtain ⟨v, rfl, rv⟩ := r.one
  obtain ⟨as, rd⟩ := Dp.reads I d u v hd rv
  have hu := G.units
  cases hd with
  | non =>
    cases rv
    exact PySem.P.repr_of_none ⟨.str _, H, I.tok _, ⟨_, rfl⟩, q⟩
  | bl b =>
    cases rv
    exact PySem.P.repr_of_bool ⟨.str _, H, I.tok _, ⟨_, rfl⟩, by cases b <;> exact q⟩
  | int i =>
    obtain ⟨t, rfl⟩ := rv
    exact PySem.P.repr_of_int (of_decide_eq_true h1) ⟨.str _, H, I.tok _, ⟨_, rfl⟩, q⟩
  | str x =>
    obtain ⟨t, rfl⟩ := rv
    exact PySem.P.repr_of_str ⟨.str _, H, I.tok _, ⟨_, rfl⟩, q⟩ h4
  | lst hs ha =>
    cases rv
    exact repr_of_reads' rd h1 (fun z => by rw [h2] at z; cases z) G.guards (by omega) (fun _ _ z => z) (fun h' w tk hk => ⟨.str _, H, I.kept hk, ⟨_, rfl⟩, q⟩) h4
  | tup hs ha =>
    cases rv
    exact repr_of_reads' rd h1 (fun z => by rw [h2] at z; cases z) G.guards (by omega) (fun _ _ z => z) (fun h' w tk hk => ⟨.str _, H, I.kept hk, ⟨_, rfl⟩, q⟩) h4
/-- repr(x) == repr(y) -/
theorem snd_rpeq (G : Gd X N sc k) (GX : GX X n Q T C k) {op : CmpOp} {neg : Bool} {p1 p2 q1 q2 : Pos} (ho : (match op, neg with | .Eq, false => true | .NotEq, true => true | _, _ => false) = true) (hg : isGl sc "repr" = true) (hs : noStar a = true) (hs' : noStar b = true) (ha : PE X a (tO X.K Q T C S ca)) (hb : PE X b (tO X.K Q T C S cb)) :
    PE X (.Compare (.Call (.Name "repr" p1) [a] [] q1) [op] [.Call (.Name "repr" p2) [b] [] q2] pos) (tE X.K Q T C S (.rpeq neg ca cb)) ∧ PT X (.Compare (.Call (.Name "repr" p1) [a] [] q1) [op] [.Call (.Name "repr" p2) [b] [] q2] pos) (tTst X.K Q T C S (.rpeq neg ca cb)) := by
  have r1 := one_blt (p := p1) (pos := q1) G (call_rp G) hg (GX.bi _ (by decide +kernel)) (by decide +kernel) hs ha
  have r2 := one_blt (p := p2) (pos := q2) G (call_rp G) hg (GX.bi _ (by decide +kernel)) (by decide +kernel) hs' hb
  have key : ∀ {r : R2} (h1 : OpR X (compareOp op) r) (h2 : ∀ s H Z, Z (.bl (!neg)) H → r (.str s) (.str s) H Z), PE X (.Compare (.Call (.Name "repr" p1) [a] [] q1) [op] [.Call (.Name "repr" p2) [b] [] q2] pos) (tE X.K Q T C S (.rpeq neg ca cb)) ∧ PT X (.Compare (.Call (.Name "repr" p1) [a] [] q1) [op] [.Call (.Name "repr" p2) [b] [] q2] pos) (tTst X.K Q T C S (.rpeq neg ca cb)) := fun {rr} h1 h2 =>
    have im : ∀ σ H Z, tE X.K Q T C S (.rpeq neg ca cb) σ H Z → tOp rr (tCB (rRp X.K) (tCons (tO X.K Q T C S ca) tNil)) (tCB (rRp X.K) (tCons (tO X.K Q T C S cb) tNil)) σ H Z := fun σ H Z ⟨B, F, as, ρ, w, d, w', sr, he, q⟩ => by
      obtain ⟨d1, w1, e1, he1⟩ := R.bind_ok (show (ev T C ca ρ w).bind _ = .ok d w' from he)
      obtain ⟨d2, w2, e2, he2⟩ := R.bind_ok he1
      obtain ⟨he3, rfl⟩ := ofO_ok he2
      unfold rpeqD at he3
      cases hr : rpB d1 with
      | none => rw [hr] at he3; cases he3
      | some m =>
        simp only [hr, Option.ite_none_right_eq_some, Option.some.injEq] at he3
        obtain ⟨⟨hm, hp, hs⟩, rfl⟩ := he3
        obtain rfl := same_eq _ _ hs
        obtain ⟨_, s2, s3⟩ := shown_le d1 m hr
        have one : ∀ (F1 : Hp) (as1 : List Addr) (H1 : Hp) (v : V) (Z1 : VK), Top X.K Q F1 as1 H1 d1 v → Le F1 H1 → Z1 (.str (toP d1).shown) H1 → rRp X.K [v] H1 Z1 := fun F1 as1 H1 v Z1 t l z => by
          obtain ⟨t1, t2, t3⟩ := dpT_of 11 d1 v hp t l
          exact ⟨v, _, rfl, t1, s2, s3, by omega, Nat.le_trans (shown_top hr t) (bigN_le hm), z⟩
        refine ⟨B, F, as, ρ, w, d1, w1, sr, e1, fun v F1 as1 H1 g1 r1 o1 => ?_⟩
        refine (one F1 as1 H1 v (fun x H2 => tCB (rRp X.K) (tCons (tO X.K Q T C S cb) tNil) σ H2 fun y H3 => rr x y H3 Z) (o1.top r1) r1.sub ?_ : rRp X.K [v] H1 (fun x H2 => tCB (rRp X.K) (tCons (tO X.K Q T C S cb) tNil) σ H2 fun y H3 => rr x y H3 Z))
        refine ⟨B, F1, as1, ρ, w1, d1, _, r1, e2, fun v2 F2 as2 H2 g2 r2 o2 => ?_⟩
        refine (one F2 as2 H2 v2 (fun y H3 => rr (.str (toP d1).shown) y H3 Z) (o2.top r2) r2.sub (h2 _ _ _ ?_) : rRp X.K [v2] H2 (fun y H3 => rr (.str (toP d1).shown) y H3 Z))
        exact q _ F2 as2 H2 (g1.trans g2) r2 (by simp only [Rep])
    ⟨(pe_cmpR h1 r1 r2 (marks_of rfl)).imp im, (pt_cmpR h1 r1 r2 (marks_of rfl)).imp (tst_of im)⟩
  cases op <;> cases neg <;> simp only [Bool.false_eq_true] at ho
  · exact key op_eq fun s H Z z => ⟨rfl, by rw [decide_eq_true rfl]; exact z⟩
  · exact key op_ne fun s H Z z => ⟨rfl, by rw [decide_eq_true rfl]; exact z⟩
end
end MP

set_option Elab.async false
set_option linter.all false
set_option maxRecDepth 100000
/-! MPA4: xs.append(ys.pop(k)); what is written into the world; a new list that the world keeps. -/
namespace MP
open PySem PySem.Spec PyProof.Rows L2
section
variable {Q : Cls} {T : Tb} {C : CallF} {S S' S1 L : List Nat} {X : Cx} {N : List Str} {sc : Scope} {k : Nat} {n : Nm} {e a b c tg : Expr} {es : List Expr} {ca cb cc : CE} {cs : List CE} {pos p apos spos pos2 apos2 : Pos} {x y z : Str}
theorem ixD_lt {n : Nat} {i : Int} {j : Nat} (h : ixD n i = some j) : j < n := (ixN_seq (show ixN n i = some j from h)).2.1
theorem ixD_seq {n : Nat} {i : Int} {j : Nat} (h : ixD n i = some j) : seqIndex? i n = some j := (ixN_seq (show ixN n i = some j from h)).1
theorem RepL.erase {K : PySem.W.Frag} {F : Hp} {as : List Addr} : ∀ {ds : List D} {xs : List V} (j : Nat), RepL K Q F as ds xs → RepL K Q F as (ds.eraseIdx j) (xs.eraseIdx j)
  | [], xs, j, h => by
    simp only [RepL] at h
    subst h
    exact .nil
  | d :: ds, xs, j, h => by
    simp only [RepL] at h
    obtain ⟨v, vs, rfl, r, rs⟩ := h
    cases j with
    | zero => exact rs
    | succ j => exact .cons r (RepL.erase j rs)
/-- xs.append(ys.pop(k)) -/
theorem ss_appop (G : Gd X N sc k) {i j : Nat} {o o2 : Expr} (hi : isSlot N sc i o = true) (hS : i ∈ S) (hj : isSlot N sc j o2 = true) (hS2 : j ∈ S) (hs : noStar e = true) (hline : (apos.endLine == pos.line) = true) (hline2 : (apos2.endLine == pos2.line) = true) (ha : PE X e (tE X.K Q T C S ca)) :
    PS X (.Expr (.Call (.Attribute o "append" apos) [.Call (.Attribute o2 "pop" apos2) [e] [] pos2] [] pos) spos) (tS X.K Q T C S S L (.appop i j ca)) := by
  have hb : baseOk o = true := by obtain ⟨x, p, rfl, _⟩ := isSlot_ok hi; rfl
  have hb2 : baseOk o2 = true := by obtain ⟨x, p, rfl, _⟩ := isSlot_ok hj; rfl
  have hpop := pe_bm (T := "list") (id := "list.pop") F.plainAttrs_list F.slot_list_pop F.type_list_pop (show MtR X "list.pop" rPopAt from mt_popAt) (slot_var G hj) (pa_cons ha pa_nil (starEach_plain hs)) (base_of hb2) (few_of (by simp [hs]) (by decide)) hline2 (starEach_plain hs) rfl
  refine (ps_expr (pe_bm (T := "list") (id := "list.append") F.plainAttrs_list F.slot_list_append F.type_list_append (show MtR X "list.append" rAppend from mt_append) (slot_var G hi) (pa_cons hpop pa_nil rfl) (base_of hb) (few_of rfl (by decide)) hline rfl rfl) rfl).imp fun D σ H ⟨B, F, as, ρ, w, r, w', sr, he, q⟩ => ?_
  obtain ⟨d, w1, e1, e2⟩ := R.bind_ok (show (ev T C ca ρ w).bind _ = .ok r w' from he)
  cases hx : lstAt ρ i with
  | none => simp only [hx] at e2; cases e2
  | some xs =>
    cases hy : lstAt ρ j with
    | none => simp only [hx, hy] at e2; cases e2
    | some ys =>
      cases d <;> simp only [hx, hy, reduceCtorEq] at e2
      rename_i m
      cases hm : ixD ys.length m with
      | none => simp only [hm] at e2; cases e2
      | some m' =>
        cases hym : ys[m']? with
        | none => simp only [hm, hym] at e2; cases e2
        | some y =>
          simp only [hm, hym] at e2
          split at e2
          case isFalse => cases e2
          rename_i hlt
          cases e2
          obtain ⟨hd, ad, vs, h1, h2, h3, h4⟩ := sr.lst hS hx
          obtain ⟨hd2, ad2, vs2, g1, g2, g3, g4⟩ := sr.lst hS2 hy
          refine ⟨.ref ad, h1, .inl ⟨rfl, vs, .inl (.inl h2)⟩, .ref ad2, g1, .inl ⟨rfl, vs2, .inl (.inl g2)⟩, B, F, as, ρ, w, _, _, sr, e1, fun u F' as' H' g r' ru => ?_⟩
          simp only [Rep] at ru
          subst ru
          have k2 := g.kp ad2 _ g2 g4
          have k3 := g3.mono g.fz g.pr
          obtain ⟨yv, hyv, ry⟩ := k3.get hym
          have hl2 : vs2.length = ys.length := g3.length
          have hlen : ys.length ≤ 16777216 := hlt.2.2
          have hml := ixD_lt hm
          have hmb : -(ys.length : Int) ≤ m ∧ m < ys.length := (ixN_seq (show ixN _ _ = _ from hm)).2.2
          refine ⟨ad2, vs2, m, m', yv, rfl, rfl, k2, by omega, by omega, by rw [hl2]; exact ixD_seq hm, hyv, ?_⟩
          have s1 := r'.wr (d' := .lst (ys.eraseIdx m')) (o' := .lst (vs2.eraseIdx m')) hS2 hd2 g1 (by simp only [ORep]; exact ⟨_, rfl, k3.erase m'⟩)
          have hx' : lstAt (ρ.set j (some (.lst (ys.eraseIdx m')))) i = some xs := by
            unfold lstAt at hx ⊢
            rw [getD_set, if_neg (fun z => hlt.1 z.1.symm)]
            exact hx
          obtain ⟨hd3, ad3, vs3, t1, t2, t3, t4⟩ := s1.lst hS hx'
          rw [h1] at t1
          cases t1
          refine ⟨ad, vs3, yv, rfl, rfl, t2, by rw [t3.length, sizeLine_eq]; exact hlt.2.1, ?_⟩
          exact q F' as' σ _ g.fz g.pr (s1.wr hS hd3 h1 (by simp only [ORep]; exact ⟨_, rfl, t3.append (.cons ry .nil)⟩))
/-! ### the world -/
theorem WR.put {K : PySem.W.Frag} {F H : Hp} {as : List Addr} {w : Wd} (r : WR K Q F as w H) {m : Nat} {a : Addr} {d : D} {o : HO} (hm : as[m]? = some a) (ho : ORep K Q F as d o) : WR K Q F as (w.set m d) (upd H a o) where
  len := by rw [List.length_set]; exact r.len
  nd := r.nd
  at_ := fun i d' b e1 e2 => by
    by_cases z : m = i
    · subst z
      rw [hm] at e2
      cases e2
      have hl : m < w.length := by rw [← r.len]; exact (List.getElem?_eq_some_iff.mp hm).1
      rw [List.getElem?_set_self hl] at e1
      cases e1
      obtain ⟨f, _⟩ := r.there (List.mem_of_getElem? hm)
      exact ⟨f, o, upd_same, ho⟩
    · rw [List.getElem?_set_ne z] at e1
      obtain ⟨f, u, h1, h2⟩ := r.at_ i d' b e1 e2
      have ne : b ≠ a := fun e => by
        subst e
        have h3 := List.getElem?_eq_some_iff.mp hm
        have h4 := List.getElem?_eq_some_iff.mp e2
        obtain ⟨l3, e3⟩ := h3
        obtain ⟨l4, e4⟩ := h4
        exact z ((List.getElem_inj r.nd).mp (e3.trans e4.symm))
      exact ⟨f, u, by rw [upd_ne ne]; exact h1, h2⟩
  sc := r.sc
theorem Grw.put {F H : Hp} {as : List Addr} {a : Addr} {o o' : HO} (ha : a ∈ as) (ho : H a = some o') : Grw F as H F as (upd H a o) where
  fz := Le.rfl'
  pr := Pre.rfl'
  kp := fun b u e n => by
    rw [upd_ne (show b ≠ a from fun z => n (by rw [z]; exact ha))]
    exact e
  nf := fun _ _ e => .inl e
  na := fun _ h => .inl h
  tr := fun b e => by
    by_cases h : b = a
    · subst h; rw [upd_same] at e; cases e
    · rw [upd_ne h] at e; exact e
theorem SR.world {K : PySem.W.Frag} {B : Bs} {F H : Hp} {as : List Addr} {ρ : En} {w : Wd} {σ : L2.St} (r : SR K Q B S F as ρ w σ H) {m : Nat} {a : Addr} {d : D} {o o' : HO} (hm : as[m]? = some a) (ho' : H a = some o') (ho : ORep K Q F as d o) : SR K Q B S F as ρ (w.set m d) σ (upd H a o) := by
  have hmem := List.mem_of_getElem? hm
  obtain ⟨f, _⟩ := r.wld.there hmem
  exact r.step (Grw.put hmem ho') (fun b u e => by rw [upd_ne (fun z => by rw [z, f] at e; cases e)]; exact r.sub b u e) (r.wld.put hm ho)
/-- o[k] = e, o in the world -/
theorem ss_setw (G : Gd X N sc k) {i : Nat} {o : Expr} {p2 : Pos} (hi : isSlot N sc i o = true) (hS : i ∉ S) (hpl : plainIx a = true) (ha : PE X a (tE X.K Q T C S ca)) (he : PE X e (tE X.K Q T C S cb)) :
    PS X (.Assign [.Subscript o a spos] e p2) (tS X.K Q T C S S L (.setw i ca cb)) :=
  (ps_asg he (pg_sub (slot_var G hi) ha (set2 G) (by
    obtain ⟨x, p, rfl, _⟩ := isSlot_ok hi
    intro v
    cases a <;> first | rfl | cases hpl)) (sw_sub : swapsWith e (some (.Subscript o a spos)) p2.line X.env = pure false) sws_sub rfl).imp fun D σ H ⟨B, F, as, ρ, w, r, w', sr, hev, q⟩ => by
    obtain ⟨d, w1, e1, e2⟩ := R.bind_ok (show (ev T C cb ρ w).bind _ = .ok r w' from hev)
    obtain ⟨j, w2, e3, e4⟩ := R.bind_ok e2
    refine ⟨B, F, as, ρ, w, d, w1, sr, e1, fun v F1 as1 H1 g1 r1 rv => ?_⟩
    cases hx : ρ.getD i none with
    | none => simp only [hx] at e4; cases e4
    | some dx =>
      cases dx <;> simp only [hx, reduceCtorEq] at e4
      rename_i m
      cases j <;> simp only [reduceCtorEq] at e4
      rename_i z
      cases hw : w2[m]? with
      | none => simp only [hw, reduceCtorEq] at e4
      | some dw =>
        cases dw <;> simp only [hw, reduceCtorEq] at e4
        rename_i xs
        cases hz : ixD xs.length z with
        | none => simp only [hz, reduceCtorEq] at e4
        | some m' =>
          simp only [hz] at e4
          cases e4
          obtain ⟨vo, hvo, ro⟩ := r1.frz i _ hx hS
          simp only [Rep] at ro
          obtain ⟨ad, had, rfl⟩ := ro
          refine ⟨.ref ad, hvo, B, F1, as1, ρ, w1, .int z, _, r1, e3, fun u F2 as2 H2 g2 r2 ru => ?_⟩
          simp only [Rep] at ru
          subst ru
          have had2 := g2.pr.get had
          obtain ⟨f, ob, h1, h2⟩ := r2.wld.at_ m _ ad hw had2
          simp only [ORep] at h2
          obtain ⟨vs, rfl, h7⟩ := h2
          refine .inl ⟨ad, vs, z, m', rfl, rfl, h1, by rw [h7.length]; exact hz, ?_⟩
          exact q F2 as2 σ _ (g1.fz.trans g2.fz) (g1.pr.trans g2.pr) (r2.world had2 h1 (by simp only [ORep]; exact ⟨_, rfl, h7.set (rv.mono g2.fz g2.pr) m'⟩))
/-- return [..], the world keeps the list -/
theorem ss_retw (ha : PE X e (tN X.K Q T C S ca)) : PS X (.Return (some e) pos) (tS X.K Q T C S S' L (.retw ca)) := (ps_ret ha).imp fun D σ H ⟨B, F, as, ρ, w, r, w', sr, he, q⟩ => by
  obtain ⟨d, w1, e1, e2⟩ := R.bind_ok (show (ev T C ca ρ w).bind _ = .ok r w' from he)
  cases d <;> simp only [reduceCtorEq] at e2
  rename_i xs
  cases e2
  refine ⟨B, F, as, ρ, w, _, _, sr, e1, fun _ p o F' as' H' g r' hp hf hA ho rep => ?_⟩
  have pre : Pre as' (as' ++ [p]) := ⟨[p], rfl⟩
  have hb : B.H p = none := sr.grw.tr p hp
  have noP : ∀ i, i ∈ S → (ρ.getD i none).isSome → σ[i]? ≠ some (some (V.ref p)) := fun i hi' hs' e => by
    obtain ⟨d', hd'⟩ := Option.isSome_iff_exists.mp hs'
    obtain ⟨a, u, z1, z2, z3, z4, z5, z6⟩ := sr.own i d' hd' hi'
    rw [e] at z1
    cases z1
    rw [hp] at z4
    cases z4
  have r2 : SR X.K Q B S F' (as' ++ [p]) ρ (w1 ++ [MP.D.lst xs]) σ H' := {
    sub := r'.sub
    grw := ⟨r'.grw.fz, r'.grw.pr.trans pre, r'.grw.kp, r'.grw.nf, fun a m => by
      rcases List.mem_append.mp m with z | z
      · exact r'.grw.na a z
      · rw [List.mem_singleton.mp z]; exact .inr hb, r'.grw.tr⟩
    len := r'.len
    frz := fun i d' e' n' => by
      obtain ⟨v, h1, h2⟩ := r'.frz i d' e' n'
      exact ⟨v, h1, h2.mono Le.rfl' pre⟩
    own := fun i d' e' n' => by
      obtain ⟨a, u, h1, h2, h3, h4, h5, h6⟩ := r'.own i d' e' n'
      refine ⟨a, u, h1, h2, fun m => ?_, h4, h5, h6.mono Le.rfl' pre⟩
      rcases List.mem_append.mp m with z | z
      · exact h3 z
      · rw [List.mem_singleton.mp z] at h1
        exact noP i n' (by rw [e']; rfl) h1
    dis := r'.dis
    wld := ⟨by rw [List.length_append, List.length_append, r'.wld.len]; rfl, by
      rw [List.nodup_append]
      exact ⟨r'.wld.nd, by simp, fun a h1 b h2 e => hA (by rw [List.mem_singleton.mp h2] at e; exact e ▸ h1)⟩, fun m d' a h1 h2 => by
      by_cases hl : m < w1.length
      · rw [List.getElem?_append_left hl] at h1
        rw [List.getElem?_append_left (by rw [r'.wld.len]; exact hl)] at h2
        obtain ⟨f, u, h3, h4⟩ := r'.wld.at_ m d' a h1 h2
        exact ⟨f, u, h3, h4.mono Le.rfl' pre⟩
      · rw [List.getElem?_append_right (by omega)] at h1
        rw [List.getElem?_append_right (by rw [r'.wld.len]; omega)] at h2
        rw [r'.wld.len] at h2
        have hz : m - w1.length = 0 := by
          have := (List.getElem?_eq_some_iff.mp h1).1
          simpa using this
        rw [hz] at h1 h2
        simp at h1 h2
        subst h1 h2
        exact ⟨hf, o, ho, rep.mono Le.rfl' pre⟩, r'.wld.sc⟩
    pin := r'.pin }
  refine q (.ref p) F' (as' ++ [p]) ρ σ S H' r2 ?_
  simp only [Rep]
  exact ⟨p, by rw [← r'.wld.len]; simp, rfl⟩
end
end MP

set_option Elab.async false
set_option linter.all false
set_option maxRecDepth 100000
/-! MPA5: *names, a, b = a list. -/
namespace MP
open PySem PySem.Spec PyProof.Rows L2
def gStar (K : PySem.W.Frag) (m : Nat) (t : TGs) : TG := fun v σ H Z => ∃ a xs, v = .ref a ∧ SqL K H a xs ∧ m ≤ xs.length ∧ ∀ p, H p = none → t (.ref p :: xs.drop (xs.length - m)) σ (upd H p (.lst (xs.take (xs.length - m)))) Z
theorem pg_star {X : Cx} {t0 : Expr} {es : List Expr} {kk : Nat} {pos sp : Pos} {t : TGs} (hc : X.calm = true) (h : PGs X (t0 :: es) t) (h0 : assignEach (t0 :: es) X.env = (false, assign t0 X.env) :: assignEach es X.env) (hl : (assignEach es X.env).length = es.length) : PG X (.Tuple (.Starred t0 sp :: es) kk pos) (gStar X.K es.length t) := by
  refine ⟨fun pins s σ H v u Z I r hw => ?_⟩
  obtain ⟨a, xs, rfl, hq, hm, hw⟩ := hw
  cases r
  obtain ⟨its, rv, pl, hz⟩ := I.list hq
  have hL : s.heap.IsList a its.toArray := pl.isList
  have hlt : a < s.heap.objs.size := by obtain ⟨o, z, _⟩ := id hL; exact Heap.lt_size z
  have hxl := rv.length
  have e0 : assignEach (.Starred t0 sp :: es) X.env = (true, assign t0 X.env) :: assignEach es X.env := rfl
  rw [PyProof.Rows.assign_Tuple]
  refine wpAny_bind (wpAny_standAt ?_)
  unfold unpack
  rw [e0]
  have e1 : ((true, assign t0 X.env) :: assignEach es X.env).findIdx? (·.1) = some 0 := by simp [List.findIdx?_cons]
  rw [e1, List.length_cons, hl]
  have e2 : (((true, assign t0 X.env) :: assignEach es X.env).map (·.2)) = (assignEach (t0 :: es) X.env).map (·.2) := by rw [h0]; rfl
  rw [e2]
  refine wpAny_bind (wpAny_holding ?_)
  unfold unpackItems
  refine wpAny_bind ?_
  unfold notIterableAtAll
  refine wpAny_bind (wpAny_specialOf hL.typeIs slot_list_iter.lookup ?_)
  refine wpAny_pure ?_
  simp only [Bool.false_eq_true, if_false]
  refine wpAny_bind (wpAny_holding (wpAny_pyIter_list hL ?_))
  refine wpAny_bind (wpAny_holding ?_)
  show wpAny _ _ (pure ([] : List Value)) _ _ _
  refine wpAny_pure ?_
  simp only [List.length_nil, Nat.lt_irrefl, if_false]
  have hne : a ≠ s.heap.objs.size := Nat.ne_of_lt hlt
  have hh : X.A.in1.handled = none := by simp [I.ok.hd hc]
  refine wpAny_bind (wpAny_holding ?_)
  refine wpAny_collect_iter (T := "list_iterator") (.inr (.inr (.inl rfl))) ((Walks.list hh s.heap.objs.size a hne its.toArray).toS) (fun i s1 st => ⟨_, st.1.choose_spec.1, st.1.choose_spec.2.1⟩) ⟨⟨_, Heap.get?_push_size _ rfl, rfl, rfl⟩, hL.push _⟩ (fun b hb => ?_) (by simp) (fun s1 acc hmv hacc => ?_) (by rw [List.size_toArray, ← hxl]; exact hz)
  · simp only [List.mem_cons, List.not_mem_nil, or_false] at hb
    show b < (s.heap.push _).objs.size
    rw [Heap.size_push]
    rcases hb with rfl | rfl
    · exact Nat.lt_succ_self _
    · exact Nat.lt_succ_of_lt hlt
  have hacc2 : acc.toList = its := by
    refine List.ext_getElem? fun j => ?_
    cases e3 : acc.toList[j]? with
    | some v =>
      have : acc[j]? = some v := by simpa using e3
      have := hacc.2 j v this
      have : its[j]? = some v := by simpa using this
      rw [this]
    | none =>
      have l1 := List.getElem?_eq_none_iff.mp e3
      have l2 : acc.toList.length = its.length := by rw [Array.length_toList, hacc.1, List.size_toArray]
      rw [List.getElem?_eq_none (by omega)]
  rw [hacc2]
  have key : ∀ b o, s.heap.get? b = some o → s1.heap.get? b = some o := fun b o e => hmv.heap b o (by
    simp only [List.mem_singleton]
    exact Nat.ne_of_lt (Heap.lt_size e)) (Heap.get?_push_of_some _ e)
  have I1 : Inv X pins σ H s1 := by
    have := I.kept (h' := s1.heap) (t' := s1.toks) key
    have es : s1 = { s with heap := s1.heap, toks := s1.toks } := by
      obtain ⟨h1, g1, d1, t1, o1⟩ := s1
      have a1 : g1 = s.gens := hmv.gens
      have a2 : d1 = s.drawn := hmv.drawn
      have a3 : o1 = s.os := hmv.os
      rw [a1, a2, a3]
    rw [es]
    exact this
  have ha1 : its.length = xs.length := hxl.symm
  have hb1 : ¬ its.length < es.length := by omega
  simp only [Nat.add_sub_cancel, Nat.sub_zero]
  rw [if_neg hb1]
  simp only [List.nil_append]
  refine wpAny_bind (wpAny_newList ?_ (by rw [List.length_take]; omega))
  refine wpAny_pure ?_
  have hp : H s1.heap.objs.size = none := I1.hok.fresh (Nat.le_refl _)
  have rt : Vals (xs.take (xs.length - es.length)) (its.take (its.length - es.length)) := by rw [ha1]; exact rv.take _
  have rd : Vals (xs.drop (xs.length - es.length)) (its.drop (its.length - es.length)) := by rw [ha1]; exact rv.drop _
  have I2 : Inv X pins σ (upd H s1.heap.objs.size (.lst (xs.take (xs.length - es.length)))) { s1 with heap := s1.heap.push { cls := .type "list", data := .seq (its.take (its.length - es.length)).toArray } } :=
    I1.laid (t' := s1.toks) (fun b u e => Heap.get?_push_of_some _ e) (Nat.le_refl _) ⟨by rw [List.length_take]; omega, its.take (its.length - es.length), 0, rt, Heap.get?_push_size _ rfl⟩
  exact h.run pins _ σ _ _ _ Z I2 (.cons (show RelV (.ref s1.heap.objs.size) (.ref s1.heap.objs.size) from rfl) rd) (hw _ hp)
section
variable {Q : Cls} {T : Tb} {C : CallF} {S S' S1 L : List Nat} {X : Cx} {N : List Str} {sc : Scope} {k : Nat} {n : Nm} {e a b c tg : Expr} {es : List Expr} {ca cb cc : CE} {cs : List CE} {pos p apos spos pos2 apos2 : Pos} {x y z : Str}
theorem noStar_len {env : Env} : ∀ {es : List Expr}, (assignEach es env).length = es.length
  | [] => rfl
  | e :: es => by cases e <;> (show (assignEach es env).length + 1 = es.length + 1; rw [noStar_len])
/-- *name, .. = a list -/
theorem ss_sets (G : Gd X N sc k) {t0 : Expr} {i kk : Nat} {sp p2 : Pos} {fl : List Bool} {ps : List Pat} (hs0 : noStar t0 = true) (hl : es.length = ps.length) (hn : noComp e = true) (h : PGs X (t0 :: es) (tGs X.K Q S (.n i :: ps))) (hi : ∀ j ∈ S, j ∉ pslotsL (.n i :: ps))
    (hw : swappedStores [.Tuple (.Starred t0 sp :: es) kk spos] e X.env = pure none) (he : PE X e (tE X.K Q T C S ca)) : PS X (.Assign [.Tuple (.Starred t0 sp :: es) kk spos] e p2) (tS X.K Q T C S S L (.sets (true :: fl) (.n i :: ps) ca)) :=
  (ps_asg he (pg_star (kk := kk) (pos := spos) (sp := sp) G.calm h (by cases t0 <;> first | rfl | cases hs0) noStar_len) (show swapsWith e (some (.Tuple (.Starred t0 sp :: es) kk spos)) p2.line X.env = pure false from sw_no hn) hw rfl).imp fun D σ H ⟨B, F, as, ρ, w, r, w', sr, hev, q⟩ => by
    obtain ⟨d, w1, e1, e2⟩ := R.bind_ok (show (ev T C ca ρ w).bind _ = .ok r w' from hev)
    cases d <;> simp only [reduceCtorEq] at e2
    rename_i xs
    obtain ⟨ρ', w2, e3, e4⟩ := R.bind_ok e2
    obtain ⟨e5, rfl⟩ := ofO_ok e3
    cases e4
    have e6 : (if ps.length ≤ xs.length ∧ fl.all (! ·) = true then bindPs (.n i :: ps) ρ (.lst (xs.take (xs.length - ps.length)) :: xs.drop (xs.length - ps.length)) else none) = some ρ' := e5
    split at e6
    case isFalse => cases e6
    rename_i hle
    refine ⟨B, F, as, ρ, w, _, _, sr, e1, fun v F' as' H' g r' rv => ?_⟩
    simp only [Rep] at rv
    obtain ⟨ad, vs, rfl, h1, h2⟩ := rv
    have hvl := h2.length
    refine ⟨ad, vs, rfl, .inl (.inl (r'.sub _ _ h1)), by omega, fun p hp => ?_⟩
    have hF := r'.sub.non hp
    have el : vs.length - es.length = xs.length - ps.length := by omega
    rw [el]
    have m := h2.mono (Le.upd (F := F') (p := p) (o := .lst (vs.take (xs.length - ps.length))) hF) (Pre.rfl' (as := as'))
    refine ⟨B, upd F' p (.lst (vs.take (xs.length - ps.length))), as', ρ, _, _, ρ', r'.newF hp, ?_, e6, fun σ' sr' _ => ?_⟩
    · refine .cons ?_ (m.drop _)
      simp only [Rep]
      exact ⟨p, _, rfl, upd_same, m.take _⟩
    · exact q _ as' σ' _ (g.fz.trans (Le.upd hF)) g.pr sr'
end
end MP

set_option Elab.async false
set_option linter.all false
set_option maxRecDepth 100000
/-! MPA6: len(set(a list of texts)), of any length below 4000. -/
namespace MP
open PySem PySem.Spec PyProof.Rows L2
/-- how many unlike ones -/
def cntT : List Str → List Str → Nat
  | _, [] => 0
  | seen, x :: xs => if x ∈ seen then cntT seen xs else cntT (x :: seen) xs + 1
theorem cntT_eq : ∀ (zs seen : List (List Nat)), cntT (seen.map toS) (zs.map toS) = cntS seen zs
  | [], seen => rfl
  | z :: zs, seen => by
    have hm : toS z ∈ seen.map toS ↔ z ∈ seen := by
      rw [List.mem_map]
      exact ⟨fun ⟨y, h1, h2⟩ => by rw [← toS_inj h2]; exact h1, fun h => ⟨z, h, rfl⟩⟩
    show (if toS z ∈ seen.map toS then cntT (seen.map toS) (zs.map toS) else cntT (toS z :: seen.map toS) (zs.map toS) + 1) = if z ∈ seen then cntS seen zs else cntS (z :: seen) zs + 1
    by_cases h : z ∈ seen
    · rw [if_pos (hm.mpr h), if_pos h, cntT_eq]
    · rw [if_neg (fun q => h (hm.mp q)), if_neg h, ← cntT_eq zs (z :: seen)]
      rfl
theorem cntT_congr : ∀ (zs a b : List Str), (∀ x, x ∈ a ↔ x ∈ b) → cntT a zs = cntT b zs
  | [], a, b, _ => rfl
  | z :: zs, a, b, h => by
    show (if z ∈ a then cntT a zs else cntT (z :: a) zs + 1) = if z ∈ b then cntT b zs else cntT (z :: b) zs + 1
    by_cases hz : z ∈ a
    · rw [if_pos hz, if_pos ((h z).mp hz), cntT_congr zs a b h]
    · rw [if_neg hz, if_neg (fun q => hz ((h z).mpr q)), cntT_congr zs (z :: a) (z :: b) fun x => by simp [h x]]
theorem cntT_append : ∀ (xs a : List Str) (y : Str), cntT a (xs ++ [y]) = cntT a xs + if y ∈ a ∨ y ∈ xs then 0 else 1
  | [], a, y => by
    show (if y ∈ a then 0 else 0 + 1) = 0 + _
    by_cases h : y ∈ a <;> simp [h]
  | x :: xs, a, y => by
    show (if x ∈ a then cntT a (xs ++ [y]) else cntT (x :: a) (xs ++ [y]) + 1) = (if x ∈ a then cntT a xs else cntT (x :: a) xs + 1) + _
    by_cases h : x ∈ a
    · rw [if_pos h, if_pos h, cntT_append xs a y]
      congr 1
      by_cases h1 : y ∈ a
      · simp [h1]
      · have : y ≠ x := fun e => h1 (e ▸ h)
        simp [h1, this]
    · rw [if_neg h, if_neg h, cntT_append xs (x :: a) y]
      by_cases h1 : y ∈ a <;> by_cases h2 : y = x <;> by_cases h3 : y ∈ xs <;> simp [h1, h2, h3] <;> omega
section
variable {pr : Program} {wd : World} {A : Around} {Rr : Result → Shared → Prop} {it : Addr} {fp wr : List Addr} {G : Array GenState → Array GenState → Prop} {n : Nat} {Pv : Nat → Value → Prop} {St : Nat → Shared → Prop}
theorem text_at : ∀ {us : List Value} {xs : List Str}, StrsAre us xs → ∀ {i : Nat} {v : Value}, us[i]? = some v → ∃ x t, xs[i]? = some x ∧ v = .str x t
  | _, _, .nil, i, v, h => by simp at h
  | _, _, .cons y t r, 0, v, h => by
    simp at h
    exact ⟨y, t, rfl, h.symm⟩
  | _, _, .cons y t r, i + 1, v, h => by
    obtain ⟨x, u, h1, h2⟩ := text_at r (i := i) (by simpa using h)
    exact ⟨x, u, by simpa using h1, h2⟩
/-- the set's loop over texts -/
theorem set_loop (wk : WalksS pr wd A.in1 it fp wr G n Pv St) (sa : Addr) (hsf : sa ∉ fp) (xs : List Str) (hxs : xs.length = n) (h4 : n < 4000) (hv : ∀ i v, Pv i v → ∃ x t, xs[i]? = some x ∧ v = .str x t) :
    ∀ (m i : Nat) (s : Shared), n - i = m → i ≤ n → St i s → s.heap.SetOf (PySem.strKind pr wd) sa (fun y => decide (y ∈ xs.take i)) (cntT [] (xs.take i)) →
      (∀ s', Moved (sa :: wr) G s s' → s'.heap.SetOf (PySem.strKind pr wd) sa (fun y => decide (y ∈ xs)) (cntT [] xs) → Rr (.ok (.ret .none)) s') →
      codeAny (model pr wd) A (.builtin "set.update.loop" ⟨[.ref sa, .ref it], []⟩) Rr s := by
  have hsw : sa ∉ wr := fun z => hsf (wk.sub _ z)
  have hin : ∀ b ∈ wr, b ∈ sa :: wr := fun b z => List.mem_cons_of_mem _ z
  have kept : ∀ {s s' : Shared} {Sx : Str → Bool} {c : Nat}, Moved wr G s s' → s.heap.SetOf (PySem.strKind pr wd) sa Sx c → s'.heap.SetOf (PySem.strKind pr wd) sa Sx c := fun mv hS => by
    obtain ⟨o, es, ep, t, ho, rest⟩ := hS
    exact ⟨o, es, ep, t, mv.heap sa _ hsw ho, rest⟩
  intro m
  induction m with
  | zero =>
    intro i s hm hi hst hS hR
    have hin2 : i = n := by omega
    subst hin2
    refine codeAny_builtin PyProof.Rows.F.entry_set_update_loop ?_
    rw [Around.under_plainId PyProof.Rows.F.plain_set_update_loop _]
    show wpAny _ A.in1 (pyNext (.ref it) >>= _) _ _ s
    refine wpAny_bind (wk.done s _ _ hst fun s' mv => ?_)
    show wpAny _ A.in1 (ret Value.none) _ _ s'
    refine wpAny_pure (hR s' (mv.mono hin) ?_)
    have := kept mv hS
    rwa [← hxs, List.take_length] at this
  | succ m ih =>
    intro i s hm hi hst hS hR
    have hlt : i < n := by omega
    refine codeAny_builtin PyProof.Rows.F.entry_set_update_loop ?_
    rw [Around.under_plainId PyProof.Rows.F.plain_set_update_loop _]
    show wpAny _ A.in1 (pyNext (.ref it) >>= _) _ _ s
    refine wpAny_bind (wk.item i s _ _ hlt hst fun v s' hP hst' mv => ?_)
    obtain ⟨x, t, hx, rfl⟩ := hv i v hP
    have hS' := kept mv hS
    have htk : xs.take (i + 1) = xs.take i ++ [x] := by rw [List.take_add_one, hx]; rfl
    have hcn : ∀ (zs a : List Str), cntT a zs ≤ zs.length := by
      intro zs
      induction zs with
      | nil => exact fun a => Nat.le_refl 0
      | cons z zs ihz =>
        intro a
        show (if z ∈ a then cntT a zs else cntT (z :: a) zs + 1) ≤ zs.length + 1
        split
        · have := ihz a; omega
        · have := ihz (z :: a); omega
    show wpAny _ A.in1 (holding [Value.str x t] (setAdd sa (.str x t)) >>= _) _ _ s'
    refine wpAny_bind (wpAny_holding ?_)
    unfold setAdd
    refine wpAny_holding (wpAny_bind ((PySem.strKind pr wd).pyHash (k := x) (strKind_is _ _ _ _) ?_))
    refine wpAny_setAddHashed_of (knd := PySem.strKind pr wd) (s := { s' with toks := s'.toks + 1 }) (strKind_is _ _ _ _) rfl hS' (by have := hcn (xs.take i) []; rw [List.length_take] at this; unfold scanBound; omega) fun h' hsb hS2 => ?_
    have hSi : h'.SetOf (PySem.strKind pr wd) sa (fun y => decide (y ∈ xs.take (i + 1))) (cntT [] (xs.take (i + 1))) := by
      refine SetOf_congr hS2 (fun y => ?_) ?_
      · rw [htk, Bool.eq_iff_iff]
        simp
      · rw [htk, cntT_append]
        by_cases hq : x ∈ xs.take i
        · simp [hq]
        · simp [hq]
    refine wpAny_pure ⟨plainId_quiet PyProof.Rows.F.plain_set_update_loop _, ih (i + 1) _ (by omega) hlt (wk.frame _ s' _ _ hst' (Nat.le_succ _) fun b hb o e => ?_) hSi fun s2 mv2 hS3 => ?_⟩
    · rw [hsb.2 b (fun z => hsf (by rw [← z]; exact hb))]
      exact e
    · refine hR s2 (Moved.trans wk.gtrans ((mv.mono hin).then_heap (Nat.le_succ _) fun b o hb e => ?_) mv2) hS3
      rw [hsb.2 b (fun z => hb (by rw [z]; exact List.mem_cons_self))]
      exact e
end

section
variable {pr : Program} {wd : World} {A : Around} {E : Value → Shared → Prop} {s : Shared}
def freshSet (led : Bool) : Obj := { cls := .type "set", dict := none, data := .set #[] 0 (.fresh 0 0 led) }
def listIt (l : Addr) : Obj := { cls := .type "list_iterator", data := .fields #[.ref l, .int 0 0] }
set_option maxHeartbeats 3200000 in
/-- set(a list of texts) -/
theorem call_set_texts {l : Addr} {its : Array Value} {xs : List Str} {Z : Value → Shared → Prop} (hh : A.handled = none) (hl : s.heap.IsList l its) (hi : StrsAre its.toList xs) (h4 : xs.length < 4000)
    (fin : ∀ (h' : Heap) (tk : Nat), h'.SetOf (PySem.strKind pr wd) s.heap.objs.size (fun y => decide (y ∈ xs)) (cntT [] xs) → (∀ b o, b < s.heap.objs.size → s.heap.get? b = some o → h'.get? b = some o) → Z (.ref s.heap.objs.size) { s with heap := h', toks := tk }) :
    wpAny (model pr wd) A (PySem.call (.type "set") [.ref l]) Z E s := by
  obtain ⟨c0, tl0, hmro⟩ := PySem.F.called_set.mro
  have g1 := PySem.F.called_set.made
  have g2 := PySem.F.called_set.sub
  have g3 := PySem.F.called_set.notType
  have g4 := PySem.F.called_set.canCreate
  have g5 := PySem.F.typeCall_set_1 (.ref l)
  refine wpAny_call (codeAny_of_tree ?_)
  show wpAny _ _ (callAny (.type "set") _) _ _ _
  refine wpAny_pure ⟨Code.quiet_builtin _ (by decide +kernel), codeAny_builtin PySem.F.entry_type_call ?_⟩
  rw [Around.under_plain (weight_type_call_type "set" [.ref l] []) rfl]
  repeat (any_goals (first | assumption | wp_step))
  refine codeAny_mono (code_set_new_1 (.ref l) (E := E) (Q₁ := fun ob st => ∃ led : Bool, ob = .ref s.heap.objs.size ∧ st = { s with heap := s.heap.push (freshSet led) }) fun led => ⟨led, rfl, rfl⟩) fun r st hr => ?_
  cases r with
  | error e => exact hr
  | ok fl =>
    cases fl with
    | next => exact hr.elim
    | brk => exact hr.elim
    | cont => exact hr.elim
    | ret ob =>
      obtain ⟨led, rfl, rfl⟩ := hr
      have hget : (s.heap.push (freshSet led)).get? s.heap.objs.size = some (freshSet led) := Heap.get?_push_size _ rfl
      have hty : Shared.TypeIs { s with heap := s.heap.push (freshSet led) } (.ref s.heap.objs.size) "set" := ⟨_, hget, rfl⟩
      have k1 := PySem.F.called_set.init.lookup
      have k2 := PySem.F.called_set.init.bind (.ref s.heap.objs.size)
      repeat (any_goals (first | assumption | wp_step))
      refine codeAny_mono (codeAny_call_builtin (R := wants (fun v st => v = .none ∧ ∃ h' tk, st = { s with heap := h', toks := tk } ∧ h'.SetOf (PySem.strKind pr wd) s.heap.objs.size (fun y => decide (y ∈ xs)) (cntT [] xs) ∧
          (∀ b o, b < s.heap.objs.size → s.heap.get? b = some o → h'.get? b = some o)) E) PySem.F.called_set.init.plain PySem.F.entry_set_init (check_set_init_1 hty ?_)) fun r2 st2 hr2 => ?_
      · obtain ⟨⟨oc, od, odt, osl⟩, ho, hc, nn, hd⟩ := hl
        simp only at hc hd
        subst hc hd
        have ho2 : (s.heap.push (freshSet led)).get? l = some { cls := .type "list", dict := od, data := .seq its nn, slots := osl } := Heap.get?_push_of_some _ ho
        have z1 := PySem.F.sub_list_set
        have z2 := PySem.F.sub_list_frozenset
        have z3 : (Value.type "list" == Value.type "dict") = false := by decide
        have hL : (s.heap.push (freshSet led)).IsList l its := ⟨_, ho2, rfl, nn, rfl⟩
        have hls : l < s.heap.objs.size := Heap.lt_size ho
        unfold Builtin.«set.__init__» noKeywords Builtin.Frozenset.updateFrom
        generalize hpi : pyIter = pI
        wp_walk
        subst hpi
        refine wpAny_pyIter_list hL ?_
        refine wpAny_bind (wpAny_runValue ?_)
        have hh3 : A.in1.in1.in1.handled = none := by simp [hh]
        have hz : (s.heap.push (freshSet led)).objs.size = s.heap.objs.size + 1 := Heap.size_push ..
        have hne : l ≠ (s.heap.push (freshSet led)).objs.size := by rw [hz]; exact Nat.ne_of_lt (Nat.lt_succ_of_lt hls)
        have hsf : s.heap.objs.size ∉ [(s.heap.push (freshSet led)).objs.size, l] := by
          rw [hz]
          simp only [List.mem_cons, List.not_mem_nil, or_false, not_or]
          exact ⟨Nat.ne_of_lt (Nat.lt_succ_self _), Nat.ne_of_gt hls⟩
        have hsz : xs.length = its.size := by rw [← StrsAre.len_eq hi, Array.length_toList]
        refine set_loop ((Walks.list hh3 _ l hne its).toS) s.heap.objs.size hsf xs hsz (by omega) (fun i v hv => text_at hi (by rw [Array.getElem?_toList]; exact hv)) (its.size - 0) 0 _ (by omega) (Nat.zero_le _) ⟨⟨_, Heap.get?_push_size _ rfl, rfl, rfl⟩, hL.push _⟩ ?_ fun st3 mv hS => ?_
        · have hg : ((s.heap.push (freshSet led)).push (listIt l)).get? s.heap.objs.size = some (freshSet led) := Heap.get?_push_of_some _ hget
          exact SetOf_congr ((PyProof.Rows.setObjOf_fresh (knd := PySem.strKind pr wd) led).setOf hg (by unfold scanBound; omega)) (fun y => by simp) rfl
        · obtain ⟨h', gg, dd, tk, oo⟩ := st3
          have a1 : gg = s.gens := mv.gens
          have a2 : dd = s.drawn := mv.drawn
          have a3 : oo = s.os := mv.os
          subst a1 a2 a3
          show wpAny _ _ _ _ _ _
          refine wpAny_pure ?_
          show wpAny _ _ (ret Value.none) _ _ _
          refine wpAny_pure ⟨rfl, h', tk, rfl, hS, fun b o hb e => ?_⟩
          refine mv.heap b o ?_ (Heap.get?_push_of_some _ (Heap.get?_push_of_some _ e))
          simp only [List.mem_cons, List.not_mem_nil, or_false, not_or]
          exact ⟨Nat.ne_of_lt hb, by rw [hz]; exact Nat.ne_of_lt (Nat.lt_succ_of_lt hb)⟩
      · cases r2 with
        | error e => exact hr2
        | ok fl2 =>
          cases fl2 with
          | next => exact hr2.elim
          | brk => exact hr2.elim
          | cont => exact hr2.elim
          | ret v =>
            obtain ⟨rfl, h', tk, rfl, hS, hk⟩ := hr2
            repeat (any_goals (first | assumption | wp_step))
            exact fin _ _ hS hk
end
section
variable {Q : Cls} {T : Tb} {C : CallF} {S S' S1 L : List Nat} {X : Cx} {N : List Str} {sc : Scope} {k : Nat} {n : Nm} {e a b c tg : Expr} {es : List Expr} {ca cb cc : CE} {cs : List CE} {pos p apos spos pos2 apos2 : Pos} {x y z : Str}
def tLens (K : PySem.W.Frag) (ta : TE) : TE := fun σ H Z => ta σ H fun x H1 => ∃ l, ∃ xs : List Str, x = .ref l ∧ SqL K H1 l (xs.map V.str) ∧ xs.length < 4000 ∧ Z (.int (cntT [] xs : Nat)) H1
theorem pe_lens {ta : TE} {p2 q2 : Pos} (hc : X.calm = true) (hg : Gl X "len") (hm : X.mg "len" = none) (hg2 : Gl X "set") (hm2 : X.mg "set" = none) (ha : PE X a ta) (na : starEach [a] X.env = (false, eval a X.env) :: starEach [] X.env) : PE X (.Call (.Name "len" p) [.Call (.Name "set" p2) [a] [] q2] [] pos) (tLens X.K ta) := by
  refine ⟨fun pins s σ H Z I h => ?_⟩
  refine Call_ (ld_blt I hg hm boot_len (PyProof.Rows.callWith_builtin1 (PyProof.Rows.args_cons ?_ rfl) rfl rfl))
  refine Call_ (ld_blt I hg2 hm2 boot_set (PyProof.Rows.callWith_type1 (PyProof.Rows.args_cons (thn (ha.run pins s σ H _ I h) fun v s1 ⟨x, H1, I1, r1, q1⟩ => PyProof.Rows.args_nil ?_) na) na rfl))
  obtain ⟨l, xs, rfl, hq, h4, q1⟩ := q1
  cases r1
  obtain ⟨its, r, pl, hz⟩ := I1.list hq
  refine call_set_texts (I1.ok.hd hc) pl.isList (by simpa using strsAre_of r) h4 fun h' tk hS hk => PyProof.Rows.args_nil ?_
  obtain ⟨o, es2, ep, t, ho, hex, hd, _, _, hb, hf, hn⟩ := hS
  have I2 : Inv X pins σ H1 { s1 with heap := h', toks := tk } := I1.kept fun b o e => hk b o (Heap.lt_size e) e
  have hle : cntT [] xs ≤ 4000 := by
    have : ∀ (zs a : List Str), cntT a zs ≤ zs.length := by
      intro zs
      induction zs with
      | nil => exact fun a => Nat.le_refl 0
      | cons z zs ihz =>
        intro a
        show (if z ∈ a then cntT a zs else cntT (z :: a) zs + 1) ≤ zs.length + 1
        split
        · have := ihz a; omega
        · have := ihz (z :: a); omega
    have := this xs []
    omega
  exact call_len_set ho hex hd hf (by rw [hn]; omega) ⟨.int (cntT [] xs : Nat), H1, I2.tok _, ⟨_, by rw [hn]⟩, q1⟩
/-- len(set(xs)), a list of texts -/
theorem snd_lenset (G : Gd X N sc k) (GX : GX X n Q T C k) {p2 q2 : Pos} (hg : isGl sc "len" = true) (hg2 : isGl sc "set" = true) (hs : noStar a = true) (ha : PE X a (tO X.K Q T C S ca)) : PE X (.Call (.Name "len" p) [.Call (.Name "set" p2) [a] [] q2] [] pos) (tE X.K Q T C S (.bf .lenset [ca])) :=
  (pe_lens G.calm (G.gl hg).1 (GX.bi _ (by decide +kernel)) (G.gl hg2).1 (GX.bi _ (by decide +kernel)) ha (starEach_plain hs)).imp fun σ H Z ⟨B, F, as, ρ, w, d, w', r, he, q⟩ => by
    rw [bf_one] at he
    obtain ⟨d1, w1, e1, he1⟩ := R.bind_ok he
    obtain ⟨he2, rfl⟩ := ofO_ok he1
    cases d1 <;> simp only [bfD, reduceCtorEq] at he2
    rename_i xs
    split at he2
    case isFalse => cases he2
    rename_i hl
    obtain ⟨zs, hz, rfl⟩ := Option.map_eq_some_iff.mp he2
    refine ⟨B, F, as, ρ, w, _, _, r, e1, fun v F1 as1 H1 g1 r1 o1 => ?_⟩
    obtain ⟨ad, ys, rfl, t1, t2⟩ := (o1.top r1).lst_
    obtain ⟨rfl, _⟩ := repL_strs t2 hz
    refine ⟨ad, zs.map toS, rfl, .inl (.inl t1), ?_, ?_⟩
    · rw [t2.length.symm, List.length_map] at hl
      exact hl
    · have e := cntT_eq zs []
      rw [List.map_nil] at e
      rw [e]
      exact q _ F1 as1 H1 g1 r1 (by simp only [Rep])
end
end MP

set_option Elab.async false
set_option linter.all false
set_option maxRecDepth 100000
/-! MPA7: == by an own __eq__, len by an own __len__. -/
namespace MP
open PySem PySem.Spec PyProof.Rows L2
theorem not_first {K : PySem.W.Frag} {C : Addr} {tb : Value} {r : Bool} (h : PySem.W.kitOne K tb (.ref C) = some r) (hr : r = true → tb = .ref C) : PySem.W.notFirst K C tb = true := by
  cases r with
  | true => rw [hr rfl]; simp [PySem.W.notFirst]
  | false =>
    unfold PySem.W.kitOne at h
    by_cases e : (tb == .ref C) = true
    · rw [if_pos e] at h; cases h
    · rw [if_neg e] at h
      unfold PySem.W.kitCls at h
      simp only at h
      split at h
      · show ((tb == .ref C) || (PySem.W.subIn K tb (.ref C) == some false)) = true
        rw [h]; simp
      · cases h
section
variable {X : Cx} {k : Nat}
/-- what is seen of the other value's type -/
def TyF (X : Cx) (C : Addr) (y : V) (H : Hp) : Prop := (∃ tb, TyX X.K H y tb ∧ PySem.W.kitOne X.K tb (.ref C) = some false) ∨ ∃ b dx fs, y = .ref b ∧ H b = some (.ins C dx fs)
theorem tyF_ok {C : Addr} {y : V} {H : Hp} {u : Value} {pins : List (Addr × Obj)} {σ : L2.St} {s : Shared} (I : Inv X pins σ H s) (ry : RelV y u) (h : TyF X C y H) : ∃ tb, PySem.W.Looks (model X.prog X.w) s.heap (typeOf u) tb ∧ PySem.W.notFirst X.K C tb = true := by
  rcases h with ⟨tb, ty, hk⟩ | ⟨b, dx, fs, e, hb⟩
  · obtain ⟨P, Kx, hP, _⟩ := kit_of I ry ty
    exact ⟨tb, Kx.ty _ _ I.kIn hP, not_first hk (fun z => by cases z)⟩
  · subst e
    cases ry
    obtain ⟨mB, J', _⟩ := ins_get I.hok hb
    obtain ⟨od', J', _⟩ := J'.look
    exact ⟨.ref C, J'.type, by simp [PySem.W.notFirst]⟩
/-- a == b where a is an instance of a class with its own __eq__ -/
def rOwn (X : Cx) (k : Nat) : R2 := fun x y H Z => ∃ a C dx fs f fd ps sp, x = .ref a ∧ H a = some (.ins C dx fs) ∧ Meth X.K C "__eq__" f ∧ FnG X.prog X.w X.K X.mg X.base k f fd ps sp ∧ Binds X.K fd ps [] ∧ TyF X C y H ∧
  sp [x, y] H (fun v H' => ∃ b, v = .bl b ∧ Z (.bl b) H')
theorem op_own (hr : Room k X.A) (hg : X.A.guards = some []) (hu : X.A.units < cLine) : OpR X (compareOp .Eq) (rOwn X k) := by
  intro pins s σ H x y v u Q I rx ry ⟨a, C, dx, fs, f, fd, ps, sp, e, ha, hm, F, hb, ty, h⟩
  subst e
  cases rx
  obtain ⟨mA, O, _⟩ := ins_get I.hok ha
  obtain ⟨od, J, _⟩ := O.look
  obtain ⟨m, hF⟩ := I.fr
  obtain ⟨tb, lk, nf⟩ := tyF_ok I ry ty
  refine PySem.W.cmp_ofEq (PySem.W.cmp_K (op := .Eq) (tb := tb) hu hF I.ok.mod.kin J lk nf hm.at_ hm.fn ?_)
  refine wpAny_mono (runG (vs := [.ref a, y]) (us := [.ref a, u]) F hr hg hb I (.cons rfl (.cons ry .nil)) h) (fun w s' hq => ?_) fun _ _ z => z
  obtain ⟨z, H', I', rz, b, rfl, q⟩ := hq
  cases rz
  exact ⟨.bl b, H', I', rfl, q⟩
end
end MP

set_option Elab.async false
set_option linter.all false
set_option maxRecDepth 100000
/-! MPA8: != by an own __eq__ and object's __ne__. -/
namespace MP
open PySem PySem.Spec PyProof.Rows L2
section
variable {prog : Program} {w : World} {A : Around} {E : Value → Shared → Prop} {s : Shared} {K : PySem.W.Frag} {x C L f : Addr} {h₀ : Heap} {m : Str → Option Value} {ox : Obj} {od : Option Obj} {b : Value}
/-- a special name that stands for a builtin slot -/
theorem ifBoundB {M : Model} {T id : String} {name : Str} {args : List Value} {Q : Option Value → Shared → Prop} (X : K.In s.heap) (I : PySem.W.InstAt s.heap x ox C od) (hs : PySem.W.findIn K (.ref C) name = some (some (.builtin id))) (S : Slot T name id)
    (h : wpAny M A (call (.builtin id) (.ref x :: args)) (fun v => Q (some v)) E s) : wpAny M A (callSpecialIfBound? (.ref x) name args) Q E s := by
  simp only [callSpecialIfBound?, bindSpecialIfBound?]
  refine wpAny_holding (wpAny_bind (wpAny_bind (wpAny_bind (I.type.here ((PySem.W.looks_findIn X hs).here ?_)))))
  simp only [S.bind]
  refine wpAny_bind (wpAny_askSetting (wpAny_ite ?_))
  have done : wpAny M A (call (.builtin id) ([.ref x] ++ args) >>= fun v => pure (some v)) Q E s := wpAny_bind (wpAny_mono h (fun v s' h' => wpAny_pure h') fun _ _ h' => h')
  split
  · exact wpAny_bind (wpAny_pure (wpAny_pure done))
  · exact wpAny_tryCatch (wpAny_bind (wpAny_pure (wpAny_pure done)))
theorem objNe (X : K.In s.heap) (I : PySem.W.InstAt s.heap x ox C od) (he : PySem.W.findIn K (.ref C) "__eq__" = some (some (.ref f))) (hf : PySem.W.isFn K (.ref f) = true) (hu : A.units < cLine) {Q : PySem.Fin → Shared → Prop}
    (hcall : wpAny (model prog w) A (call (.ref f) [.ref x, b]) (fun v s' => ∃ r, v = .bool r ∧ Q (.done (.ret (.bool (!r)))) s') E s) : wpAny (model prog w) A (Builtin.«object.__ne__» ⟨[.ref x, b], []⟩) Q E s := by
  unfold Builtin.«object.__ne__»
  repeat (first
    | with_reducible refine wpAny_cRoomFor hu ?_
    | (refine wpAny_bind (m := callSpecialIfBound? (.ref x) (Str.ofString "__eq__") [b])
        (PySem.W.ifBound_K X I he hf (wpAny_mono hcall (fun r s' hr => by
          obtain ⟨b, rfl, hq⟩ := hr
          repeat (first | exact hq | exact wpAny_pure hq | exact wpAny_truthy_bool hq | (refine wpAny_bind (m := truthy (.bool _)) (wpAny_truthy_bool ?_)) | wp_step)) fun _ _ e => e)))
    | wp_step)
theorem neK (F : PyProof.Rows.Fr h₀ L s.heap m) (X₀ : K.In h₀) (I : PySem.W.InstAt s.heap x ox C od) {tb : Value} (hb : PySem.W.Looks (model prog w) s.heap (typeOf b) tb) (hn : PySem.W.notFirst K C tb = true)
    (hs : PySem.W.findIn K (.ref C) "__ne__" = some (some (.builtin "object.__ne__"))) (ho : PySem.W.subIn K (.ref C) (.type "object") = some true) (he : PySem.W.findIn K (.ref C) "__eq__" = some (some (.ref f))) (hf : PySem.W.isFn K (.ref f) = true) (hu : A.units + 1 < cLine) {Q : Value → Shared → Prop}
    (hcall : wpAny (model prog w) A.in1 (call (.ref f) [.ref x, b]) (fun v s' => ∃ r, v = .bool r ∧ Q (.bool (!r)) s') E s) : wpAny (model prog w) A (richCompare .NotEq (.ref x) b) Q E s := by
  have X := X₀.keeps F.keep
  have S := PySem.F.cmp_object.ne
  have one : wpAny (model prog w) A (tryCompare (.ref x) (cmpInfo .NotEq).2.1 b) (fun r s' => ∃ v, r = some v ∧ Q v s') E s := by
    unfold tryCompare
    refine wpAny_bind (ifBoundB X I hs S (wpAny_call (codeAny_call_builtin S.plain PySem.F.cmpEntry_ne (PySem.W.check_slot PySem.F.cmpKind_ne PySem.F.cmpSplit_ne (I.type.andThen (PySem.W.looks_subIn X ho)) (PySem.F.cmpArgs_ne _ _)
      (objNe (A := A.in1) X I he hf hu (wpAny_mono hcall (fun v s' hv => ?_) fun _ _ e => e))))))
    obtain ⟨r, rfl, hq⟩ := hv
    first | exact ⟨r, rfl, wpAny_pure ⟨_, rfl, hq⟩⟩ | exact ⟨r, rfl, wpAny_pure (wpAny_pure ⟨_, rfl, hq⟩)⟩ | exact ⟨r, rfl, _, rfl, hq⟩
  unfold richCompare
  simp only [oneThing_ref]
  refine wpAny_holding (wpAny_bind (wpAny_cRoomFor (Nat.lt_of_succ_lt hu) ?_))
  refine wpAny_bind (I.type.here (wpAny_bind (hb.here ?_)))
  split
  · rename_i q
    have e : PySem.W.subIn K tb (.ref C) = some false := by
      rcases Bool.or_eq_true_iff.mp hn with e | e
      · rw [beq_iff_eq.mp e] at q; simp at q
      · exact beq_iff_eq.mp e
    refine wpAny_bind ((PySem.W.looks_subIn X e).here ?_)
    simp only [Bool.false_eq_true, if_false]
    refine wpAny_bind (wpAny_mono one (fun r s' z => ?_) fun _ _ e => e)
    obtain ⟨v, rfl, hq⟩ := z
    exact wpAny_pure hq
  · refine wpAny_bind (wpAny_pure ?_)
    simp only [Bool.false_eq_true, if_false]
    refine wpAny_bind (wpAny_mono one (fun r s' z => ?_) fun _ _ e => e)
    obtain ⟨v, rfl, hq⟩ := z
    exact wpAny_pure hq
end
section
variable {X : Cx} {k : Nat}
theorem runG1 {f : Addr} {fd : FuncData} {ps : List Str} {sp : List V → Hp → VK → Prop} {pins : List (Addr × Obj)} {σ : L2.St} {H : Hp} {s : Shared} {Z : VK} {us : List Value} {vs : List V} (F : FnG X.prog X.w X.K X.mg X.base k f fd ps sp) (hr : Room (k + 1) X.A) (hg : X.A.guards = some []) (hb : Binds X.K fd ps []) (I : Inv X pins σ H s) (r : Vals vs us) (h : sp vs H Z) :
    wpAny (model X.prog X.w) X.A.in1 (call (.ref f) us) (EP X pins σ Z) X.xe s := by
  have hl : (us ++ []).length = ps.length := by
    rw [List.append_nil, ← r.length]
    exact F.len vs H Z h
  have hb' := hb s us I.kIn hl
  rw [List.append_nil] at hb'
  refine wpAny_call (codeAny_mono (F.run X.A.in1 X.stack s H ⟨us, []⟩ us vs Z hr.in1 hg I.env0.in1 hb' r h) fun q s' hq => ?_)
  obtain ⟨u, rfl, e⟩ := back_of (A := X.A) (E := X.xe) I hq
  exact e
/-- a != b where a is an instance of a class with its own __eq__ and object's __ne__ -/
def rOwnNe (X : Cx) (k : Nat) : R2 := fun x y H Z => ∃ a C dx fs f fd ps sp, x = .ref a ∧ H a = some (.ins C dx fs) ∧ Meth X.K C "__eq__" f ∧ PySem.W.findIn X.K (.ref C) "__ne__" = some (some (.builtin "object.__ne__")) ∧ PySem.W.subIn X.K (.ref C) (.type "object") = some true ∧ FnG X.prog X.w X.K X.mg X.base k f fd ps sp ∧ Binds X.K fd ps [] ∧ TyF X C y H ∧
  sp [x, y] H (fun v H' => ∃ b, v = .bl b ∧ Z (.bl (!b)) H')
theorem op_ownNe (hr : Room (k + 1) X.A) (hg : X.A.guards = some []) (hu : X.A.units + 1 < cLine) : OpR X (compareOp .NotEq) (rOwnNe X k) := by
  intro pins s σ H x y v u Q I rx ry ⟨a, C, dx, fs, f, fd, ps, sp, e, ha, hm, hne, hso, F, hb, ty, h⟩
  subst e
  cases rx
  obtain ⟨mA, O, _⟩ := ins_get I.hok ha
  obtain ⟨od, J, _⟩ := O.look
  obtain ⟨m, hF⟩ := I.fr
  obtain ⟨tb, lk, nf⟩ := tyF_ok I ry ty
  refine PySem.W.cmp_ofNotEq (neK hF I.ok.mod.kin J lk nf hne hso hm.at_ hm.fn hu ?_)
  refine wpAny_mono (runG1 (vs := [.ref a, y]) (us := [.ref a, u]) F hr hg hb I (.cons rfl (.cons ry .nil)) h) (fun w s' hq => ?_) fun _ _ z => z
  obtain ⟨z, H', I', rz, b, rfl, q⟩ := hq
  cases rz
  exact ⟨b, rfl, .bl (!b), H', I', rfl, q⟩
/-- len(a) where a is an instance of a class with its own __len__ -/
def rOwnLen (X : Cx) (k : Nat) : List V → Hp → VK → Prop := fun xs H Z => ∃ a C dx fs f fd ps sp, xs = [.ref a] ∧ H a = some (.ins C dx fs) ∧ Meth X.K C "__len__" f ∧ FnG X.prog X.w X.K X.mg X.base k f fd ps sp ∧ Binds X.K fd ps [] ∧
  sp [.ref a] H (fun v H' => ∃ i : Int, v = .int i ∧ 0 ≤ i ∧ i < 2 ^ 63 ∧ Z (.int i) H')
theorem call_ownLen (hr : Room (k + 1) X.A) (hg : X.A.guards = some []) : CallR X (.builtin "len") (rOwnLen X k) := by
  intro pins s σ H xs us Z I rl ⟨a, C, dx, fs, f, fd, ps, sp, e, ha, hm, F, hb, h⟩
  subst e
  obtain ⟨mA, O, _⟩ := ins_get I.hok ha
  obtain ⟨od, J, _⟩ := O.look
  obtain ⟨m, hF⟩ := I.fr
  cases rl with
  | cons r1 r2 =>
    cases r2
    cases r1
    refine PySem.W.len_K hF I.ok.mod.kin J hm.at_ hm.fn (wpAny_mono (runG1 (vs := [.ref a]) (us := [.ref a]) F hr hg hb I (.cons rfl .nil) h) (fun w s' hq => ?_) fun _ _ z => z)
    obtain ⟨z, H', I', rz, i, rfl, i0, i1, q⟩ := hq
    obtain ⟨t, rz⟩ := rz
    subst rz
    exact ⟨⟨i0, i1⟩, .int i, H', I'.tok _, ⟨_, rfl⟩, q⟩
end
end MP

set_option Elab.async false
set_option linter.all false
set_option maxRecDepth 100000
/-! MPA9: == and != of an instance with its own __eq__, len of one with its own __len__: the readings. -/
namespace MP
open PySem PySem.Spec PyProof.Rows L2
def rpOp (op : CmpOp) (neg : Bool) : Bool := match op, neg with
  | .Eq, false => true
  | .NotEq, true => true
  | _, _ => false
section
variable {Q : Cls} {T : Tb} {C : CallF} {S : List Nat} {X : Cx} {N : List Str} {sc : Scope} {k : Nat} {n : Nm} {a b : Expr} {ca cb : CE} {pos p : Pos}
theorem callI_ok {m : Nat} {x : D} {ds : List D} {w w' : Wd} {d : D} (h : callI T C m x ds w = .ok d w') : ∃ c fs f, x = .ins c fs ∧ T.mth m c = some f ∧ C f (.ins c fs :: ds) w = .ok d w' := by
  unfold callI at h
  split at h
  · rename_i c fs
    split at h
    · rename_i f e
      exact ⟨c, fs, f, rfl, e, h⟩
    · cases h
  · cases h
theorem meqR_ok {m : Nat} {x y : D} {w w' : Wd} {d : D} (h : meqR T C m x y w = .ok d w') : ∃ c fs f r, x = .ins c fs ∧ T.mth m c = some f ∧ isiD T.nc y (.cls c) = some r ∧ C f [.ins c fs, y] w = .ok d w' := by
  unfold meqR at h
  split at h
  · split at h
    · rename_i hs
      obtain ⟨c', fs', f, e, h1, h2⟩ := callI_ok h
      cases e
      obtain ⟨r, hr⟩ := Option.isSome_iff_exists.mp hs
      exact ⟨_, _, f, r, rfl, h1, hr, h2⟩
    · cases h
  · cases h
theorem tyF_of (GX : GX X n Q T C k) {F : Hp} {as : List Addr} {H : Hp} {y : D} {v : V} {c : Nat} {r : Bool} (tp : Top X.K Q F as H y v) (l : Le F H) (h : isiD T.nc y (.cls c) = some r) : TyF X (Q.addr c) v H := by
  cases r with
  | false =>
    obtain ⟨tb, ty, hk⟩ := GX.is1 F as H y v (.cls c) false tp l h
    exact .inl ⟨tb, ty, hk⟩
  | true =>
    cases y <;> simp only [isiD, reduceCtorEq, Option.ite_none_right_eq_some, Option.some.injEq, decide_eq_true_eq, and_false, Bool.false_eq_true] at h
    obtain ⟨_, rfl⟩ := h
    obtain ⟨ad, dx, nfs, rfl, h1, _⟩ := tp.ins_
    exact .inr ⟨ad, dx, nfs, rfl, h1⟩
theorem meq_imp (GX : GX X n Q T C k) {m : Nat} (hn : n.mt "__eq__" = some m) : ∀ σ H Z, tE X.K Q T C S (.meq false m ca cb) σ H Z → tOp (rOwn X k) (tE X.K Q T C S ca) (tE X.K Q T C S cb) σ H Z := by
  rintro σ H Z ⟨B, F, as, ρ, w, d, w', sr, he, q⟩
  obtain ⟨r, w3, h1, he⟩ := R.bind_ok (show ((((ev T C ca ρ w).bind fun a w => (ev T C cb ρ w).bind fun b w => meqR T C m a b w).bind boolR).bind fun r w => R.ok (D.bl (r != false)) w) = .ok d w' from he)
  cases (show R.ok (D.bl (r != false)) w3 = .ok d w' from he)
  obtain ⟨d3, w4, h2, h1⟩ := R.bind_ok h1
  obtain ⟨rfl, rfl⟩ := boolR_ok h1
  obtain ⟨x, w1, hx, h2⟩ := R.bind_ok h2
  obtain ⟨y, w2, hy, h2⟩ := R.bind_ok h2
  obtain ⟨c, fs, f, rr, rfl, hm, hi, hc⟩ := meqR_ok h2
  refine ⟨B, F, as, ρ, w, _, w1, sr, hx, fun u F1 as1 H1 g1 r1 o1 => ?_⟩
  refine ⟨B, F1, as1, ρ, w1, y, w2, r1, hy, fun v F2 as2 H2 g2 r2 o2 => ?_⟩
  obtain ⟨ad, fd, ps, np, k1, k2, Fg, hbn, k3, hnp⟩ := GX.mt "__eq__" m c f hn hm
  have o1' := o1.mono g2.fz g2.pr
  have o3 := o1'
  simp only [Rep] at o3
  obtain ⟨a0, dx, nfs, rfl, z2, z3, z4⟩ := o3
  refine ⟨a0, _, dx, nfs, ad, fd, ps, _, rfl, r2.sub _ _ z2, k2, Fg, hbn, tyF_of GX (Top.of o2 r2.sub) r2.sub hi, ?_⟩
  exact ⟨hnp _ _ _ _ hc, F2, as2, [.ins c fs, y], w2, _, _, r2.br, .cons o1' (.cons o2 .nil), hc, fun v' F' as' H' g b rep => ⟨r, by simpa only [Rep] using rep, q _ F' as' H' ((g1.trans g2).trans g) (r2.back g b) (by simp only [Rep]; cases r <;> rfl)⟩⟩
theorem mne_imp (GX : GX X n Q T C k) {m : Nat} (hn : n.mt "__eq__" = some m) : ∀ σ H Z, tE X.K Q T C S (.meq true m ca cb) σ H Z → tOp (rOwnNe X k) (tE X.K Q T C S ca) (tE X.K Q T C S cb) σ H Z := by
  rintro σ H Z ⟨B, F, as, ρ, w, d, w', sr, he, q⟩
  obtain ⟨r, w3, h1, he⟩ := R.bind_ok (show ((((ev T C ca ρ w).bind fun a w => (ev T C cb ρ w).bind fun b w => meqR T C m a b w).bind boolR).bind fun r w => R.ok (D.bl (r != true)) w) = .ok d w' from he)
  cases (show R.ok (D.bl (r != true)) w3 = .ok d w' from he)
  obtain ⟨d3, w4, h2, h1⟩ := R.bind_ok h1
  obtain ⟨rfl, rfl⟩ := boolR_ok h1
  obtain ⟨x, w1, hx, h2⟩ := R.bind_ok h2
  obtain ⟨y, w2, hy, h2⟩ := R.bind_ok h2
  obtain ⟨c, fs, f, rr, rfl, hm, hi, hc⟩ := meqR_ok h2
  refine ⟨B, F, as, ρ, w, _, w1, sr, hx, fun u F1 as1 H1 g1 r1 o1 => ?_⟩
  refine ⟨B, F1, as1, ρ, w1, y, w2, r1, hy, fun v F2 as2 H2 g2 r2 o2 => ?_⟩
  obtain ⟨ad, fd, ps, np, k1, k2, Fg, hbn, k3, hnp⟩ := GX.mt "__eq__" m c f hn hm
  have o1' := o1.mono g2.fz g2.pr
  have o3 := o1'
  simp only [Rep] at o3
  obtain ⟨a0, dx, nfs, rfl, z2, z3, z4⟩ := o3
  refine ⟨a0, _, dx, nfs, ad, fd, ps, _, rfl, r2.sub _ _ z2, k2, (GX.ne m c f hm).1, (GX.ne m c f hm).2, Fg, hbn, tyF_of GX (Top.of o2 r2.sub) r2.sub hi, ?_⟩
  exact ⟨hnp _ _ _ _ hc, F2, as2, [.ins c fs, y], w2, _, _, r2.br, .cons o1' (.cons o2 .nil), hc, fun v' F' as' H' g b rep => ⟨r, by simpa only [Rep] using rep, q _ F' as' H' ((g1.trans g2).trans g) (r2.back g b) (by simp only [Rep]; cases r <;> rfl)⟩⟩
theorem snd_mq (G : Gd X N sc k) (GX : GX X n Q T C k) {m : Nat} {op : CmpOp} {neg : Bool} (ho : rpOp op neg = true) (hn : n.mt "__eq__" = some m) (hb' : noSet b = true) (ha : PE X a (tE X.K Q T C S ca)) (hb : PE X b (tE X.K Q T C S cb)) :
    PE X (.Compare a [op] [b] pos) (tE X.K Q T C S (.meq neg m ca cb)) ∧ PT X (.Compare a [op] [b] pos) (tTst X.K Q T C S (.meq neg m ca cb)) := by
  cases op <;> cases neg <;> try (cases ho)
  · have r := op_own (k := k) (G.room.mono (by omega)) G.guards (by have := G.units; omega)
    exact ⟨(pe_cmpR r ha hb (marks_of hb')).imp (meq_imp GX hn), (pt_cmpR r ha hb (marks_of hb')).imp (tst_of (meq_imp GX hn))⟩
  · have r := op_ownNe (k := k) (G.room.mono (by omega)) G.guards (by have := G.units; omega)
    exact ⟨(pe_cmpR r ha hb (marks_of hb')).imp (mne_imp GX hn), (pt_cmpR r ha hb (marks_of hb')).imp (tst_of (mne_imp GX hn))⟩
theorem lenR_ok {d d' : D} {w w' : Wd} (h : lenR d w = .ok d' w') : ∃ i : Int, d = .int i ∧ 0 ≤ i ∧ i < 4611686018427387904 ∧ d' = .int i ∧ w' = w := by
  have hbig : bigN = 16777216 := rfl
  unfold lenR at h
  split at h
  · split at h
    · rename_i hi
      cases h
      exact ⟨_, rfl, hi.1, by omega, rfl, rfl⟩
    · cases h
  · cases h
theorem snd_mlen (G : Gd X N sc k) (GX : GX X n Q T C k) {m : Nat} (hn : n.mt "__len__" = some m) (hg : isGl sc "len" = true) (hs : noStar a = true) (ha : PE X a (tE X.K Q T C S ca)) : PE X (.Call (.Name "len" p) [a] [] pos) (tE X.K Q T C S (.mlen m ca)) := by
  refine (one_blt G (call_ownLen (k := k) (G.room.mono (by omega)) G.guards) hg (GX.bi _ (by decide +kernel)) (by decide +kernel) hs ha).imp fun σ H Z ⟨B, F, as, ρ, w, d, w', sr, he, q⟩ => ?_
  obtain ⟨d1, w1, h1, he⟩ := R.bind_ok (show ((ev T C ca ρ w).bind fun d w => callI T C m d [] w).bind lenR = .ok d w' from he)
  obtain ⟨i, rfl, i0, i1, rfl, rfl⟩ := lenR_ok he
  obtain ⟨x, w2, hx, h2⟩ := R.bind_ok h1
  obtain ⟨c, fs, f, rfl, hm, hc⟩ := callI_ok h2
  refine ⟨B, F, as, ρ, w, _, w2, sr, hx, fun u F1 as1 H1 g1 r1 o1 => ?_⟩
  obtain ⟨ad, fd, ps, np, k1, k2, Fg, hbn, k3, hnp⟩ := GX.mt "__len__" m c f hn hm
  have o3 := o1
  simp only [Rep] at o3
  obtain ⟨a0, dx, nfs, rfl, z2, z3, z4⟩ := o3
  refine ⟨a0, _, dx, nfs, ad, fd, ps, _, rfl, r1.sub _ _ z2, k2, Fg, hbn, ?_⟩
  exact ⟨hnp _ _ _ _ hc, F1, as1, [.ins c fs], w2, _, _, r1.br, .cons o1 .nil, hc, fun v' F' as' H' g b rep => ⟨i, by simpa only [Rep] using rep, i0, by omega, q _ F' as' H' (g1.trans g) (r1.back g b) (by simp only [Rep])⟩⟩
/-- {} -/
theorem snd_dct0 : PE X (.Dict [] [] pos) (tN X.K Q T C S (.dct [] [])) :=
  pe_dnewK.imp fun σ H Z ⟨B, F, as, ρ, w, d, w', r, he, q⟩ => by
    cases (show R.ok (D.dct [] []) w = .ok d w' from he)
    intro p hp
    refine q rfl p (.dK []) F as (upd H p (.dK [])) (Grw.newO hp) (r.newO hp) hp (r.sub.non hp) (r.notin hp) upd_same ?_
    simp only [ORep]
    exact ⟨[], rfl, rfl, .nil⟩
end
end MP

set_option Elab.async false
set_option linter.all false
set_option maxRecDepth 100000
/-! MP15: the look (ck..): a Python text says what a core term says; then it does as the core term does. -/
namespace MP
open PySem PySem.Spec PyProof.Rows L2
def isOne : Expr → Option Expr
  | .BoolOp _ [x] _ => some x
  | _ => none
def isNm (sc : Scope) (x : Str) (e : Expr) : Bool := glIs sc x e
def nmOf (n : Nm) (sc : Scope) (f : Nm → Str → Option Nat) (i : Nat) : Expr → Bool
  | .Name x _ => isGl sc x && decide (f n x = some i)
  | _ => false
def ownOf (N : List Str) (p : Pat) : List (Str × Nat) := (pslots p).filterMap fun i => (N[i]?).map fun x => (x, i)
def ckSp (f : CE → Expr → Bool) : List Bool → List CE → List Expr → Bool
  | [], [], [] => true
  | false :: fl, c :: cs, e :: es => noStar e && f c e && ckSp f fl cs es
  | true :: fl, c :: cs, .Starred e _ :: es => f c e && ckSp f fl cs es
  | _, _, _ => false
def ckL2 (f : CE → Expr → Bool) : List CE → List Expr → Bool
  | [], [] => true
  | c :: cs, e :: es => f c e && ckL2 f cs es
  | _, _ => false
def ckK2 (f : CE → Expr → Bool) : List CE → List (Option Expr) → Bool
  | [], [] => true
  | c :: cs, some e :: es => f c e && ckK2 f cs es
  | _, _ => false
def inOp (op : CmpOp) (neg : Bool) : Bool := match op, neg with
  | .In, false => true
  | .NotIn, true => true
  | _, _ => false
section
variable (n : Nm) (ini : Nat → Bool) (N : List Str)
/-- a target -/
def ckG : Nat → Scope → (Str → Bool) → List Nat → Pat → Expr → Bool
  | 0, _, _, _, _, _ => false
  | m + 1, sc, fb, S, p, e => match p, e with
    | .n i, e => tgtB N sc fb i e && !S.contains i
    | .t ps, .Tuple es _ _ => es.all noStar && decide (es.length = ps.length) && (ps.zip es).all fun q => ckG m sc fb S q.1 q.2
    | _, _ => false
mutual
def ckE : Nat → Scope → List Nat → CE → Expr → Bool
  | 0, _, _, _, _ => false
  | m + 1, sc, S, c, e => match isOne e with
    | some x => ckE m sc S c x
    | none => match c with
      | .v i => isSlot N sc i e && !S.contains i
      | .g i => nmOf n sc Nm.gl i e
      | .non => (match e with | .Constant .none _ _ => true | _ => false)
      | .bl b => (match e with | .Constant (.bool b') _ _ => b == b' | _ => false)
      | .int i => (match e with | .Constant (.int i') _ _ => i == i' | _ => false)
      | .str s => (match e with | .Constant (.str x) _ _ => decide (x = toS s) && s.all (fun c => decide (c < 1114112)) | _ => false)
      | .tup cs => (match e with | .Tuple es _ _ => ckA m sc S cs es && decide (cs.length ≤ bigN) | _ => false)
      | .bin o a b => (match e with | .BinOp x op y _ => bopOk o op && ckO m sc S a x && ckO m sc S b y | _ => false)
      | .neg a => (match e with | .UnaryOp .USub x _ => ckE m sc S a x | _ => false)
      | .not a => (match e with | .UnaryOp .Not x _ => ckE m sc S a x | _ => false)
      | .cmp o a b => (match e with | .Compare x [op] [y] _ => copOk o op && noSet y && ckO m sc S a x && ckO m sc S b y | _ => false)
      | .cmp2 o p a b d => (match e with | .Compare x [op, op'] [y, z] _ => copOk o op && copOk p op' && noSet z && ckO m sc S a x && ckO m sc S b y && ckO m sc S d z | _ => false)
      | .and a b => (match e with | .BoolOp .And (x :: y :: r) pos => ckE m sc S a x && ckE m sc S b (.BoolOp .And (y :: r) pos) | _ => false)
      | .or a b => (match e with | .BoolOp .Or (x :: y :: r) pos => ckE m sc S a x && ckE m sc S b (.BoolOp .Or (y :: r) pos) | _ => false)
      | .ite t a b => (match e with | .IfExp u x y _ => ckT m sc S t u && ckE m sc S a x && ckE m sc S b y | _ => false)
      | .call f cs => (match e with | .Call fe es [] _ => nmOf n sc Nm.fn f fe && ckA m sc S cs es | _ => false)
      | .mk k cs => (match e with | .Call fe es [] _ => ini k && nmOf n sc Nm.cl k fe && ckA m sc S cs es | _ => false)
      | .meth k a cs => (match e with | .Call (.Attribute x nm apos) es [] pos => decide (n.mt nm = some k) && baseOk x && decide (es.length < 30) && (apos.endLine == pos.line) && ckE m sc S a x && ckA m sc S cs es | _ => false)
      | .fld a f => (match e with | .Attribute x nm _ => decide (n.at_ nm = some f) && baseOk x && ckO m sc S a x | _ => false)
      | .prop a f => (match e with | .Attribute x nm _ => decide (n.pr nm = some f) && baseOk x && ckE m sc S a x | _ => false)
      | .idx a b => (match e with | .Subscript x y _ => plainIx y && ckO m sc S a x && ckO m sc S b y | _ => false)
      | .sli a lo hi => (match e with | .Subscript x (.Slice l h none _) _ => ckO m sc S a x && ckP m sc S lo l && ckP m sc S hi h | _ => false)
      | .rev a => (match e with | .Subscript x (.Slice none none (some (.UnaryOp .USub (.Constant (.int 1) _ _) _)) _) _ => ckO m sc S a x | _ => false)
      | .isi a t => (match e with | .Call fe [x, y] [] _ => glIs sc "isinstance" fe && noStar x && tyOk n sc t y && ckO m sc S a x | _ => false)
      | .bad => true
      | .slen a => (match e with | .Call fe [x] [] _ => glIs sc "len" fe && noStar x && ckE m sc S a x | _ => false)
      | .sidx a b => (match e with | .Subscript x y _ => plainIx y && ckE m sc S a x && ckE m sc S b y | _ => false)
      | .rpeq neg a b => (match e with | .Compare (.Call fe [x] [] _) [op] [.Call ge [y] [] _] _ => rpOp op neg && glIs sc "repr" fe && glIs sc "repr" ge && noStar x && noStar y && ckO m sc S a x && ckO m sc S b y | _ => false)
      | .mlen k a => (match e with | .Call fe [x] [] _ => decide (n.mt "__len__" = some k) && glIs sc "len" fe && noStar x && ckE m sc S a x | _ => false)
      | .meq neg k a b => (match e with | .Compare x [op] [y] _ => rpOp op neg && decide (n.mt "__eq__" = some k) && noSet y && ckE m sc S a x && ckE m sc S b y | _ => false)
      | .tix g a => (match e with | .Subscript (.Name x _) y _ => decide (n.tb x = some g) && isGl sc x && plainIx y && ckE m sc S a y | _ => false)
      | .tin neg g a => (match e with | .Compare y [op] [.Name x _] _ => inOp op neg && decide (n.tb x = some g) && isGl sc x && ckE m sc S a y | _ => false)
      | .tups fl cs => (match e with | .Tuple es _ _ => ckSp (ckE m sc S) fl cs es | _ => false)
      | .bf .lenset [a] => (match e with | .Call fe [.Call ge [x] [] _] [] _ => glIs sc "len" fe && glIs sc "set" ge && noStar x && ckO m sc S a x | _ => false)
      | .bf f [a] => (match e with | .Call fe [x] [] _ => (match bName f with | some nm => glIs sc nm fe && noStar x && decide (f ≠ .list) && ckO m sc S a x | none => false) | _ => false) || ckN m sc S c e
      | .bf f [a, b] => (match e with | .Call fe [x, y] [] _ => ((decide (f = .max2) && glIs sc "max" fe) || (decide (f = .min2) && glIs sc "min" fe)) && noStar x && noStar y && ckO m sc S a x && ckO m sc S b y | _ => false)
      | .bm k a [b] => (match e with | .Call (.Attribute x nm apos) [y] [] pos => baseOk x && noStar y && (apos.endLine == pos.line) && ckE m sc S a x && ((decide (k = .split) && decide (nm = "split") && ckE m sc S b y) || (decide (k = .join) && decide (nm = "join") && ckO m sc S b y) || (decide (k = .startswith) && decide (nm = "startswith") && ckE m sc S b y)) | _ => false) || (match e with | .Call (.Attribute x nm apos) [y] [] pos => decide (k = .index) && decide (nm = "index") && baseOk x && noStar y && (apos.endLine == pos.line) && ckO m sc S a x && ckE m sc S b y | _ => false)
      | _ => ckN m sc S c e
def ckO : Nat → Scope → List Nat → CE → Expr → Bool
  | 0, _, _, _, _ => false
  | m + 1, sc, S, c, e => match c with
    | .b i => isSlot N sc i e
    | _ => ckE m sc S c e
def ckN : Nat → Scope → List Nat → CE → Expr → Bool
  | 0, _, _, _, _ => false
  | m + 1, sc, S, c, e => match c with
    | .lst cs => (match e with | .List es _ => ckA m sc S cs es && decide (cs.length ≤ bigN) | _ => false)
    | .lsts fl cs => (match e with | .List es _ => ckSp (ckE m sc S) fl cs es | _ => false)
    | .dct [] [] => (match e with | .Dict [] [] _ => true | _ => false)
    | .dct ks cs => (match e with | .Dict keys es _ => ckK2 (ckE m sc S) ks keys && ckL2 (ckE m sc S) cs es && decide (ks.length = cs.length) && decide (cs.length ≤ 15) && decide (0 < ks.length) && ks.all strKey && decide ((ks.map fun c => match c with | .str s => s | _ => []).Nodup) | _ => false)
    | .bf .list [.bf .rng [a, b]] => (match e with
      | .Call fe [.Call ge [x, y] [] _] [] _ => glIs sc "list" fe && glIs sc "range" ge && noStar x && noStar y && ckE m sc S a x && ckE m sc S b y
      | .Call fe [.Call ge [x] [] _] [] _ => (match a with | .int 0 => glIs sc "list" fe && glIs sc "range" ge && noStar x && ckE m sc S b x | _ => false)
      | _ => false)
    | .bf .list [a] => (match e with | .Call fe [x] [] _ => glIs sc "list" fe && noStar x && ckO m sc S a x | _ => false)
    | .lc p it cs ce => (match e with | .ListComp elt [⟨tg, iter, ifs, 0⟩] scope _ => ckL m sc S p it cs ce elt tg iter ifs scope | _ => false)
    | _ => false
def ckL : Nat → Scope → List Nat → Pat → CE → List CE → CE → Expr → Expr → Expr → List Expr → Scope → Bool
  | 0, _, _, _, _, _, _, _, _, _, _, _ => false
  | m + 1, sc, S, p, it, cs, ce, elt, tg, iter, ifs, scope =>
    blkC N sc scope (ownOf N p) && decide ((ownOf N p).map (·.2) = pslots p) && !((ownOf N p).map (·.2)).contains 0 && noSet iter && ckI m sc S it tg iter && ckG N m (relS scope sc) (fun x => scope.names.lookup x == some .cell) S p tg &&
      (match cs, ifs with | [], [] => true | [c], [x] => ckT m (relS scope sc) S c x | _, _ => false) && ckE m (relS scope sc) S ce elt
def ckT : Nat → Scope → List Nat → CE → Expr → Bool
  | 0, _, _, _, _ => false
  | m + 1, sc, S, c, e => match e with
    | .UnaryOp .Not x _ => (match c with | .not a => ckT m sc S a x | _ => false)
    | .BoolOp .And [x] _ => ckT m sc S c x
    | .BoolOp .Or [x] _ => ckT m sc S c x
    | .BoolOp .And (x :: y :: r) pos => (match c with | .and a b => ckT m sc S a x && ckT m sc S b (.BoolOp .And (y :: r) pos) | _ => false)
    | .BoolOp .Or (x :: y :: r) pos => (match c with | .or a b => ckT m sc S a x && ckT m sc S b (.BoolOp .Or (y :: r) pos) | _ => false)
    | .Compare x [op] [y] _ => (match c with
      | .cmp o a b => copOk o op && noSet y && ckO m sc S a x && ckO m sc S b y
      | .bad => true
      | .tin neg g a => (match y with | .Name z _ => inOp op neg && decide (n.tb z = some g) && isGl sc z && ckE m sc S a x | _ => false)
      | .rpeq neg a b => (match x, y with | .Call fe [x] [] _, .Call ge [y] [] _ => rpOp op neg && glIs sc "repr" fe && glIs sc "repr" ge && noStar x && noStar y && ckO m sc S a x && ckO m sc S b y | _, _ => false)
      | .meq neg k a b => rpOp op neg && decide (n.mt "__eq__" = some k) && noSet y && ckE m sc S a x && ckE m sc S b y
      | _ => false)
    | .Compare x [op, op'] [y, z] _ => (match c with | .cmp2 o p a b d => copOk o op && copOk p op' && noSet z && ckO m sc S a x && ckO m sc S b y && ckO m sc S d z | _ => false)
    | e => plainTest e && ckE m sc S c e
def ckA : Nat → Scope → List Nat → List CE → List Expr → Bool
  | 0, _, _, _, _ => false
  | m + 1, sc, S, cs, es => match cs, es with
    | [], [] => true
    | c :: cs, e :: es => noStar e && ckE m sc S c e && ckA m sc S cs es
    | _, _ => false
def ckP : Nat → Scope → List Nat → CE → Option Expr → Bool
  | 0, _, _, _, _ => false
  | m + 1, sc, S, c, o => match o with
    | none => (match c with | .non => true | _ => false)
    | some e => (match c with | .non => false | _ => true) && ckE m sc S c e
def ckI : Nat → Scope → List Nat → CE → Expr → Expr → Bool
  | 0, _, _, _, _, _ => false
  | m + 1, sc, S, c, tg, e => match c with
    | .bf .rng [a, b] => (match e with
      | .Call ge [x, y] [] _ => glIs sc "range" ge && noStar x && noStar y && ckE m sc S a x && ckE m sc S b y
      | .Call ge [x] [] _ => (match a with | .int 0 => glIs sc "range" ge && noStar x && ckE m sc S b x | _ => false)
      | _ => false)
    | .bf .enum [a] => (match tg, e with | .Tuple _ _ _, .Call ge [x] [] _ => glIs sc "enumerate" ge && noStar x && ckE m sc S a x | _, _ => false)
    | .bf .zip [a, b] => (match tg, e with | .Tuple _ _ _, .Call ge [x, y] [] _ => glIs sc "zip" ge && noStar x && noStar y && ckE m sc S a x && ckE m sc S b y | _, _ => false)
    | _ => ckE m sc S c e
end
end
theorem ckL2_ok {f : CE → Expr → Bool} : ∀ {cs : List CE} {es : List Expr}, ckL2 f cs es = true → es.length = cs.length ∧ ∀ (i : Nat) (e : Expr) (c : CE), es[i]? = some e → cs[i]? = some c → f c e = true
  | [], [], _ => ⟨rfl, fun i e c h => by simp at h⟩
  | c :: cs, e :: es, h => by
    have h' : (f c e && ckL2 f cs es) = true := h
    rw [Bool.and_eq_true] at h'
    obtain ⟨h1, h2⟩ := ckL2_ok h'.2
    refine ⟨by rw [List.length_cons, List.length_cons, h1], fun i e2 c2 q1 q2 => ?_⟩
    cases i with
    | zero =>
      simp at q1 q2
      subst q1 q2
      exact h'.1
    | succ i => exact h2 i e2 c2 (by simpa using q1) (by simpa using q2)
  | [], _ :: _, h => by cases h
  | _ :: _, [], h => by cases h
theorem ckK2_ok {f : CE → Expr → Bool} : ∀ {cs : List CE} {es : List (Option Expr)}, ckK2 f cs es = true → es.length = cs.length ∧ (∀ o ∈ es, o.isSome = true) ∧ ∀ (i : Nat) (e : Expr) (c : CE), es[i]? = some (some e) → cs[i]? = some c → f c e = true
  | [], [], _ => ⟨rfl, fun o h => absurd h List.not_mem_nil, fun i e c h => by simp at h⟩
  | c :: cs, some e :: es, h => by
    have h' : (f c e && ckK2 f cs es) = true := h
    rw [Bool.and_eq_true] at h'
    obtain ⟨h1, h3, h2⟩ := ckK2_ok h'.2
    refine ⟨by rw [List.length_cons, List.length_cons, h1], fun o ho => (List.mem_cons.mp ho).elim (fun z => by rw [z]; rfl) (h3 o), fun i e2 c2 q1 q2 => ?_⟩
    cases i with
    | zero =>
      simp at q1 q2
      subst q1 q2
      exact h'.1
    | succ i => exact h2 i e2 c2 (by simpa using q1) (by simpa using q2)
  | _ :: _, none :: _, h => by cases h
  | [], _ :: _, h => by cases h
  | _ :: _, [], h => by cases h
/-! ### it is right -/
section
variable {Q : Cls} {T : Tb} {C : CallF} {n : Nm} {N : List Str} {ini : Nat → Bool}
theorem snd_not2 {X : Cx} {S : List Nat} {a : Expr} {ca : CE} {pos : Pos} (ha' : PE X a (tE X.K Q T C S ca)) : PE X (.UnaryOp .Not a pos) (tE X.K Q T C S (.not ca)) := (pe_not ha').imp fun σ H Z ⟨B, F, as, ρ, w, d, w', sr, he, q⟩ => by
  obtain ⟨b', w2, h2, h3⟩ := R.bind_ok (show ((ev T C ca ρ w).bind boolR).bind (fun b w => R.ok (D.bl (!b)) w) = .ok d w' from he)
  cases (show R.ok (D.bl (!b')) w2 = .ok d w' from h3)
  obtain ⟨d1, w3, h4, h5⟩ := R.bind_ok h2
  obtain ⟨rfl, rfl⟩ := boolR_ok h5
  exact ⟨B, F, as, ρ, w, _, _, sr, h4, fun v F' as' H' g r' rv => ⟨b', by simpa only [Rep] using rv, q _ F' as' H' g r' (by simp only [Rep])⟩⟩
theorem ckSp_ok {X : Cx} {S : List Nat} {f : CE → Expr → Bool} (hf : ∀ c e, f c e = true → PE X e (tE X.K Q T C S c)) : ∀ {fl : List Bool} {cs : List CE} {es : List Expr}, ckSp f fl cs es = true → PA X es (tSpl X.K Q T C S fl cs)
  | [], [], [], _ => spl_nil
  | false :: fl, c :: cs, e :: es, h => by
    have h' : (noStar e && f c e && ckSp f fl cs es) = true := by cases e <;> exact h
    rw [Bool.and_eq_true, Bool.and_eq_true] at h'
    exact spl_one h'.1.1 (hf c e h'.1.2) (ckSp_ok hf h'.2)
  | true :: fl, c :: cs, e :: es, h => by
    cases e <;> try (cases h; done)
    rename_i e p
    have h' : (f c e && ckSp f fl cs es) = true := h
    rw [Bool.and_eq_true] at h'
    exact spl_star (hf c e h'.1) (ckSp_ok hf h'.2)
  | [], [], _ :: _, h => by cases h
  | [], _ :: _, _, h => by cases h
  | false :: _, [], _, h => by cases h
  | true :: _, [], _, h => by cases h
  | false :: _, _ :: _, [], h => by cases h
  | true :: _, _ :: _, [], h => by cases h
theorem isOne_ok {e x : Expr} (h : isOne e = some x) : ∃ op pos, e = .BoolOp op [x] pos := by
  cases e <;> try (cases h; done)
  rename_i op vs pos
  match vs, h with
  | [y], h => cases h; exact ⟨op, pos, rfl⟩
theorem nmOf_ok {sc : Scope} {f : Nm → Str → Option Nat} {i : Nat} {e : Expr} (h : nmOf n sc f i e = true) : ∃ x p, e = .Name x p ∧ isGl sc x = true ∧ f n x = some i := by
  cases e <;> try (simp only [nmOf] at h; exact absurd h Bool.false_ne_true)
  simp only [nmOf, Bool.and_eq_true, decide_eq_true_eq] at h
  exact ⟨_, _, rfl, h.1, h.2⟩
theorem ckG_ok : ∀ (m : Nat) {X : Cx} {sc : Scope} {k : Nat} {fb : Str → Bool} {S : List Nat} {p : Pat} {e : Expr}, Gd X N sc k → (∀ x, fb x = true → X.fn x = true) → ckG N m sc fb S p e = true → PG X e (tG X.K Q S p)
  | 0, _, _, _, _, _, _, _, _, _, h => by cases h
  | m + 1, X, sc, k, fb, S, p, e, G, hfb, h => by
    cases p with
    | n i =>
      have h' : (tgtB N sc fb i e && !S.contains i) = true := by
        cases e <;> exact h
      rw [Bool.and_eq_true] at h'
      exact tgt_name G hfb h'.1 (by simpa using h'.2)
    | t ps =>
      cases e <;> try (cases h; done)
      rename_i es kk pos
      have h' : (es.all noStar && decide (es.length = ps.length) && (ps.zip es).all fun q => ckG N m sc fb S q.1 q.2) = true := h
      rw [Bool.and_eq_true, Bool.and_eq_true] at h'
      obtain ⟨⟨h1, h2⟩, h3⟩ := h'
      refine tgt_tup G h1 (of_decide_eq_true h2) ?_
      have go : ∀ (es : List Expr) (ps : List Pat), es.all noStar = true → es.length = ps.length → ((ps.zip es).all fun q => ckG N m sc fb S q.1 q.2) = true → PGs X es (tGs X.K Q S ps) := by
        intro es
        induction es with
        | nil =>
          intro ps _ hl _
          have : ps = [] := List.eq_nil_of_length_eq_zero hl.symm
          subst this
          exact tgt_nil
        | cons e es ih =>
          intro ps h1 hl h3
          cases ps with
          | nil => cases hl
          | cons p ps =>
            rw [List.all_cons, Bool.and_eq_true] at h1
            rw [List.zip_cons_cons, List.all_cons, Bool.and_eq_true] at h3
            exact tgt_cons h1.1 (ckG_ok m G hfb h3.1) (ih ps h1.2 (by simpa using hl) h3.2)
      exact go es ps h1 (of_decide_eq_true h2) h3
structure OkM (n : Nm) (ini : Nat → Bool) (N : List Str) (Q : Cls) (T : Tb) (C : CallF) (m : Nat) : Prop where
  e : ∀ {X : Cx} {sc : Scope} {k : Nat} {S : List Nat} {c : CE} {e : Expr}, Gd X N sc k → GX X n Q T C k → ckE n ini N m sc S c e = true → PE X e (tE X.K Q T C S c)
  o : ∀ {X : Cx} {sc : Scope} {k : Nat} {S : List Nat} {c : CE} {e : Expr}, Gd X N sc k → GX X n Q T C k → ckO n ini N m sc S c e = true → PE X e (tO X.K Q T C S c)
  nw : ∀ {X : Cx} {sc : Scope} {k : Nat} {S : List Nat} {c : CE} {e : Expr}, Gd X N sc k → GX X n Q T C k → ckN n ini N m sc S c e = true → PE X e (tN X.K Q T C S c)
  l : ∀ {X : Cx} {sc : Scope} {k : Nat} {S : List Nat} {p : Pat} {it : CE} {cs : List CE} {ce : CE} {elt tg iter : Expr} {ifs : List Expr} {scope : Scope}, Gd X N sc k → GX X n Q T C k → ckL n ini N m sc S p it cs ce elt tg iter ifs scope = true →
    blkC N sc scope (ownOf N p) = true ∧ PI X tg iter (tIt X.K Q T C S it) ∧ noSet iter = true ∧ 0 ∉ (ownOf N p).map (·.2) ∧ (∀ i ∈ pslots p, i ∈ (ownOf N p).map (·.2)) ∧ (∀ i ∈ (ownOf N p).map (·.2), i ∈ pslots p) ∧
    (∀ (s : Shared) (H : Hp) (Ca : Addr) (cl : List (Str × Addr)) (fp : List Addr), PG (X.blk s H scope (compEnvC scope cl Ca X.env) fp) tg (tG X.K Q S p)) ∧
    (∀ (s : Shared) (H : Hp) (Ca : Addr) (cl : List (Str × Addr)) (fp : List Addr), PTs (X.blk s H scope (compEnvC scope cl Ca X.env) fp) ifs (tCs X.K Q T C S cs)) ∧
    (∀ (s : Shared) (H : Hp) (Ca : Addr) (cl : List (Str × Addr)) (fp : List Addr), PE (X.blk s H scope (compEnvC scope cl Ca X.env) fp) elt (tE X.K Q T C S ce))
  t : ∀ {X : Cx} {sc : Scope} {k : Nat} {S : List Nat} {c : CE} {e : Expr}, Gd X N sc k → GX X n Q T C k → ckT n ini N m sc S c e = true → PT X e (tTst X.K Q T C S c) ∧ ((∃ op vs pos, e = .BoolOp op vs pos) → PW X e (tTst X.K Q T C S c))
  a : ∀ {X : Cx} {sc : Scope} {k : Nat} {S : List Nat} {cs : List CE} {es : List Expr}, Gd X N sc k → GX X n Q T C k → ckA n ini N m sc S cs es = true → PA X es (tA X.K Q T C S cs) ∧ es.all noStar = true ∧ es.length = cs.length
  p : ∀ {X : Cx} {sc : Scope} {k : Nat} {S : List Nat} {c : CE} {o : Option Expr}, Gd X N sc k → GX X n Q T C k → ckP n ini N m sc S c o = true → PO X o (tOpt X.K Q T C S c)
  i : ∀ {X : Cx} {sc : Scope} {k : Nat} {S : List Nat} {c : CE} {tg e : Expr}, Gd X N sc k → GX X n Q T C k → ckI n ini N m sc S c tg e = true → PI X tg e (tIt X.K Q T C S c)
theorem Gd.blk {X : Cx} {sc scope : Scope} {k : Nat} (G : Gd X N sc k) (s : Shared) (H : Hp) (Ca : Addr) (cl : List (Str × Addr)) (fp : List Addr) : Gd (X.blk s H scope (compEnvC scope cl Ca X.env) fp) N (relS scope sc) k :=
  ⟨G.nm, G.nd, by rw [← G.sc]; rfl, G.calm, G.room, G.guards⟩
theorem okm_zero : OkM n ini N Q T C 0 := ⟨(fun _ _ h => by cases h), (fun _ _ h => by cases h), (fun _ _ h => by cases h), (fun _ _ h => by cases h), (fun _ _ h => by cases h), (fun _ _ h => by cases h), (fun _ _ h => by cases h), (fun _ _ h => by cases h)⟩
end
end MP

set_option Elab.async false
set_option linter.all false
set_option maxRecDepth 100000
/-! MP16: the look is right: one step more. -/
namespace MP
open PySem PySem.Spec PyProof.Rows L2
section
variable {Q : Cls} {T : Tb} {C : CallF} {n : Nm} {N : List Str} {ini : Nat → Bool} {m : Nat}
variable {X : Cx} {sc : Scope} {k : Nat} {S : List Nat} {c : CE} {e tg : Expr}
theorem glIs_nm {x : Str} (h : glIs sc x e = true) : ∃ p, e = .Name x p ∧ isGl sc x = true := by
  obtain ⟨⟨p, rfl⟩, h2⟩ := glIs_ok h
  exact ⟨p, rfl, h2⟩
theorem st_o (O : OkM n ini N Q T C m) (G : Gd X N sc k) (GX : GX X n Q T C k) (h : ckO n ini N (m + 1) sc S c e = true) : PE X e (tO X.K Q T C S c) := by
  cases c <;> first | exact tO.of (O.e G GX h) | exact snd_b G h
theorem st_a (O : OkM n ini N Q T C m) (G : Gd X N sc k) (GX : GX X n Q T C k) {cs : List CE} {es : List Expr} (h : ckA n ini N (m + 1) sc S cs es = true) : PA X es (tA X.K Q T C S cs) ∧ es.all noStar = true ∧ es.length = cs.length := by
  cases cs with
  | nil =>
    cases es with
    | nil => exact ⟨snd_nil, rfl, rfl⟩
    | cons _ _ => cases h
  | cons c cs =>
    cases es with
    | nil => cases h
    | cons e es =>
      have h' : (noStar e && ckE n ini N m sc S c e && ckA n ini N m sc S cs es) = true := h
      rw [Bool.and_eq_true, Bool.and_eq_true] at h'
      obtain ⟨⟨h1, h2⟩, h3⟩ := h'
      obtain ⟨a1, a2, a3⟩ := O.a G GX h3
      exact ⟨snd_cons h1 (O.e G GX h2) a1, by rw [List.all_cons, h1, a2]; rfl, by rw [List.length_cons, List.length_cons, a3]⟩
theorem st_p (O : OkM n ini N Q T C m) (G : Gd X N sc k) (GX : GX X n Q T C k) {o : Option Expr} (h : ckP n ini N (m + 1) sc S c o = true) : PO X o (tOpt X.K Q T C S c) := by
  cases o with
  | none =>
    cases c <;> first | exact part_none | cases h
  | some e =>
    unfold ckP at h
    dsimp only at h
    rw [Bool.and_eq_true] at h
    refine part_some (fun d => ?_) (O.e G GX h.2)
    have h1 := h.1
    cases c <;> first | (cases h1; done) | (cases d <;> rfl)
theorem st_i (O : OkM n ini N Q T C m) (G : Gd X N sc k) (GX : GX X n Q T C k) (h : ckI n ini N (m + 1) sc S c tg e = true) : PI X tg e (tIt X.K Q T C S c) := by
  unfold ckI at h
  split at h
  · split at h
    · simp only [Bool.and_eq_true] at h
      obtain ⟨⟨⟨⟨h1, h2⟩, h3⟩, h4⟩, h5⟩ := h
      obtain ⟨p, rfl, hg⟩ := glIs_nm h1
      exact it_range2 G hg (GX.bi _ (by decide +kernel)) h2 h3 (O.e G GX h4) (O.e G GX h5)
    · split at h
      · simp only [Bool.and_eq_true] at h
        obtain ⟨⟨h1, h2⟩, h3⟩ := h
        obtain ⟨p, rfl, hg⟩ := glIs_nm h1
        exact it_range1 G hg (GX.bi _ (by decide +kernel)) h2 (O.e G GX h3)
      · cases h
    · cases h
  · split at h
    · simp only [Bool.and_eq_true] at h
      obtain ⟨⟨h1, h2⟩, h3⟩ := h
      obtain ⟨p, rfl, hg⟩ := glIs_nm h1
      exact it_enum G hg (GX.bi _ (by decide +kernel)) h2 (O.e G GX h3)
    · cases h
  · split at h
    · simp only [Bool.and_eq_true] at h
      obtain ⟨⟨⟨⟨h1, h2⟩, h3⟩, h4⟩, h5⟩ := h
      obtain ⟨p, rfl, hg⟩ := glIs_nm h1
      exact it_zip G hg (GX.bi _ (by decide +kernel)) h2 h3 (O.e G GX h4) (O.e G GX h5)
    · cases h
  · exact it_val (O.e G GX h)
theorem st_t (O : OkM n ini N Q T C m) (G : Gd X N sc k) (GX : GX X n Q T C k) (h : ckT n ini N (m + 1) sc S c e = true) : PT X e (tTst X.K Q T C S c) ∧ ((∃ op vs pos, e = .BoolOp op vs pos) → PW X e (tTst X.K Q T C S c)) := by
  unfold ckT at h
  split at h
  · split at h
    · exact ⟨tst_not (O.t G GX h).1, fun ⟨_, _, _, e⟩ => by cases e⟩
    · cases h
  · have w := tst_and1 (pos := by assumption) (O.t G GX h).1
    exact ⟨w.pt, fun _ => w⟩
  · have w := tst_or1 (pos := by assumption) (O.t G GX h).1
    exact ⟨w.pt, fun _ => w⟩
  · split at h
    · rw [Bool.and_eq_true] at h
      have w := tst_andC (O.t G GX h.1).1 ((O.t G GX h.2).2 ⟨_, _, _, rfl⟩)
      exact ⟨w.pt, fun _ => w⟩
    · cases h
  · split at h
    · rw [Bool.and_eq_true] at h
      have w := tst_orC (O.t G GX h.1).1 ((O.t G GX h.2).2 ⟨_, _, _, rfl⟩)
      exact ⟨w.pt, fun _ => w⟩
    · cases h
  · split at h
    · simp only [Bool.and_eq_true] at h
      obtain ⟨⟨⟨h1, h2⟩, h3⟩, h4⟩ := h
      exact ⟨tst_cmp G h1 h2 (O.o G GX h3) (O.o G GX h4), fun ⟨_, _, _, e⟩ => by cases e⟩
    · exact ⟨tst_bad, fun ⟨_, _, _, e⟩ => by cases e⟩
    · split at h
      · simp only [Bool.and_eq_true] at h
        obtain ⟨⟨⟨h1, h2⟩, h3⟩, h4⟩ := h
        exact ⟨(snd_tin G GX h1 (of_decide_eq_true h2) h3 (O.e G GX h4)).2, fun ⟨_, _, _, e⟩ => by cases e⟩
      · cases h
    · split at h
      · simp only [Bool.and_eq_true] at h
        obtain ⟨⟨⟨⟨⟨⟨h1, h2⟩, h3⟩, h4⟩, h5⟩, h6⟩, h7⟩ := h
        obtain ⟨p, rfl, hg⟩ := glIs_nm h2
        obtain ⟨p', rfl, hg'⟩ := glIs_nm h3
        exact ⟨(snd_rpeq G GX h1 hg h4 h5 (O.o G GX h6) (O.o G GX h7)).2, fun ⟨_, _, _, e⟩ => by cases e⟩
      · cases h
    · simp only [Bool.and_eq_true] at h
      obtain ⟨⟨⟨⟨h1, h2⟩, h3⟩, h4⟩, h5⟩ := h
      exact ⟨(snd_mq G GX h1 (of_decide_eq_true h2) h3 (O.e G GX h4) (O.e G GX h5)).2, fun ⟨_, _, _, e⟩ => by cases e⟩
    · cases h
  · split at h
    · simp only [Bool.and_eq_true] at h
      obtain ⟨⟨⟨⟨⟨h1, h2⟩, h3⟩, h4⟩, h5⟩, h6⟩ := h
      exact ⟨tst_cmp2 G h1 h2 h3 (O.o G GX h4) (O.o G GX h5) (O.o G GX h6), fun ⟨_, _, _, e⟩ => by cases e⟩
    · cases h
  · rw [Bool.and_eq_true] at h
    exact ⟨tst_val h.1 (O.e G GX h.2), fun ⟨_, _, _, e⟩ => by subst e; cases h.1⟩
theorem own_mem {p : Pat} (h : (ownOf N p).map (·.2) = pslots p) : (∀ i ∈ pslots p, i ∈ (ownOf N p).map (·.2)) ∧ (∀ i ∈ (ownOf N p).map (·.2), i ∈ pslots p) := by
  rw [h]
  exact ⟨fun _ x => x, fun _ x => x⟩
theorem st_l (O : OkM n ini N Q T C m) (G : Gd X N sc k) (GX : GX X n Q T C k) {p : Pat} {it : CE} {cs : List CE} {ce : CE} {elt tg iter : Expr} {ifs : List Expr} {scope : Scope} (h : ckL n ini N (m + 1) sc S p it cs ce elt tg iter ifs scope = true) :
    blkC N sc scope (ownOf N p) = true ∧ PI X tg iter (tIt X.K Q T C S it) ∧ noSet iter = true ∧ 0 ∉ (ownOf N p).map (·.2) ∧ (∀ i ∈ pslots p, i ∈ (ownOf N p).map (·.2)) ∧ (∀ i ∈ (ownOf N p).map (·.2), i ∈ pslots p) ∧
    (∀ (s : Shared) (H : Hp) (Ca : Addr) (cl : List (Str × Addr)) (fp : List Addr), PG (X.blk s H scope (compEnvC scope cl Ca X.env) fp) tg (tG X.K Q S p)) ∧
    (∀ (s : Shared) (H : Hp) (Ca : Addr) (cl : List (Str × Addr)) (fp : List Addr), PTs (X.blk s H scope (compEnvC scope cl Ca X.env) fp) ifs (tCs X.K Q T C S cs)) ∧
    (∀ (s : Shared) (H : Hp) (Ca : Addr) (cl : List (Str × Addr)) (fp : List Addr), PE (X.blk s H scope (compEnvC scope cl Ca X.env) fp) elt (tE X.K Q T C S ce)) := by
  unfold ckL at h
  simp only [Bool.and_eq_true] at h
  obtain ⟨⟨⟨⟨⟨⟨⟨h1, h2⟩, h0⟩, h3⟩, h4⟩, h5⟩, h6⟩, h7⟩ := h
  obtain ⟨o1, o2⟩ := own_mem (of_decide_eq_true h2)
  refine ⟨h1, O.i G GX h4, h3, by simpa using h0, o1, o2, fun s H Ca cl fp => ckG_ok m (G.blk s H Ca cl fp) (fun x hx => hx) h5, fun s H Ca cl fp => ?_, fun s H Ca cl fp => O.e (G.blk s H Ca cl fp) GX h7⟩
  split at h6
  · exact ifs_nil
  · exact ifs_one (O.t (G.blk s H Ca cl fp) GX h6).1
  · cases h6
theorem st_n (O : OkM n ini N Q T C m) (G : Gd X N sc k) (GX : GX X n Q T C k) (h : ckN n ini N (m + 1) sc S c e = true) : PE X e (tN X.K Q T C S c) := by
  unfold ckN at h
  split at h
  · split at h
    · rw [Bool.and_eq_true] at h
      obtain ⟨a1, a2, a3⟩ := O.a G GX h.1
      exact snd_lstN a1 (bigN_le (of_decide_eq_true h.2))
    · cases h
  · split at h
    · exact snd_lsts (ckSp_ok (fun c e h => O.e G GX h) h)
    · cases h
  · split at h
    · exact snd_dct0
    · cases h
  · split at h
    · simp only [Bool.and_eq_true] at h
      obtain ⟨⟨⟨⟨⟨⟨h1, h2⟩, h3⟩, h4⟩, h5⟩, h6⟩, h7⟩ := h
      obtain ⟨k1, k2, k3⟩ := ckK2_ok h1
      obtain ⟨l1, l2⟩ := ckL2_ok h2
      have e3 := of_decide_eq_true h3
      have e4 := of_decide_eq_true h4
      have e5 := of_decide_eq_true h5
      exact snd_dct (pps_of k1 l1 e3 (fun i e c q1 q2 => O.e G GX (k3 i e c q1 q2)) k2 fun i e c q1 q2 => O.e G GX (l2 i e c q1 q2)) (List.all_eq_true.mpr k2) (by omega) (fun z => by rw [z] at k1; simp at k1; omega) (by omega) h6 e3 e4 (of_decide_eq_true h7)
    · cases h
  · split at h
    · simp only [Bool.and_eq_true] at h
      obtain ⟨⟨⟨⟨⟨h1, h2⟩, h3⟩, h4⟩, h5⟩, h6⟩ := h
      obtain ⟨p, rfl, hg⟩ := glIs_nm h1
      obtain ⟨p', rfl, hg'⟩ := glIs_nm h2
      exact snd_listRg2 G GX hg hg' h3 h4 (O.e G GX h5) (O.e G GX h6)
    · split at h
      · simp only [Bool.and_eq_true] at h
        obtain ⟨⟨⟨h1, h2⟩, h3⟩, h4⟩ := h
        obtain ⟨p, rfl, hg⟩ := glIs_nm h1
        obtain ⟨p', rfl, hg'⟩ := glIs_nm h2
        exact snd_listRg1 G GX hg hg' h3 (O.e G GX h4)
      · cases h
    · cases h
  · split at h
    · simp only [Bool.and_eq_true] at h
      obtain ⟨⟨h1, h2⟩, h3⟩ := h
      obtain ⟨p, rfl, hg⟩ := glIs_nm h1
      exact snd_list G GX hg h2 (O.o G GX h3)
    · cases h
  · split at h
    · obtain ⟨l1, l2, l3, l0, l4, l5, l6, l7, l8⟩ := O.l G GX h
      exact snd_lc G l1 l2 l3 l0 l4 l5 l6 l7 l8
    · cases h
  · cases h
theorem st_e (O : OkM n ini N Q T C m) (hini : ∀ c, ini c = true → ∃ f, T.ini c = some f) (G : Gd X N sc k) (GX : GX X n Q T C k) (h : ckE n ini N (m + 1) sc S c e = true) : PE X e (tE X.K Q T C S c) := by
  unfold ckE at h
  split at h
  · rename_i x hx
    obtain ⟨op, pos, rfl⟩ := isOne_ok hx
    exact snd_one (O.e G GX h)
  · split at h
    · rw [Bool.and_eq_true] at h
      exact snd_v G h.1 (by simpa using h.2)
    · obtain ⟨x, p, rfl, hg, hx⟩ := nmOf_ok h
      exact snd_g G GX hx hg
    · split at h
      · exact snd_non
      · cases h
    · split at h
      · rw [beq_iff_eq] at h
        subst h
        exact snd_bl
      · cases h
    · split at h
      · rw [beq_iff_eq] at h
        subst h
        exact snd_int
      · cases h
    · split at h
      · rw [Bool.and_eq_true] at h
        refine snd_str (of_decide_eq_true h.1) fun c hc => of_decide_eq_true (List.all_eq_true.mp h.2 c hc)
      · cases h
    · split at h
      · rw [Bool.and_eq_true] at h
        obtain ⟨a1, a2, a3⟩ := O.a G GX h.1
        exact snd_tup a1 (bigN_le (of_decide_eq_true h.2))
      · cases h
    · split at h
      · simp only [Bool.and_eq_true] at h
        exact snd_bin h.1.1 (O.o G GX h.1.2) (O.o G GX h.2)
      · cases h
    · split at h
      · exact snd_neg (O.e G GX h)
      · cases h
    · split at h
      · exact snd_not2 (O.e G GX h)
      · cases h
    · split at h
      · simp only [Bool.and_eq_true] at h
        obtain ⟨⟨⟨h1, h2⟩, h3⟩, h4⟩ := h
        exact snd_cmp G h1 h2 (O.o G GX h3) (O.o G GX h4)
      · cases h
    · split at h
      · simp only [Bool.and_eq_true] at h
        obtain ⟨⟨⟨⟨⟨h1, h2⟩, h3⟩, h4⟩, h5⟩, h6⟩ := h
        exact snd_cmp2 G h1 h2 h3 (O.o G GX h4) (O.o G GX h5) (O.o G GX h6)
      · cases h
    · split at h
      · rw [Bool.and_eq_true] at h
        exact snd_and (O.e G GX h.1) (O.e G GX h.2)
      · cases h
    · split at h
      · rw [Bool.and_eq_true] at h
        exact snd_or (O.e G GX h.1) (O.e G GX h.2)
      · cases h
    · split at h
      · simp only [Bool.and_eq_true] at h
        exact snd_ite (O.t G GX h.1.1).1 (O.e G GX h.1.2) (O.e G GX h.2)
      · cases h
    · split at h
      · rw [Bool.and_eq_true] at h
        obtain ⟨x, p, rfl, hg, hx⟩ := nmOf_ok h.1
        obtain ⟨a1, a2, a3⟩ := O.a G GX h.2
        exact snd_call G GX hx hg a2 a3 a1
      · cases h
    · split at h
      · simp only [Bool.and_eq_true] at h
        obtain ⟨x, p, rfl, hg, hx⟩ := nmOf_ok h.1.2
        obtain ⟨f, hf⟩ := hini _ h.1.1
        obtain ⟨a1, a2, a3⟩ := O.a G GX h.2
        exact snd_mkN G GX hx hf hg a2 a3 a1
      · cases h
    · split at h
      · simp only [Bool.and_eq_true] at h
        obtain ⟨⟨⟨⟨⟨h1, h2⟩, h3⟩, h4⟩, h5⟩, h6⟩ := h
        obtain ⟨a1, a2, a3⟩ := O.a G GX h6
        exact snd_meth G GX (of_decide_eq_true h1) h2 a2 (of_decide_eq_true h3) h4 a3 (O.e G GX h5) a1
      · cases h
    · split at h
      · simp only [Bool.and_eq_true] at h
        exact snd_fld GX (of_decide_eq_true h.1.1) h.1.2 (O.o G GX h.2)
      · cases h
    · split at h
      · simp only [Bool.and_eq_true] at h
        exact snd_prop G GX (of_decide_eq_true h.1.1) h.1.2 (O.e G GX h.2)
      · cases h
    · split at h
      · simp only [Bool.and_eq_true] at h
        exact snd_idx G h.1.1 (O.o G GX h.1.2) (O.o G GX h.2)
      · cases h
    · split at h
      · simp only [Bool.and_eq_true] at h
        exact snd_sli (O.o G GX h.1.1) (O.p G GX h.1.2) (O.p G GX h.2)
      · cases h
    · split at h
      · exact snd_rev (e3 := .Constant .none 0 default) (O.o G GX h)
      · cases h
    · split at h
      · simp only [Bool.and_eq_true] at h
        obtain ⟨p, rfl, hg⟩ := glIs_nm h.1.1.1
        exact snd_isi G GX h.1.2 hg h.1.1.2 (O.o G GX h.2)
      · cases h
    · exact snd_bad
    · split at h
      · simp only [Bool.and_eq_true] at h
        obtain ⟨⟨h1, h2⟩, h3⟩ := h
        obtain ⟨p, rfl, hg⟩ := glIs_nm h1
        exact snd_slen G GX hg h2 (O.e G GX h3)
      · cases h
    · split at h
      · simp only [Bool.and_eq_true] at h
        obtain ⟨⟨h1, h2⟩, h3⟩ := h
        exact snd_sidx G GX h1 (O.e G GX h2) (O.e G GX h3)
      · cases h
    · split at h
      · simp only [Bool.and_eq_true] at h
        obtain ⟨⟨⟨⟨⟨⟨h1, h2⟩, h3⟩, h4⟩, h5⟩, h6⟩, h7⟩ := h
        obtain ⟨p, rfl, hg⟩ := glIs_nm h2
        obtain ⟨p', rfl, hg'⟩ := glIs_nm h3
        exact (snd_rpeq G GX h1 hg h4 h5 (O.o G GX h6) (O.o G GX h7)).1
      · cases h
    · split at h
      · simp only [Bool.and_eq_true] at h
        obtain ⟨⟨⟨h1, h2⟩, h3⟩, h4⟩ := h
        obtain ⟨p, rfl, hg⟩ := glIs_nm h2
        exact snd_mlen G GX (of_decide_eq_true h1) hg h3 (O.e G GX h4)
      · cases h
    · split at h
      · simp only [Bool.and_eq_true] at h
        obtain ⟨⟨⟨⟨h1, h2⟩, h3⟩, h4⟩, h5⟩ := h
        exact (snd_mq G GX h1 (of_decide_eq_true h2) h3 (O.e G GX h4) (O.e G GX h5)).1
      · cases h
    · split at h
      · simp only [Bool.and_eq_true] at h
        obtain ⟨⟨⟨h1, h2⟩, h3⟩, h4⟩ := h
        exact snd_tix G GX (of_decide_eq_true h1) h2 h3 (O.e G GX h4)
      · cases h
    · split at h
      · simp only [Bool.and_eq_true] at h
        obtain ⟨⟨⟨h1, h2⟩, h3⟩, h4⟩ := h
        exact (snd_tin G GX h1 (of_decide_eq_true h2) h3 (O.e G GX h4)).1
      · cases h
    · split at h
      · exact snd_tups (ckSp_ok (fun c e h => O.e G GX h) h)
      · cases h
    · split at h
      · simp only [Bool.and_eq_true] at h
        obtain ⟨⟨⟨h1, h2⟩, h3⟩, h4⟩ := h
        obtain ⟨p, rfl, hg⟩ := glIs_nm h1
        obtain ⟨p', rfl, hg'⟩ := glIs_nm h2
        exact snd_lenset G GX hg hg' h3 (O.o G GX h4)
      · cases h
    · rw [Bool.or_eq_true] at h
      rcases h with h | h
      · split at h
        · split at h
          · rename_i nm hb
            simp only [Bool.and_eq_true] at h
            obtain ⟨p, rfl, hg⟩ := glIs_nm h.1.1.1
            exact snd_bf1 G GX hb hg h.1.1.2 (O.o G GX h.2) (of_decide_eq_true h.1.2)
          · cases h
        · cases h
      · exact tE.ofNew (O.nw G GX h)
    · split at h
      · simp only [Bool.and_eq_true, Bool.or_eq_true] at h
        obtain ⟨⟨⟨⟨h1, h2⟩, h3⟩, h4⟩, h5⟩ := h
        rcases h1 with h1 | h1
        · obtain ⟨p, rfl, hg⟩ := glIs_nm h1.2
          exact snd_bf2 G GX (.inl ⟨of_decide_eq_true h1.1, rfl⟩) hg h2 h3 (O.o G GX h4) (O.o G GX h5)
        · obtain ⟨p, rfl, hg⟩ := glIs_nm h1.2
          exact snd_bf2 G GX (.inr ⟨of_decide_eq_true h1.1, rfl⟩) hg h2 h3 (O.o G GX h4) (O.o G GX h5)
      · cases h
    · rw [Bool.or_eq_true] at h
      rcases h with h | h
      · split at h
        · simp only [Bool.and_eq_true, Bool.or_eq_true] at h
          obtain ⟨⟨⟨⟨h1, h2⟩, h3⟩, h4⟩, h5⟩ := h
          rcases h5 with (⟨⟨h5, h6⟩, h7⟩ | ⟨⟨h5, h6⟩, h7⟩) | ⟨⟨h5, h6⟩, h7⟩
          · cases of_decide_eq_true h5
            cases of_decide_eq_true h6
            exact snd_split h1 h2 h3 (O.e G GX h4) (O.e G GX h7)
          · cases of_decide_eq_true h5
            cases of_decide_eq_true h6
            exact snd_join h1 h2 h3 (O.e G GX h4) (O.o G GX h7)
          · cases of_decide_eq_true h5
            cases of_decide_eq_true h6
            exact snd_startswith h1 h2 h3 (O.e G GX h4) (O.e G GX h7)
        · cases h
      · split at h
        · simp only [Bool.and_eq_true] at h
          obtain ⟨⟨⟨⟨⟨⟨h1, h2⟩, h3⟩, h4⟩, h5⟩, h6⟩, h7⟩ := h
          cases of_decide_eq_true h1
          cases of_decide_eq_true h2
          exact snd_index h3 h4 h5 (O.o G GX h6) (O.e G GX h7)
        · cases h
    · exact tE.ofNew (O.nw G GX h)
/-- the look is right at every depth -/
theorem okm (hini : ∀ c, ini c = true → ∃ f, T.ini c = some f) : ∀ m, OkM n ini N Q T C m
  | 0 => okm_zero
  | m + 1 => ⟨(fun G GX h => st_e (okm hini m) hini G GX h), (fun G GX h => st_o (okm hini m) G GX h), (fun G GX h => st_n (okm hini m) G GX h), (fun G GX h => st_l (okm hini m) G GX h), (fun G GX h => st_t (okm hini m) G GX h), (fun G GX h => st_a (okm hini m) G GX h), (fun G GX h => st_p (okm hini m) G GX h), (fun G GX h => st_i (okm hini m) G GX h)⟩
end
end MP

set_option Elab.async false
set_option linter.all false
set_option maxRecDepth 100000
/-! MP17: the look at statements, and that it is right. -/
namespace MP
open PySem PySem.Spec PyProof.Rows L2
def allF : Str → Bool := fun _ => true
def notTup : Expr → Bool
  | .Tuple _ _ _ => false
  | _ => true
def nmAt : Expr → Option (Str × Nat)
  | .Name x p => some (x, p.line)
  | _ => none
def isFn : ScopeKind → Bool
  | .function => true
  | _ => false
theorem isFn_ok {k : ScopeKind} (h : isFn k = true) : k = .function := by
  cases k <;> first | rfl | cases h
/-- name = [..]: the store comes ahead of the end (b: it does) -/
def swLc (sc scope : Scope) (tg : Expr) (p2 : Pos) : Option Bool := match tg with
  | .Name y py => if sc.names.lookup y = some .local then
      (if isFn sc.kind && (py.line == p2.line) && !(scope.names.any fun (n, k) => n == y && (k == .local || k == .cell)) then some true else none)
    else some false
  | _ => none
section
variable (n : Nm) (ini : Nat → Bool) (N : List Str)
def ckAM (m : Nat) (sc : Scope) (S : List Nat) : List Bool → List CE → List Expr → Bool
  | [], [], [] => true
  | false :: os, c :: cs, e :: es => noStar e && ckE n ini N m sc S c e && ckAM m sc S os cs es
  | true :: os, c :: cs, e :: es => noStar e && ckN n ini N m sc S c e && ckAM m sc S os cs es
  | _, _, _ => false
/-- the targets of several stores -/
def ckGM (m : Nat) (sc : Scope) : List Nat → List Bool → List Pat → List Expr → Bool
  | _, [], [], [] => true
  | S, false :: os, p :: ps, t :: ts => noStar t && (pslots p).all (fun i => !S.contains i) && ckG N m sc allF S p t && ckGM m sc S os ps ts
  | S, true :: os, .n i :: ps, t :: ts => decide (i ≠ 0) && tgtB N sc allF i t && ckGM m sc (addS S i) os ps ts
  | _, _, _, _ => false
def ckPar (m : Nat) (sc : Scope) (S : List Nat) (ps : List Pat) (os : List Bool) (cs : List CE) (ts vs : List Expr) : Bool :=
  ckAM n ini N m sc S os cs vs && decide (cs.length ≤ bigN) && (match swPure sc ts vs with
    | some none => ts.all noStar && decide (ts.length = ps.length) && ckGM N m sc S os ps ts
    | some (some nms) => parOk S ps os && (match ts, vs, ps with
      | [.Name x _, .Name y _], [_, _], [.n i, .n j] => decide (nms = [x, y]) && decide (N[i]? = some x) && decide (N[j]? = some y) && decide (i ≠ j) && decide (sc.names.lookup x = some .local) && decide (sc.names.lookup y = some .local)
      | [.Name x _, .Name y _, .Name z _], [_, _, _], [.n i, .n j, .n l] => decide (nms = [x, y, z]) && decide (N[i]? = some x) && decide (N[j]? = some y) && decide (N[l]? = some z) && decide (i ≠ j) && decide (i ≠ l) && decide (j ≠ l) && decide (sc.names.lookup x = some .local) && decide (sc.names.lookup y = some .local) && decide (sc.names.lookup z = some .local)
      | _, _, _ => false)
    | none => false)
def both : Option (Option (List Nat)) → Option (Option (List Nat)) → Option (Option (List Nat))
  | some none, r => r
  | r, some none => r
  | some (some a), some (some b) => if a = b then some (some a) else none
  | _, _ => none
def okIf (b : Bool) (r : Option (List Nat)) : Option (Option (List Nat)) := if b then some r else none
mutual
def ckS : Nat → Scope → List Nat → List Nat → CS → Stmt → Option (Option (List Nat))
  | 0, _, _, _, _, _ => none
  | m + 1, sc, S, L, s, st => match s with
    | .set (.n i) c => (match st with
      | .Assign [tg] e _ => (match e with
        | .ListComp elt [⟨tg2, iter, ifs, 0⟩] scope p2 => (match c, swLc sc scope tg p2 with
          | .lc p it cs ce, some true => okIf (tgtB N sc allF i tg && !S.contains i && ckL n ini N m sc S p it cs ce elt tg2 iter ifs scope) (some S)
          | c, some false => okIf (tgtB N sc allF i tg && !S.contains i && ckE n ini N m sc S c e) (some S)
          | _, _ => none)
        | e => okIf (tgtB N sc allF i tg && !S.contains i && noComp e && ckE n ini N m sc S c e) (some S))
      | _ => none)
    | .set (.t ps) c => (match st with
      | .Assign [tg] e _ => okIf (notTup e && noComp e && noStar tg && ckG N m sc allF S (.t ps) tg && ckE n ini N m sc S c e) (some S)
      | _ => none)
    | .seto i c => if i = 0 then none else (match st with
      | .Assign [tg] e _ => (match e with
        | .ListComp elt [⟨tg2, iter, ifs, 0⟩] scope p2 => (match c, swLc sc scope tg p2 with
          | .lc p it cs ce, some true => okIf (tgtB N sc allF i tg && ckL n ini N m sc S p it cs ce elt tg2 iter ifs scope) (some (addS S i))
          | c, some false => okIf (tgtB N sc allF i tg && ckN n ini N m sc S c e) (some (addS S i))
          | _, _ => none)
        | e => okIf (tgtB N sc allF i tg && noComp e && ckN n ini N m sc S c e) (some (addS S i)))
      | _ => none)
    | .par ps os cs => (match st with
      | .Assign [.Tuple ts _ _] (.Tuple vs _ _) _ => okIf (ckPar n ini N m sc S ps os cs ts vs) (some (addAt S ps os))
      | _ => none)
    | .aug i o c => (match st with
      | .AugAssign tg op e _ => okIf ((match o, op with | .add, .Add => true | .sub, .Sub => true | _, _ => false) && tgtB N sc allF i tg && !S.contains i && ckE n ini N m sc S c e) (some S)
      | _ => none)
    | .app i c => (match st with
      | .Expr (.Call (.Attribute o nm apos) [e] [] pos) _ => okIf (decide (nm = "append") && isSlot N sc i o && S.contains i && noStar e && (apos.endLine == pos.line) && ckE n ini N m sc S c e) (some S)
      | _ => none)
    | .ext i c => (match st with
      | .Expr (.Call (.Attribute o nm apos) [e] [] pos) _ => okIf (decide (nm = "extend") && isSlot N sc i o && S.contains i && noStar e && (apos.endLine == pos.line) && ckE n ini N m sc S c e) (some S)
      | _ => none)
    | .insr i a c => (match st with
      | .Expr (.Call (.Attribute o nm apos) [x, e] [] pos) _ => okIf (decide (nm = "insert") && isSlot N sc i o && S.contains i && noStar x && noStar e && (apos.endLine == pos.line) && ckE n ini N m sc S a x && ckE n ini N m sc S c e) (some S)
      | _ => none)
    | .seti i a c => (match st with
      | .Assign [.Subscript o x _] e _ => okIf (isSlot N sc i o && S.contains i && plainIx x && ckE n ini N m sc S a x && ckE n ini N m sc S c e) (some S)
      | _ => none)
    | .setf i f c => (match st with
      | .Assign [.Attribute o nm _] e _ => okIf (isSlot N sc i o && S.contains i && noComp e && decide (n.at_ nm = some f) && ckE n ini N m sc S c e) (some S)
      | _ => none)
    | .ex c => (match st with
      | .Expr e _ => okIf (noComp e && ckE n ini N m sc S c e) (some S)
      | _ => none)
    | .ite c a b => (match st with
      | .If t x y _ => if ckT n ini N m sc S c t then both (ckSs m sc S L a x) (ckSs m sc S L b y) else none
      | _ => none)
    | .for_ p c b => (match st with
      | .For tg iter body [] _ => if ckI n ini N m sc S c tg iter && noSet iter && ckG N m sc allF S p tg then (match ckSs m sc S S b body with
        | some none => some (some S)
        | some (some S1) => okIf (decide (S1 = S)) (some S)
        | none => none) else none
      | _ => none)
    | .whl c b => (match st with
      | .While t body [] _ => if ckT n ini N m sc S c t then (match ckSs m sc S S b body with
        | some none => some (some S)
        | some (some S1) => okIf (decide (S1 = S)) (some S)
        | none => none) else none
      | _ => none)
    | .ret c => (match st with
      | .Return (some e) _ => okIf (ckE n ini N m sc S c e) none
      | _ => none)
    | .retn => (match st with
      | .Return none _ => some none
      | _ => none)
    | .pas => (match st with
      | .Pass _ => some (some S)
      | _ => none)
    | .brk => (match st with
      | .Break _ => okIf (decide (S = L)) none
      | _ => none)
    | .cnt => (match st with
      | .Continue _ => okIf (decide (S = L)) none
      | _ => none)
    | .never => some none
    | .appop i j c => (match st with
      | .Expr (.Call (.Attribute o nm apos) [.Call (.Attribute o2 nm2 apos2) [e] [] pos2] [] pos) _ => okIf (decide (nm = "append") && decide (nm2 = "pop") && isSlot N sc i o && S.contains i && isSlot N sc j o2 && S.contains j && noStar e && (apos.endLine == pos.line) && (apos2.endLine == pos2.line) && ckE n ini N m sc S c e) (some S)
      | _ => none)
    | .setw i a c => (match st with
      | .Assign [.Subscript o x _] e _ => okIf (isSlot N sc i o && !S.contains i && plainIx x && ckE n ini N m sc S a x && ckE n ini N m sc S c e) (some S)
      | _ => none)
    | .retw c => (match st with
      | .Return (some e) _ => okIf (ckN n ini N m sc S c e) none
      | _ => none)
    | .sets (true :: fl) (.n i :: ps) c => (match st with
      | .Assign [.Tuple (.Starred t0 _ :: es) _ _] e _ => okIf (noStar t0 && decide (es.length = ps.length) && noComp e && notTup e && (t0 :: es).all noStar && ((Pat.n i :: ps).zip (t0 :: es)).all (fun q => ckG N m sc allF S q.1 q.2) && S.all (fun j => !(pslotsL (.n i :: ps)).contains j) && ckE n ini N m sc S c e) (some S)
      | _ => none)
    | _ => none
def ckSs : Nat → Scope → List Nat → List Nat → List CS → List Stmt → Option (Option (List Nat))
  | 0, _, _, _, _, _ => none
  | m + 1, sc, S, L, cs, sts => match cs with
    | [] => (match sts with
      | [] => some (some S)
      | _ => none)
    | .mv i :: cs => if i = 0 then none else ckSs m sc (S.filter (· ≠ i)) L cs sts
    | s :: cs => (match sts with
      | st :: sts => (match ckS m sc S L s st with
        | some (some S1) => ckSs m sc S1 L cs sts
        | some none => (match cs, sts with
          | [], [] => some none
          | _, _ => none)
        | none => none)
      | [] => none)
end
end
section
variable {Q : Cls} {T : Tb} {C : CallF} {n : Nm} {N : List Str} {ini : Nat → Bool}
variable {X : Cx} {sc : Scope} {k : Nat} {S L : List Nat} {c : CE} {e tg : Expr} {m : Nat}
theorem ckAM_ok (hini : ∀ c, ini c = true → ∃ f, T.ini c = some f) (G : Gd X N sc k) (GX : GX X n Q T C k) : ∀ {os : List Bool} {cs : List CE} {es : List Expr}, ckAM n ini N m sc S os cs es = true → PA X es (tAM X.K Q T C S os cs)
  | [], [], [], _ => am_nil
  | false :: os, c :: cs, e :: es, h => by
    have h' : (noStar e && ckE n ini N m sc S c e && ckAM n ini N m sc S os cs es) = true := h
    simp only [Bool.and_eq_true] at h'
    exact am_val h'.1.1 ((okm hini m).e G GX h'.1.2) (ckAM_ok hini G GX h'.2)
  | true :: os, c :: cs, e :: es, h => by
    have h' : (noStar e && ckN n ini N m sc S c e && ckAM n ini N m sc S os cs es) = true := h
    simp only [Bool.and_eq_true] at h'
    exact am_new h'.1.1 ((okm hini m).nw G GX h'.1.2) (ckAM_ok hini G GX h'.2)
  | [], [], _ :: _, h | [], _ :: _, _, h => by cases h
  | false :: _, [], _, h | true :: _, [], _, h => by cases h
  | false :: _, _ :: _, [], h | true :: _, _ :: _, [], h => by cases h
theorem ckGM_ok (G : Gd X N sc k) (hfb : ∀ x, allF x = true → X.fn x = true) : ∀ {os : List Bool} {S : List Nat} {ps : List Pat} {ts : List Expr}, ckGM N m sc S os ps ts = true → PGs X ts (tGM X.K Q S ps os)
  | [], S, [], [], _ => gm_nil
  | false :: os, S, p :: ps, t :: ts, h => by
    have h' : (noStar t && (pslots p).all (fun i => !S.contains i) && ckG N m sc allF S p t && ckGM N m sc S os ps ts) = true := h
    simp only [Bool.and_eq_true] at h'
    exact gm_val h'.1.1.1 h'.1.1.2 (ckG_ok m G hfb h'.1.2) (ckGM_ok G hfb h'.2)
  | true :: os, S, .n i :: ps, t :: ts, h => by
    have h' : (decide (i ≠ 0) && tgtB N sc allF i t && ckGM N m sc (addS S i) os ps ts) = true := h
    rw [Bool.and_eq_true, Bool.and_eq_true] at h'
    exact gm_new G hfb (of_decide_eq_true h'.1.1) h'.1.2 (ckGM_ok G hfb h'.2)
  | true :: os, S, .t _ :: ps, t :: ts, h => by cases h
  | [], _, _ :: _, _, h | [], _, [], _ :: _, h => by cases h
  | false :: _, _, [], _, h | false :: _, _, _ :: _, [], h => by cases h
  | true :: _, _, [], _, h | true :: _, _, .n _ :: _, [], h | true :: _, _, .t _ :: _, [], h => by cases h
theorem ckPar_ok (hini : ∀ c, ini c = true → ∃ f, T.ini c = some f) (G : Gd X N sc k) (GX : GX X n Q T C k) (hfb : ∀ x, allF x = true → X.fn x = true) {ps : List Pat} {os : List Bool} {cs : List CE} {ts vs : List Expr} {kt k2 : Nat} {p1 p2 pos : Pos} (h : ckPar n ini N m sc S ps os cs ts vs = true) :
    PS X (.Assign [.Tuple ts kt p1] (.Tuple vs k2 p2) pos) (tS X.K Q T C S (addAt S ps os) L (.par ps os cs)) := by
  unfold ckPar at h
  simp only [Bool.and_eq_true] at h
  obtain ⟨⟨h1, h2⟩, h3⟩ := h
  have ha := ckAM_ok hini G GX h1
  cases hw : swPure sc ts vs with
  | none => rw [hw] at h3; cases h3
  | some r =>
    rw [hw] at h3
    cases r with
    | none =>
      simp only [Bool.and_eq_true] at h3
      exact ss_parG G (swPure_ok G.sc hw) h3.1.1 (of_decide_eq_true h3.1.2) (bigN_le (of_decide_eq_true h2)) (ckGM_ok G hfb h3.2) ha
    | some nms =>
      rw [Bool.and_eq_true] at h3
      obtain ⟨h4, h5⟩ := h3
      split at h5
      · simp only [Bool.and_eq_true] at h5
        obtain ⟨⟨⟨⟨⟨g1, g2⟩, g3⟩, g4⟩, g5⟩, g6⟩ := h5
        cases of_decide_eq_true g1
        exact ss_par2 G (of_decide_eq_true g2) (of_decide_eq_true g3) (of_decide_eq_true g4) (of_decide_eq_true g5) (of_decide_eq_true g6) hw h4 ha
      · simp only [Bool.and_eq_true] at h5
        obtain ⟨⟨⟨⟨⟨⟨⟨⟨⟨g1, g2⟩, g3⟩, g4⟩, g5⟩, g6⟩, g7⟩, g8⟩, g9⟩, g10⟩ := h5
        cases of_decide_eq_true g1
        exact ss_par3 G (of_decide_eq_true g2) (of_decide_eq_true g3) (of_decide_eq_true g4) (of_decide_eq_true g5) (of_decide_eq_true g6) (of_decide_eq_true g7) (of_decide_eq_true g8) (of_decide_eq_true g9) (of_decide_eq_true g10) hw h4 ha
      · cases h5
end
end MP

set_option Elab.async false
set_option linter.all false
set_option maxRecDepth 100000
/-! MP18: the look at statements is right. -/
namespace MP
open PySem PySem.Spec PyProof.Rows L2
def Res (r : Option (List Nat)) (P : List Nat → Prop) : Prop := match r with
  | some S' => P S'
  | none => ∀ S', P S'
theorem okIf_ok {b : Bool} {r : Option (List Nat)} {o : Option (List Nat)} (h : okIf b r = some o) : b = true ∧ r = o := by
  unfold okIf at h
  split at h
  · cases h; exact ⟨by assumption, rfl⟩
  · cases h
section
variable {Q : Cls} {T : Tb} {C : CallF} {n : Nm} {N : List Str} {ini : Nat → Bool}
variable {X : Cx} {sc : Scope} {k : Nat} {S L : List Nat} {c ca : CE} {e tg : Expr} {m : Nat} {pos : Pos} {fb : Str → Bool}
theorem ss_setW (G : Gd X N sc k) (hfb : ∀ x, fb x = true → X.fn x = true) {i : Nat} (ht : tgtB N sc fb i tg = true) (hi : i ∉ S) (hn : swapsWith e (some tg) pos.line X.env = pure false) (ha : PE X e (tE X.K Q T C S ca)) : PS X (.Assign [tg] e pos) (tS X.K Q T C S S L (.set (.n i) ca)) := by
  obtain ⟨x, p, rfl, hN, hl, hf⟩ := tgtB_ok ht
  exact (ps_set G.nd (by rw [G.nm]; exact hN) (by rw [G.sc]; exact hl) ha hn (hf.elim (fun z => .inl (hfb x z)) fun z => .inr (by rw [G.sc]; exact z))).imp (asg_imp hi)
theorem ss_setoW (G : Gd X N sc k) (hfb : ∀ x, fb x = true → X.fn x = true) {i : Nat} (hi0 : i ≠ 0) (ht : tgtB N sc fb i tg = true) (hn : swapsWith e (some tg) pos.line X.env = pure false) (ha : PE X e (tN X.K Q T C S ca)) : PS X (.Assign [tg] e pos) (tS X.K Q T C S (addS S i) L (.seto i ca)) := by
  obtain ⟨x, p, rfl, hN, hl, hf⟩ := tgtB_ok ht
  exact (ps_set G.nd (by rw [G.nm]; exact hN) (by rw [G.sc]; exact hl) ha hn (hf.elim (fun z => .inl (hfb x z)) fun z => .inr (by rw [G.sc]; exact z))).imp (asgN_imp hi0)
theorem swLc_false {scope : Scope} {p2 : Pos} {elt : Expr} {gs : List Comprehension} {l : Nat} (G : Gd X N sc k) (h : swLc sc scope tg p2 = some false) : swapsWith (.ListComp elt gs scope p2) (some tg) l X.env = pure false := by
  cases tg <;> try (cases h; done)
  rename_i y py
  unfold swLc at h
  dsimp only at h
  split at h
  · exfalso
    split at h
    · injection h with h; cases h
    · cases h
  · rename_i hy
    have e : (X.env.kindOf y == some NameKind.local) = false := by
      rw [beq_eq_false_iff_ne]
      show X.env.scope.names.lookup y ≠ _
      rw [G.sc]
      exact hy
    unfold swapsWith
    dsimp only
    rw [e]
    simp
theorem swLc_true {scope : Scope} {p2 : Pos} (h : swLc sc scope tg p2 = some true) : ∃ y py, tg = .Name y py ∧ sc.names.lookup y = some .local ∧ sc.kind = .function ∧ (py.line == p2.line) = true ∧ (scope.names.any fun (n, k) => n == y && (k == .local || k == .cell)) = false := by
  cases tg <;> try (cases h; done)
  rename_i y py
  unfold swLc at h
  dsimp only at h
  split at h
  · rename_i hy
    split at h
    · rename_i h2
      rw [Bool.and_eq_true, Bool.and_eq_true, Bool.not_eq_true'] at h2
      exact ⟨y, py, rfl, hy, isFn_ok h2.1.1, h2.1.2, h2.2⟩
    · cases h
  · cases h
theorem ckGs_ok (G : Gd X N sc k) (hfb : ∀ x, allF x = true → X.fn x = true) : ∀ {es : List Expr} {ps : List Pat}, es.all noStar = true → es.length = ps.length → ((ps.zip es).all fun q => ckG N m sc allF S q.1 q.2) = true → PGs X es (tGs X.K Q S ps)
  | [], ps, _, hl, _ => by
    have : ps = [] := List.eq_nil_of_length_eq_zero hl.symm
    subst this
    exact tgt_nil
  | e :: es, [], _, hl, _ => by cases hl
  | e :: es, p :: ps, h1, hl, h3 => by
    rw [List.all_cons, Bool.and_eq_true] at h1
    rw [List.zip_cons_cons, List.all_cons, Bool.and_eq_true] at h3
    exact tgt_cons h1.1 (ckG_ok m G hfb h3.1) (ckGs_ok G hfb h1.2 (by simpa using hl) h3.2)
theorem tgtB_nm {y : Str} {py : Pos} {i : Nat} (h : tgtB N sc fb i (.Name y py) = true) : N[i]? = some y := by
  simp only [tgtB, Bool.and_eq_true, decide_eq_true_eq] at h
  exact h.1
theorem sw_notTup (h : notTup e = true) (ht : True) : swappedStores [tg] e X.env = pure none := by
  cases e <;> first | (cases tg <;> rfl) | cases h
theorem mem_of {i : Nat} (h : S.contains i = true) : i ∈ S := by simpa using h
theorem not_mem_of {i : Nat} (h : (!S.contains i) = true) : i ∉ S := by simpa using h
structure OkS (n : Nm) (ini : Nat → Bool) (N : List Str) (Q : Cls) (T : Tb) (C : CallF) (m : Nat) : Prop where
  s : ∀ {X : Cx} {sc : Scope} {k : Nat} {S L : List Nat} {c : CS} {st : Stmt} {r : Option (List Nat)}, Gd X N sc k → GX X n Q T C k → (∀ x, allF x = true → X.fn x = true) → PassesOwn (model X.prog X.w) X.A X.env X.xe → ckS n ini N m sc S L c st = some r → Res r fun S' => PS X st (tS X.K Q T C S S' L c)
  ss : ∀ {X : Cx} {sc : Scope} {k : Nat} {S L : List Nat} {cs : List CS} {sts : List Stmt} {r : Option (List Nat)}, Gd X N sc k → GX X n Q T C k → (∀ x, allF x = true → X.fn x = true) → PassesOwn (model X.prog X.w) X.A X.env X.xe → ckSs n ini N m sc S L cs sts = some r → Res r fun S' => PSs X sts (tSs X.K Q T C S S' L cs)
theorem oks_zero : OkS n ini N Q T C 0 := ⟨(fun _ _ _ _ h => by cases h), (fun _ _ _ _ h => by cases h)⟩
theorem both_ok {a b : Option (Option (List Nat))} {r : Option (List Nat)} {P P2 P3 : List Nat → Prop} (h : both a b = some r) (ha : ∀ ra, a = some ra → Res ra P) (hb : ∀ rb, b = some rb → Res rb P2) (hc : ∀ S', P S' → P2 S' → P3 S') : Res r P3 := by
  match a, b, h with
  | some none, some none, h => cases h; exact fun S' => hc S' (ha _ rfl S') (hb _ rfl S')
  | some none, some (some y), h => cases h; exact hc y (ha _ rfl y) (hb _ rfl)
  | some (some x), some none, h => cases h; exact hc x (ha _ rfl) (hb _ rfl x)
  | some (some x), some (some y), h =>
    have h' : (if x = y then some (some x) else none) = some r := h
    split at h'
    · rename_i e
      cases h'
      subst e
      exact hc x (ha _ rfl) (hb _ rfl)
    · cases h'
  | none, none, h => cases h
  | none, some none, h => cases h
  | none, some (some _), h => cases h
  | some none, none, h => cases h
  | some (some _), none, h => cases h
theorem os_ss (O : OkS n ini N Q T C m) (G : Gd X N sc k) (GX : GX X n Q T C k) (hfb : ∀ x, allF x = true → X.fn x = true) (hp : PassesOwn (model X.prog X.w) X.A X.env X.xe) {cs : List CS} {sts : List Stmt} {r : Option (List Nat)} (h : ckSs n ini N (m + 1) sc S L cs sts = some r) : Res r fun S' => PSs X sts (tSs X.K Q T C S S' L cs) := by
  unfold ckSs at h
  split at h
  · split at h
    · cases h
      exact ss_nil
    · cases h
  · split at h
    · cases h
    rename_i hi0
    have q := O.ss G GX hfb hp h
    cases r with
    | none => exact fun S' => ss_mv hi0 (q S')
    | some S1 => exact ss_mv hi0 q
  · split at h
    · split at h
      · rename_i S1 e1
        have q1 : PS X _ _ := O.s G GX hfb hp e1
        have q := O.ss G GX hfb hp h
        cases r with
        | none => exact fun S' => ss_cons q1 (q S')
        | some S2 => exact ss_cons q1 q
      · rename_i e1
        have q1 := O.s G GX hfb hp e1
        split at h
        · cases h
          exact fun S' => ss_cons (q1 S') ss_nil
        · cases h
      · cases h
    · cases h
theorem os_s (hini : ∀ c, ini c = true → ∃ f, T.ini c = some f) (O : OkS n ini N Q T C m) (G : Gd X N sc k) (GX : GX X n Q T C k) (hfb : ∀ x, allF x = true → X.fn x = true) (hp : PassesOwn (model X.prog X.w) X.A X.env X.xe) {s : CS} {st : Stmt} {r : Option (List Nat)} (h : ckS n ini N (m + 1) sc S L s st = some r) : Res r fun S' => PS X st (tS X.K Q T C S S' L s) := by
  have E := okm (n := n) (N := N) (Q := Q) (C := C) hini m
  unfold ckS at h
  split at h
  · -- set
    split at h
    · split at h
      · split at h
        · rename_i hsw
          obtain ⟨hbq, rfl⟩ := okIf_ok h; clear h; have h := hbq; clear hbq
          simp only [Bool.and_eq_true] at h
          obtain ⟨y, py, rfl, h1, h2, h3, h4⟩ := swLc_true hsw
          obtain ⟨l1, l2, l3, l0, l4, l5, l6, l7, l8⟩ := E.l G GX h.2
          exact lcSet (st_lc G (tgtB_nm h.1.1) h2 h1 h3 h4 l1 l2 l3 l0 l4 l5 l6 l7 l8) (not_mem_of h.1.2)
        · rename_i hsw
          obtain ⟨hbq, rfl⟩ := okIf_ok h; clear h; have h := hbq; clear hbq
          simp only [Bool.and_eq_true] at h
          exact ss_setW G hfb h.1.1 (not_mem_of h.1.2) (swLc_false G hsw) (E.e G GX h.2)
        · cases h
      · obtain ⟨hbq, rfl⟩ := okIf_ok h; clear h; have h := hbq; clear hbq
        simp only [Bool.and_eq_true] at h
        exact ss_set G hfb h.1.1.1 (not_mem_of h.1.1.2) h.1.2 (E.e G GX h.2)
    · cases h
  · split at h
    · obtain ⟨hbq, rfl⟩ := okIf_ok h; clear h; have h := hbq; clear hbq
      simp only [Bool.and_eq_true] at h
      obtain ⟨⟨⟨⟨h1, h2⟩, h3⟩, h4⟩, h5⟩ := h
      exact ss_setp (sw_notTup h1 trivial) h2 h3 (ckG_ok m G hfb h4) (E.e G GX h5)
    · cases h
  · -- seto
    split at h
    · cases h
    rename_i hi0
    split at h
    · split at h
      · split at h
        · rename_i hsw
          obtain ⟨hbq, rfl⟩ := okIf_ok h; clear h; have h := hbq; clear hbq
          simp only [Bool.and_eq_true] at h
          obtain ⟨y, py, rfl, h1, h2, h3, h4⟩ := swLc_true hsw
          obtain ⟨l1, l2, l3, l0, l4, l5, l6, l7, l8⟩ := E.l G GX h.2
          exact lcSetN hi0 (st_lc G (tgtB_nm h.1) h2 h1 h3 h4 l1 l2 l3 l0 l4 l5 l6 l7 l8)
        · rename_i hsw
          obtain ⟨hbq, rfl⟩ := okIf_ok h; clear h; have h := hbq; clear hbq
          simp only [Bool.and_eq_true] at h
          exact ss_setoW G hfb hi0 h.1 (swLc_false G hsw) (E.nw G GX h.2)
        · cases h
      · obtain ⟨hbq, rfl⟩ := okIf_ok h; clear h; have h := hbq; clear hbq
        simp only [Bool.and_eq_true] at h
        exact ss_seto G hfb hi0 h.1.1 h.1.2 (E.nw G GX h.2)
    · cases h
  · split at h
    · obtain ⟨hbq, rfl⟩ := okIf_ok h; clear h; have h := hbq; clear hbq
      exact ckPar_ok hini G GX hfb h
    · cases h
  · split at h
    · obtain ⟨hbq, rfl⟩ := okIf_ok h; clear h; have h := hbq; clear hbq
      simp only [Bool.and_eq_true] at h
      exact ss_aug G hfb h.1.1.1 h.1.1.2 (not_mem_of h.1.2) (E.e G GX h.2)
    · cases h
  · split at h
    · obtain ⟨hbq, rfl⟩ := okIf_ok h; clear h; have h := hbq; clear hbq
      simp only [Bool.and_eq_true] at h
      obtain ⟨⟨⟨⟨⟨h1, h2⟩, h3⟩, h4⟩, h5⟩, h6⟩ := h
      cases of_decide_eq_true h1
      exact ss_app G h2 (mem_of h3) h4 h5 (E.e G GX h6)
    · cases h
  · split at h
    · obtain ⟨hbq, rfl⟩ := okIf_ok h; clear h; have h := hbq; clear hbq
      simp only [Bool.and_eq_true] at h
      obtain ⟨⟨⟨⟨⟨h1, h2⟩, h3⟩, h4⟩, h5⟩, h6⟩ := h
      cases of_decide_eq_true h1
      exact ss_ext G h2 (mem_of h3) h4 h5 (E.e G GX h6)
    · cases h
  · split at h
    · obtain ⟨hbq, rfl⟩ := okIf_ok h; clear h; have h := hbq; clear hbq
      simp only [Bool.and_eq_true] at h
      obtain ⟨⟨⟨⟨⟨⟨⟨h1, h2⟩, h3⟩, h4⟩, h5⟩, h6⟩, h7⟩, h8⟩ := h
      cases of_decide_eq_true h1
      exact ss_insr G h2 (mem_of h3) h4 h5 h6 (E.e G GX h7) (E.e G GX h8)
    · cases h
  · split at h
    · obtain ⟨hbq, rfl⟩ := okIf_ok h; clear h; have h := hbq; clear hbq
      simp only [Bool.and_eq_true] at h
      obtain ⟨⟨⟨⟨h1, h2⟩, h3⟩, h4⟩, h5⟩ := h
      exact ss_seti G h1 (mem_of h2) h3 (E.e G GX h4) (E.e G GX h5)
    · cases h
  · split at h
    · obtain ⟨hbq, rfl⟩ := okIf_ok h; clear h; have h := hbq; clear hbq
      simp only [Bool.and_eq_true] at h
      obtain ⟨⟨⟨⟨h1, h2⟩, h3⟩, h4⟩, h5⟩ := h
      exact ss_setf G GX h1 (mem_of h2) h3 (of_decide_eq_true h4) (E.e G GX h5)
    · cases h
  · split at h
    · obtain ⟨hbq, rfl⟩ := okIf_ok h; clear h; have h := hbq; clear hbq
      simp only [Bool.and_eq_true] at h
      exact ss_ex h.1 (E.e G GX h.2)
    · cases h
  · split at h
    · split at h
      · rename_i ht
        exact both_ok h (fun ra ea => O.ss G GX hfb hp ea) (fun rb eb => O.ss G GX hfb hp eb) fun S' a b => ss_if (E.t G GX ht).1 a b
      · cases h
    · cases h
  · split at h
    · split at h
      · rename_i hh
        simp only [Bool.and_eq_true] at hh
        split at h
        · rename_i eb
          cases h
          exact ss_for G hp (E.i G GX hh.1.1) hh.1.2 (ckG_ok m G hfb hh.2) ((O.ss G GX hfb hp eb : ∀ S', _) _)
        · rename_i S1 eb
          obtain ⟨hbq, rfl⟩ := okIf_ok h; clear h; have h := hbq; clear hbq
          cases of_decide_eq_true h
          exact ss_for G hp (E.i G GX hh.1.1) hh.1.2 (ckG_ok m G hfb hh.2) (O.ss G GX hfb hp eb)
        · cases h
      · cases h
    · cases h
  · split at h
    · split at h
      · rename_i hh
        split at h
        · rename_i eb
          cases h
          exact ss_while hp (E.t G GX hh).1 ((O.ss G GX hfb hp eb : ∀ S', _) _)
        · rename_i S1 eb
          obtain ⟨hbq, rfl⟩ := okIf_ok h; clear h; have h := hbq; clear hbq
          cases of_decide_eq_true h
          exact ss_while hp (E.t G GX hh).1 (O.ss G GX hfb hp eb)
        · cases h
      · cases h
    · cases h
  · split at h
    · obtain ⟨hbq, rfl⟩ := okIf_ok h; clear h; have h := hbq; clear hbq
      exact fun S' => ss_ret (E.e G GX h)
    · cases h
  · split at h
    · cases h
      exact fun S' => ss_retn
    · cases h
  · split at h
    · cases h
      exact ss_pass
    · cases h
  · split at h
    · obtain ⟨hbq, rfl⟩ := okIf_ok h; clear h; have h := hbq; clear hbq
      cases of_decide_eq_true h
      exact fun S' => ss_brk
    · cases h
  · split at h
    · obtain ⟨hbq, rfl⟩ := okIf_ok h; clear h; have h := hbq; clear hbq
      cases of_decide_eq_true h
      exact fun S' => ss_cnt
    · cases h
  · cases h
    exact fun S' => ss_never
  · split at h
    · obtain ⟨hbq, rfl⟩ := okIf_ok h; clear h; have h := hbq; clear hbq
      simp only [Bool.and_eq_true] at h
      obtain ⟨⟨⟨⟨⟨⟨⟨⟨⟨h1, h2⟩, h3⟩, h4⟩, h5⟩, h6⟩, h7⟩, h8⟩, h9⟩, h10⟩ := h
      cases of_decide_eq_true h1
      cases of_decide_eq_true h2
      exact ss_appop G h3 (mem_of h4) h5 (mem_of h6) h7 h8 h9 (E.e G GX h10)
    · cases h
  · split at h
    · obtain ⟨hbq, rfl⟩ := okIf_ok h; clear h; have h := hbq; clear hbq
      simp only [Bool.and_eq_true] at h
      obtain ⟨⟨⟨⟨h1, h2⟩, h3⟩, h4⟩, h5⟩ := h
      exact ss_setw G h1 (not_mem_of h2) h3 (E.e G GX h4) (E.e G GX h5)
    · cases h
  · split at h
    · obtain ⟨hbq, rfl⟩ := okIf_ok h; clear h; have h := hbq; clear hbq
      exact fun S' => ss_retw (E.nw G GX h)
    · cases h
  · split at h
    · obtain ⟨hbq, rfl⟩ := okIf_ok h; clear h; have h := hbq; clear hbq
      simp only [Bool.and_eq_true] at h
      obtain ⟨⟨⟨⟨⟨⟨⟨h1, h2⟩, h3⟩, h4⟩, h5⟩, h6⟩, h7⟩, h8⟩ := h
      refine ss_sets G h1 (of_decide_eq_true h2) h3 (ckGs_ok G hfb h5 (by simp [of_decide_eq_true h2]) h6) (fun j hj => ?_) (sw_notTup h4 trivial) (E.e G GX h8)
      have := List.all_eq_true.mp h7 j hj
      simpa using this
    · cases h
  · cases h
theorem oks (hini : ∀ c, ini c = true → ∃ f, T.ini c = some f) : ∀ m, OkS n ini N Q T C m
  | 0 => oks_zero
  | m + 1 => ⟨(fun G GX hfb hp h => os_s hini (oks hini m) G GX hfb hp h), (fun G GX hfb hp h => os_ss (oks hini m) G GX hfb hp h)⟩
end
end MP

set_option Elab.async false
set_option linter.all false
set_option maxRecDepth 100000
/-! MP19: a def by its body: what it promises by data. -/
namespace MP
open PySem PySem.Spec PyProof.Rows L2
section
variable {P : Program} {w : World} {K : PySem.W.Frag} {mg : Str → Option Value} {base : Heap} {k : Nat} {f : Addr} {name qual : Str} {params : Arguments} {body : List Stmt} {scope : Scope} {dV kV doc pm cdv ct oc : Value} {an od : Option Addr}
    {osl : Array (Option Value)} {N ps : List Str}
/-- a def by its body, where nothing shows itself and nothing is let out -/
theorem defG {sp : List V → Hp → VK → Prop} (lk : K.lookup f = some ⟨oc, od, .func (PySem.W.fnOf name qual params body scope dV kV doc pm an cdv ct), osl⟩) (hcd : PySem.W.codeIn K cdv qual = true) (FS : FnScope N ps scope)
    (len : ∀ vs H Z, sp vs H Z → vs.length = ps.length)
    (hb : ∀ (A : Around) (outer : List Env) (s : Shared) (H : Hp) (vs : List V) (Z : VK), Room k (A.deeper (envOfC qual scope s.heap.objs.size f cdv)) → A.guards = some [] → sp vs H Z →
      ∃ t, PSs (cxOf CX0 P w K mg base N qual scope f cdv A outer s H E0) body t ∧ t { nx := fun _ H' => Z .non H', rt := Z } (L2.start N vs) H) :
    FnG P w K mg base (k + 1) f (PySem.W.fnOf name qual params body scope dV kV doc pm an cdv ct) ps sp where
  len := len
  run := by
    intro A outer s H args us vs Z room hg env bt rv hsp
    have hlen := len vs H Z hsp
    have inK : K.In s.heap := env.mod.kin.keeps fun b o e => (env.bs b o e).1
    have noLim : s.heap.NoLimit := env.mod.nolimit.keeps fun b o e => (env.bs b o e).1
    have kinds : ∀ y ∈ ps.zip us, scope.names.lookup y.1 = some .local ∨ (scope.names.lookup y.1 = some .cell ∧ ((cellsFrom (s.heap.objs.size + 1) scope.names []).lookup y.1).isSome = true) := by
      rintro ⟨x, v⟩ hy
      exact (FS.par x (List.of_mem_zip hy).1).imp id fun q => ⟨q, PySem.W.cellsFrom_some _ _ _ (.inl q)⟩
    apply codeAny_call_function room.depth (inK _ _ lk) rfl FS.co FS.gen rfl (PySem.W.codeRec_of inK hcd)
    apply bt
    apply wpAny_newFunctionEnv_cells FS.kind kinds
    rintro env' rfl s1 x
    refine ⟨noLim.keeps x.toInCall.keep, ?_⟩
    apply codeAny_func
    obtain ⟨t, run, q⟩ := hb A outer s H vs Z (room.deeper _) hg hsp
    have I := inv_start (CX := CX0) (E := E0) FS room.hd env hlen rv x
    refine wpAny_mono (run.run [] s1 (L2.start N vs) H _ I q) ?_ fun _ _ z => z
    intro fl s' hs
    match fl, hs with
    | .ret u, ⟨v, σ', H', J, r1, r2⟩ => exact ⟨v, H', J.os, J.bare, J.base, J.hok, r1, r2⟩
    | .next, ⟨σ', H', J, r2⟩ => exact ⟨.non, H', J.os, J.bare, J.base, J.hok, rfl, r2⟩
    | .brk, ⟨_, _, _, z⟩ => exact z.elim
    | .cont, ⟨_, _, _, z⟩ => exact z.elim
variable {n : Nm} {ini : Nat → Bool} {Q : Cls} {T : Tb} {C : CallF} {m : Nat} {d : CD} {r : Option (List Nat)}
theorem getD_map {as : List MP.D} {m i : Nat} {x : MP.D} (h : (as.map some ++ List.replicate m none).getD i none = some x) : as[i]? = some x := by
  rw [List.getD_eq_getElem?_getD] at h
  by_cases hi : i < as.length
  · rw [List.getElem?_append_left (by rw [List.length_map]; exact hi), List.getElem?_map] at h
    cases e : as[i]? with
    | none => rw [e] at h; cases h
    | some y => rw [e] at h; exact h
  · rw [List.getElem?_append_right (by rw [List.length_map]; omega)] at h
    exfalso
    rw [List.getElem?_replicate] at h
    split at h <;> cases h
theorem start_get {vs : List V} {i : Nat} {v : V} (h : vs[i]? = some v) : (L2.start N vs)[i]? = some (some v) := by
  unfold L2.start
  have hi := (List.getElem?_eq_some_iff.mp h).1
  rw [List.getElem?_append_left (by rw [List.length_map]; exact hi), List.getElem?_map, h]
  rfl
theorem gd_of {A : Around} {outer : List Env} {s : Shared} {H : Hp} (FS : FnScope N ps scope) (hr : Room (k + 2) (A.deeper (envOfC qual scope s.heap.objs.size f cdv))) (hg : A.guards = some []) : Gd (cxOf CX0 P w K mg base N qual scope f cdv A outer s H E0) N scope k :=
  ⟨rfl, FS.nd, rfl, rfl, hr, hg⟩
/-- a def of the text does what its core term says -/
theorem defD (lk : K.lookup f = some ⟨oc, od, .func (PySem.W.fnOf name qual params body scope dV kV doc pm an cdv ct), osl⟩) (hcd : PySem.W.codeIn K cdv qual = true) (FS : FnScope N ps scope)
    (hini : ∀ c, ini c = true → ∃ f, T.ini c = some f) (hd : d.ini = none) (hnp : ps.length = d.np) (hns : N.length = d.ns) (hle : d.np ≤ d.ns) (GX : GF P w K mg base n Q T C k) (ck : ckSs n ini N m scope [] [] d.body body = some r) :
    FnG P w K mg base (k + 3) f (PySem.W.fnOf name qual params body scope dV kV doc pm an cdv ct) ps (spG K Q d.np (runD T C d)) := by
  refine defG (k := k + 2) lk hcd FS (fun vs H Z h => by rw [h.1, hnp]) fun A outer s H vs Z hr hg hsp => ?_
  obtain ⟨hl, F, as, ds, wd, dd, wd', br, rl, he, q⟩ := hsp
  have G := gd_of (P := P) (w := w) (K := K) (mg := mg) (base := base) (outer := outer) (H := H) FS hr hg
  have pss := (oks (n := n) (N := N) (Q := Q) (C := C) hini m).ss (X := cxOf CX0 P w K mg base N qual scope f cdv A outer s H E0) G GX (fun _ _ => rfl) (passes_of rfl) ck
  have hdl : ds.length = d.np := by rw [← rl.length]; exact hl
  unfold runD at he
  rw [if_pos hdl, hd] at he
  obtain ⟨fl, w1, e1, e2⟩ := R.bind_ok he
  have sr : SR K Q ⟨F, as, H, none⟩ [] F as (ds.map some ++ List.replicate (d.ns - d.np) none) wd (L2.start N vs) H := {
    sub := br.sub
    grw := Grw.rfl'
    len := by
      unfold L2.start
      simp only [List.length_append, List.length_map, List.length_replicate]
      omega
    frz := fun i x e _ => by
      obtain ⟨v, h1, h2⟩ := rl.get (getD_map e)
      exact ⟨v, start_get h1, h2⟩
    own := fun i x e h => absurd h List.not_mem_nil
    dis := fun i j a h => absurd h List.not_mem_nil
    wld := br.wld
    pin := fun a e => by cases e }
  have fin : ∀ S', Fin K Q S' [] ⟨F, as, H, none⟩ F as w1 { nx := fun _ H' => Z .non H', rt := Z } fl := fun S' => by
    cases fl with
    | nx ρ' =>
      cases (show R.ok D.non w1 = .ok dd wd' from e2)
      exact fun F' as' σ' H' _ _ sr' => q .non F' as' H' sr'.grw ⟨sr'.sub, sr'.wld⟩ (by simp only [Rep])
    | rt x =>
      cases (show R.ok x w1 = .ok dd wd' from e2)
      exact fun v F' as' ρ' σ' S2 H' sr' rv => q v F' as' H' sr'.grw ⟨sr'.sub, sr'.wld⟩ rv
    | bk ρ' => cases e2
    | ct ρ' => cases e2
  cases r with
  | none => exact ⟨_, pss [], ⟨F, as, H, none⟩, F, as, _, wd, fl, w1, sr, e1, fin []⟩
  | some S1 => exact ⟨_, pss, ⟨F, as, H, none⟩, F, as, _, wd, fl, w1, sr, e1, fin S1⟩
theorem selfOf_ok {c : Nat} {o : Option MP.D} {w w' : Wd} {d : MP.D} (h : selfOf c o w = .ok d w') : o = some d ∧ w' = w := by
  unfold selfOf at h
  split at h
  · split at h
    · cases h; exact ⟨rfl, rfl⟩
    · cases h
  · cases h
theorem selfOf_ins {c : Nat} {o : Option MP.D} {w w' : Wd} {d : MP.D} (h : selfOf c o w = .ok d w') : ∃ fs, d = .ins c fs := by
  unfold selfOf at h
  split at h
  · split at h
    · rename_i e; cases h; exact ⟨_, by rw [e]⟩
    · cases h
  · cases h
theorem runD_ins {T : Tb} {C : CallF} {d : CD} {c : Nat} {ds : List MP.D} {w w' : Wd} {x : MP.D} (hd : d.ini = some c) (h : runD T C d ds w = .ok x w') : ∃ fs, x = .ins c fs := by
  unfold runD at h
  split at h
  · rw [hd] at h
    obtain ⟨r, w1, h1, h2⟩ := R.bind_ok h
    cases r with
    | nx ρ => exact selfOf_ins h2
    | _ => cases h2
  · cases h
/-- an __init__ makes the instance that its core term says -/
theorem defI {c : Nat} {S1 : List Nat} (lk : K.lookup f = some ⟨oc, od, .func (PySem.W.fnOf name qual params body scope dV kV doc pm an cdv ct), osl⟩) (hcd : PySem.W.codeIn K cdv qual = true) (FS : FnScope N ps scope)
    (hini : ∀ c, ini c = true → ∃ f, T.ini c = some f) (hd : d.ini = some c) (hnp : ps.length = d.np + 1) (hns : N.length = d.ns) (hle : d.np + 1 ≤ d.ns) (GX : GF P w K mg base n Q T C k) (ck : ckSs n ini N m scope [0] [] d.body body = some (some S1)) :
    FnG P w K mg base (k + 3) f (PySem.W.fnOf name qual params body scope dV kV doc pm an cdv ct) ps (spI K Q (d.np + 1) c (runD T C d)) := by
  refine defG (k := k + 2) lk hcd FS (fun vs H Z h => by rw [h.1, hnp]) fun A outer s H vs Z hr hg hsp => ?_
  obtain ⟨hl, x, dx, us, F, as, ds, wd, fs, wd', rfl, hx, hF, hA, br, rl, he, q⟩ := hsp
  have G := gd_of (P := P) (w := w) (K := K) (mg := mg) (base := base) (outer := outer) (H := H) FS hr hg
  have pss := (oks (n := n) (N := N) (Q := Q) (C := C) hini m).ss (X := cxOf CX0 P w K mg base N qual scope f cdv A outer s H E0) G GX (fun _ _ => rfl) (passes_of rfl) ck
  have hdl : ds.length = d.np := by rw [← rl.length]; simpa using hl
  unfold runD at he
  rw [if_pos hdl, hd] at he
  obtain ⟨fl, w1, e1, e2⟩ := R.bind_ok he
  have hh : hide H x x = none := by unfold hide; rw [if_pos rfl]
  have hn : ∀ a, a ≠ x → hide H x a = H a := fun a ne => by unfold hide; rw [if_neg ne]
  have sr : SR K Q ⟨F, as, hide H x, some x⟩ [0] F as (some (.ins c []) :: (ds.map some ++ List.replicate (d.ns - d.np - 1) none)) wd (L2.start N (.ref x :: us)) H := {
    sub := br.sub
    grw := ⟨Le.rfl', Pre.rfl', fun a o h _ => by
      have h : hide H x a = some o := h
      by_cases z : a = x
      · subst z; rw [hh] at h; cases h
      · rw [hn a z] at h; exact h, fun _ _ h => .inl h, fun _ h => .inl h, fun a h => by
      show hide H x a = none
      by_cases z : a = x
      · subst z; exact hh
      · rw [hn a z]; exact h⟩
    len := by
      unfold L2.start
      simp only [List.length_append, List.length_map, List.length_replicate, List.length_cons]
      rw [rl.length]
      omega
    frz := fun i y e hi => by
      cases i with
      | zero => exact absurd (List.mem_singleton.mpr rfl) hi
      | succ i =>
        obtain ⟨v, h1, h2⟩ := rl.get (getD_map (show (ds.map some ++ List.replicate (d.ns - d.np - 1) none).getD i none = some y from e))
        exact ⟨v, start_get (show (V.ref x :: us)[i + 1]? = some v from h1), h2⟩
    own := fun i y e hi => by
      have hi' := List.mem_singleton.mp hi
      subst hi'
      cases (show some (D.ins c []) = some y from e)
      refine ⟨x, _, start_get rfl, hF, hA, hx, hh, ?_⟩
      simp only [ORep]
      exact ⟨dx, [], rfl, rfl, .nil⟩
    dis := fun i j a hi hj hij => absurd (by rw [List.mem_singleton.mp hi, List.mem_singleton.mp hj]) hij
    wld := br.wld
    pin := fun a e => by
      cases e
      exact ⟨List.mem_singleton.mpr rfl, start_get rfl⟩ }
  refine ⟨_, pss, ⟨F, as, hide H x, some x⟩, F, as, _, wd, fl, w1, sr, e1, ?_⟩
  cases fl with
  | nx ρ' =>
    obtain ⟨e3, rfl⟩ := selfOf_ok (show selfOf c (ρ'.getD 0 none) w1 = .ok (D.ins c fs) wd' from e2)
    intro F' as' σ' H' _ _ sr'
    obtain ⟨p1, p2⟩ := sr'.pin x rfl
    obtain ⟨a, o, h1, h2, h3, h4, h5, h6⟩ := sr'.own 0 _ e3 p1
    rw [p2] at h1
    cases h1
    exact q F' as' H' o sr'.grw ⟨sr'.sub, sr'.wld⟩ h2 h3 h4 h6
  | rt x => cases e2
  | bk ρ' => cases e2
  | ct ρ' => cases e2
end
end MP

set_option Elab.async false
set_option linter.all false
set_option maxRecDepth 100000
/-! MP20: all defs of a program, at every level of calls. -/
namespace MP
open PySem PySem.Spec PyProof.Rows L2
/-- where a def stands, how many parameters, whose __init__ -/
structure Pl where
  a : Addr
  fd : FuncData
  ps : List Str
  np : Nat
  ini : Option Nat
section
variable (P : Program) (w : World) (K : PySem.W.Frag) (mg : Str → Option Value) (base : Heap) (n : Nm) (Q : Cls) (T : Tb) (fa : Nat → Option Pl)
/-- what stands around, of all levels -/
structure GS : Prop where
  bi : ∀ x : Str, x ∈ (["len", "tuple", "list", "range", "enumerate", "zip", "all", "any", "isinstance", "str", "int", "abs", "max", "min", "sorted", "sum", "set", "dict", "repr", "bool"] : List String).map Str.ofString → mg x = none
  gl : ∀ x g d, n.gl x = some g → T.glb g = some d → ∃ u v, mg x = some u ∧ RelV v u ∧ ∀ F as, Rep K Q F as d v
  fn : ∀ x f, n.fn x = some f → ∃ p, fa f = some p ∧ p.ini = none ∧ mg x = some (.ref p.a) ∧ PySem.W.keepIn K (.ref p.a) = true ∧ Binds K p.fd p.ps []
  cl : ∀ x c f, n.cl x = some c → T.ini c = some f → ∃ p, fa f = some p ∧ p.ini = some c ∧ mg x = some (.ref (Q.addr c)) ∧ Mk K (Q.addr c) p.a ∧ Binds K p.fd p.ps []
  at_ : ∀ x f c j, n.at_ x = some f → T.fpos f c = some j → (Q.names c)[j]? = some x ∧ L2.Cls K (Q.addr c) ∧ NoAttr K (Q.addr c) x
  nn : ∀ c, (Q.names c).Nodup
  nl : ∀ c, (Q.names c).length < 1000
  mt : ∀ x m c f, n.mt x = some m → T.mth m c = some f → ∃ p, fa f = some p ∧ p.ini = none ∧ L2.Cls K (Q.addr c) ∧ Meth K (Q.addr c) x p.a ∧ Binds K p.fd p.ps [] ∧ x ∉ Q.names c
  pr : ∀ x m c f, n.pr x = some m → T.prp m c = some f → ∃ p q, fa f = some p ∧ p.ini = none ∧ p.np = 1 ∧ L2.Cls K (Q.addr c) ∧ PropOf K (Q.addr c) x q p.a ∧ Binds K p.fd p.ps []
  is1 : ∀ (F : Hp) (as : List Addr) (H : Hp) (d : D) (v : V) (t : Ty) (b : Bool), Top K Q F as H d v → Le F H → isiD T.nc d t = some b → ∃ tv, TyX K H v tv ∧ PySem.W.kitOne K tv (match t with
    | .int => .type "int" | .str => .type "str" | .bool => .type "bool" | .tuple => .type "tuple" | .list => .type "list" | .cls c => .ref (Q.addr c)) = some b
  clv : ∀ x c, n.cl x = some c → mg x = some (.ref (Q.addr c))
  ne : ∀ m c f, T.mth m c = some f → PySem.W.findIn K (.ref (Q.addr c)) "__ne__" = some (some (.builtin "object.__ne__")) ∧ PySem.W.subIn K (.ref (Q.addr c)) (.type "object") = some true
  tb : ∀ x g l, n.tb x = some g → T.tab g = some l → ∃ a, mg x = some (.ref a) ∧ TabOk K w Q a l
  sc : ∀ F as wd H, WR K Q F as wd H → ∃ a, Q.ext 0 = .ref a ∧ SqL K F a (T.scr.map V.int)
/-- every def keeps its promise, at level k -/
def Lv (C : CallF) (k : Nat) : Prop := ∀ f p, fa f = some p → (match p.ini with
  | none => FnG P w K mg base k p.a p.fd p.ps (spG K Q p.np (C f))
  | some c => FnG P w K mg base k p.a p.fd p.ps (spI K Q (p.np + 1) c (C f))) ∧
  ∀ ds w d w', C f ds w = .ok d w' → ds.length = p.np ∧ ∀ c, p.ini = some c → ∃ fs, d = .ins c fs
end
section
variable {P : Program} {w : World} {K : PySem.W.Frag} {mg : Str → Option Value} {base : Heap} {n : Nm} {Q : Cls} {T : Tb} {fa : Nat → Option Pl} {k : Nat} {C : CallF}
theorem GS.gf (g : GS w K mg n Q T fa) (l : Lv P w K mg base Q fa C k) : GF P w K mg base n Q T C k where
  bi := g.bi
  gl := g.gl
  fn := fun x f h => by
    obtain ⟨p, h1, h2, h3, h4, h5⟩ := g.fn x f h
    obtain ⟨l1, l2⟩ := l f p h1
    rw [h2] at l1
    exact ⟨p.a, p.fd, p.ps, p.np, h3, h4, l1, h5, fun ds w d w' e => (l2 ds w d w' e).1⟩
  cl := fun x c f h hi => by
    obtain ⟨p, h1, h2, h3, h4, h5⟩ := g.cl x c f h hi
    obtain ⟨l1, l2⟩ := l f p h1
    rw [h2] at l1
    exact ⟨p.a, p.fd, p.ps, p.np, h3, h4, l1, h5, fun ds w d w' e => ⟨(l2 ds w d w' e).1, (l2 ds w d w' e).2 c h2⟩⟩
  at_ := g.at_
  nn := g.nn
  nl := g.nl
  mt := fun x m c f h hm => by
    obtain ⟨p, h1, h2, h3, h4, h5, h6⟩ := g.mt x m c f h hm
    obtain ⟨l1, l2⟩ := l f p h1
    rw [h2] at l1
    exact ⟨p.a, p.fd, p.ps, p.np, h3, h4, l1, h5, h6, fun ds w d w' e => (l2 ds w d w' e).1⟩
  pr := fun x m c f h hm => by
    obtain ⟨p, q, h1, h2, h3, h4, h5, h6⟩ := g.pr x m c f h hm
    obtain ⟨l1, l2⟩ := l f p h1
    rw [h2] at l1
    simp only [h3] at l1
    exact ⟨q, p.a, p.fd, p.ps, h4, h5, l1, h6⟩
  is1 := g.is1
  clv := g.clv
  ne := g.ne
  tb := g.tb
  sc := g.sc
/-- a promise that is never asked -/
theorem FnG.bad {a : Addr} {fd : FuncData} {ps : List Str} {sp : List V → Hp → VK → Prop} (h : ∀ vs H Z, ¬ sp vs H Z) : FnG P w K mg base k a fd ps sp :=
  ⟨fun vs H Z q => (h vs H Z q).elim, fun _ _ _ H _ _ vs Z _ _ _ _ _ q => (h vs H Z q).elim⟩
theorem spG_bad {np : Nat} {g : List D → Wd → R D} (h : ∀ ds w, g ds w = .bad) (vs : List V) (H : Hp) (Z : VK) : ¬ spG K Q np g vs H Z := by
  rintro ⟨_, F, as, ds, w, d, w', _, _, he, _⟩
  rw [h] at he
  cases he
theorem spI_bad {np c : Nat} {g : List D → Wd → R D} (h : ∀ ds w, g ds w = .bad) (vs : List V) (H : Hp) (Z : VK) : ¬ spI K Q np c g vs H Z := by
  rintro ⟨_, x, dx, us, F, as, ds, w, fs, w', _, _, _, _, _, _, he, _⟩
  rw [h] at he
  cases he
theorem lv_zero {Pp : Nat → Option CD} {prm : Nat → Option (List D → Wd → R D)} : Lv P w K mg base Q fa (callP T Pp prm 0) k := fun f p hp => by
  refine ⟨?_, fun ds w d w' e => by cases e⟩
  cases p.ini with
  | none => exact FnG.bad (spG_bad fun _ _ => rfl)
  | some c => exact FnG.bad (spI_bad fun _ _ => rfl)
/-- how a def's number is met, one level up -/
theorem lv_succ {Pp : Nat → Option CD} {prm : Nat → Option (List D → Wd → R D)} {m : Nat}
    (hprm : ∀ f g p, prm f = some g → fa f = some p → p.ini = none ∧ FnG P w K mg base (k + 3) p.a p.fd p.ps (spG K Q p.np g) ∧ ∀ ds w d w', g ds w = .ok d w' → ds.length = p.np)
    (hdef : ∀ f d p, prm f = none → Pp f = some d → fa f = some p → d.np = p.np ∧ d.ini = p.ini ∧ (match p.ini with
      | none => FnG P w K mg base (k + 3) p.a p.fd p.ps (spG K Q d.np (runD T (callP T Pp prm m) d))
      | some c => FnG P w K mg base (k + 3) p.a p.fd p.ps (spI K Q (d.np + 1) c (runD T (callP T Pp prm m) d))))
    (hini : ∀ f d c ds w x w', Pp f = some d → d.ini = some c → runD T (callP T Pp prm m) d ds w = .ok x w' → ∃ fs, x = .ins c fs) :
    Lv P w K mg base Q fa (callP T Pp prm (m + 1)) (k + 3) := fun f p hp => by
  cases hq : prm f with
  | some g =>
    have e : callP T Pp prm (m + 1) f = g := by
      funext args w
      show (match prm f with
        | some g => g args w
        | none => match Pp f with
          | some d => runD T (callP T Pp prm m) d args w
          | none => .bad) = _
      rw [hq]
    obtain ⟨h1, h2, h3⟩ := hprm f g p hq hp
    rw [e, h1]
    exact ⟨h2, fun ds w d w' e => ⟨h3 ds w d w' e, fun c z => by cases z⟩⟩
  | none =>
    cases hd : Pp f with
    | none =>
      have e : ∀ args w, callP T Pp prm (m + 1) f args w = .bad := fun args w => by
        show (match prm f with
          | some g => g args w
          | none => match Pp f with
            | some d => runD T (callP T Pp prm m) d args w
            | none => .bad) = _
        rw [hq, hd]
      refine ⟨?_, fun ds w d w' z => by rw [e] at z; cases z⟩
      cases p.ini with
      | none => exact FnG.bad (spG_bad e)
      | some c => exact FnG.bad (spI_bad e)
    | some d =>
      have e : callP T Pp prm (m + 1) f = runD T (callP T Pp prm m) d := by
        funext args w
        show (match prm f with
          | some g => g args w
          | none => match Pp f with
            | some d => runD T (callP T Pp prm m) d args w
            | none => .bad) = _
        rw [hq, hd]
      obtain ⟨h1, h2, h3⟩ := hdef f d p hq hd hp
      rw [e, ← h1]
      refine ⟨h3, fun ds w x w' z => ⟨?_, fun c hc => hini f d c ds w x w' hd (by rw [h2, hc]) z⟩⟩
      unfold runD at z
      split at z
      · assumption
      · cases z
end
end MP

set_option Elab.async false
set_option linter.all false
set_option maxRecDepth 100000
/-! MPB1: the law is called at the end of the head. -/
namespace MP
open PySem PySem.Spec PyProof.Rows L2
section
variable {P : Program} {w : World} {K : PySem.W.Frag} {mg mb : Str → Option Value} {k : Nat} {fa a : Addr} {fd : FuncData} {x : Str} {st : Shared} {us : List Value} {ns : List Int}
/-- what the law must leave -/
def LawEnd (st : Shared) : Result → Shared → Prop := fun r s' => r = .ok (.ret (.bool true)) ∧ OldK st.heap s'.heap ∧ s'.os = st.os ∧ AllBare s'.gens
theorem law_at (KX : K.In st.heap) (hns : st.heap.Ns mainGlobals mg) (hb : st.heap.Ns builtinsNs mb) (hbb : ∀ y : Str, y ≠ "__name__" → mb y = bootBuiltins y) (hlim : st.heap.NoLimit) (hg : st.gens = #[])
    (ha : st.heap.get? a = some { cls := .type "list", data := .seq us.toArray }) (hr : Room k callerA) (hbind : ∀ (s : Shared) (u : Value), BindsTo s fd ⟨[u], []⟩ [(x, u)])
    {H : Hp} (hO : Only H) (hok : HOk P w H st.heap) (hA : ∀ b, H b ≠ none → b = a) (hK : H a ≠ none → K.lookup a = none)
    (F : ∀ base : Heap, K.In base → base.Ns mainGlobals mg → ∃ sp, FnG P w K mg base k fa fd [x] sp ∧ sp [.ref a] H fun v _ => v = .bl true) :
    codeAny (model P w) callerA (.call (.ref fa) ⟨[.ref a], []⟩) (LawEnd st) st := by
  have only_a : ∀ {b : Addr}, b ≠ a → H b = none := fun {b} nb => by
    cases z : H b with
    | none => rfl
    | some u => exact absurd (hA b (by rw [z]; exact Option.some_ne_none u)) nb
  have noDict : ∀ {b : Addr} {o : Obj} {es : Array DictEntry} {ep : Nat}, st.heap.get? b = some o → o.data = .dict es ep → H b = none := fun {b o es ep} e d => by
    by_cases z : b = a
    · subst z
      rw [ha] at e
      cases e
      cases (show Data.seq us.toArray _ = Data.dict es ep from d)
    · exact only_a z
  have nsB : ∀ {b : Addr} {m : Str → Option Value}, st.heap.Ns b m → (hidT st.heap H).Ns b m := fun {b m} ⟨o, es, ep, e, d, r⟩ => ⟨o, es, ep, hidT_get e (noDict e d), d, r⟩
  have kB : K.In (hidT st.heap H) := fun b o e => hidT_get (KX b o e) (by
    by_cases z : b = a
    · subst z
      cases q : H b with
      | none => rfl
      | some u =>
        rw [hK (by rw [q]; exact Option.some_ne_none u)] at e
        cases e
    · exact only_a z)
  obtain ⟨sp, Fg, hsp⟩ := F _ kB (nsB hns)
  obtain ⟨mc, l1, l2⟩ := hlim
  have md : Mod K mg (hidT st.heap H) := ⟨kB, nsB hns, ⟨mb, nsB hb, hbb⟩, mc, nsB l1, l2⟩
  have ev0 : Env0 P w K mg (hidT st.heap H) callerA [] st H := ⟨rfl, md, fun b o e => of_hidT e, Nat.le_of_eq (hidT_size _ _), trivial, fun b z => absurd z List.not_mem_nil, hok, .of_eq hg⟩
  refine codeAny_mono (Fg.run callerA [] st H ⟨[.ref a], []⟩ [.ref a] [.ref a] _ hr rfl ev0 (hbind st (.ref a)) (.cons rfl .nil) hsp) fun r s' hq => ?_
  cases r with
  | error e => exact False.elim hq
  | ok fl =>
    cases fl <;> try exact False.elim hq
    rename_i u
    obtain ⟨v, H', os, bare, un, hok', rv, ev⟩ := hq
    have ev : v = .bl true := ev
    subst ev
    cases (show u = Value.bool true from rv)
    refine ⟨rfl, OldK.of_keep fun b o e => ?_, os, bare⟩
    rcases hO b with z | ⟨ob, xs, z⟩
    · exact un.keep b o e z List.not_mem_nil List.not_mem_nil
    · obtain ⟨e1, _⟩ := hok b _ z
      obtain ⟨e2, _⟩ := hok' b _ (un.frzs b ob _ z)
      rw [e] at e1
      cases e1
      exact e2
theorem law_callG (KX : K.In st.heap) (hns : st.heap.Ns mainGlobals mg) (hb : st.heap.Ns builtinsNs mb) (hbb : ∀ y : Str, y ≠ "__name__" → mb y = bootBuiltins y) (hlim : st.heap.NoLimit) (hg : st.gens = #[])
    (ha : st.heap.get? a = some { cls := .type "list", data := .seq us.toArray }) (hi : IntsAre us ns) (hl : ns.length ≤ sizeLine) (hr : Room k callerA) (hbind : ∀ (s : Shared) (u : Value), BindsTo s fd ⟨[u], []⟩ [(x, u)])
    (F : ∀ (base : Heap) (H : Hp), K.In base → base.Ns mainGlobals mg → Only H → SqL K H a (ns.map V.int) → ∃ sp, FnG P w K mg base k fa fd [x] sp ∧ sp [.ref a] H fun v _ => v = .bl true) :
    codeAny (model P w) callerA (.call (.ref fa) ⟨[.ref a], []⟩) (LawEnd st) st := by
  have rv := vals_ints hi
  have hlen := hi.length
  cases hk : K.lookup a with
  | some o =>
    have e := KX a o hk
    rw [ha] at e
    cases e
    have h0 : Only fun _ => none := fun _ => .inl rfl
    exact law_at KX hns hb hbb hlim hg ha hr hbind h0 (fun b u z => by cases z) (fun b z => absurd rfl z) (fun z => absurd rfl z) fun base k1 k2 =>
      F base _ k1 k2 h0 (.inr ⟨_, us.toArray, _, hk, rfl, rfl, rfl, by rw [List.size_toArray, hlen]; exact hl, by simpa using rv⟩)
  | none =>
    let ob : Obj := { cls := .type "list", data := .seq us.toArray }
    let H : Hp := fun b => if b = a then some (.frz ob (.lst (ns.map V.int))) else none
    have hat : H a = some (.frz ob (.lst (ns.map V.int))) := if_pos rfl
    have hno : ∀ b, b ≠ a → H b = none := fun b nb => if_neg nb
    have hO : Only H := fun b => by
      by_cases z : b = a
      · subst z; exact .inr ⟨_, _, hat⟩
      · exact .inl (hno b z)
    refine law_at KX hns hb hbb hlim hg ha hr hbind hO (fun b u z => ?_) (fun b z => ?_) (fun _ => hk) fun base k1 k2 => F base _ k1 k2 hO (.inl (.inr ⟨ob, hat⟩))
    · by_cases q : b = a
      · subst q
        cases hat.symm.trans z
        exact ⟨ha, by rw [List.length_map]; exact hl, us, _, rv, ha⟩
      · rw [hno b q] at z; cases z
    · by_cases q : b = a
      · exact q
      · exact absurd (hno b q) z
end
/-- the law's end, over a head by facts -/
theorem walk_G {l : PySem.W.OpenLaw} {n k : Nat} {q : Program} {loose : List Str} {XP : (Str → Option Value) → Heap → Prop} {YP : World → Heap → Prop} {d : DefRec} {x : Str} (hn : l.most = some n) (hn2 : n ≤ sizeLine) (hdf : d.params.defaults = []) (hr : Room k callerA)
    (F : ∀ (w : World) (mg : Str → Option Value) (fa : Addr) (h : Heap), YP w h → h.Ns mainGlobals mg → mg d.name = some (.ref fa) →
      ∃ (K : PySem.W.Frag) (fd : FuncData), K.In h ∧ (∀ (s : Shared) (u : Value), BindsTo s fd ⟨[u], []⟩ [(x, u)]) ∧
        ∀ (base : Heap) (H : Hp) (a : Addr) (ns : List Int), ns.length ≤ n → K.In base → base.Ns mainGlobals mg → Only H → SqL K H a (ns.map V.int) → ∃ sp, FnG l.prog w K mg base k fa fd [x] sp ∧ sp [.ref a] H fun v _ => v = .bl true) :
    PySem.W.WalkO q loose XP YP l.row.toRowW d [] (fun f vs => PySem.call f vs) := by
  refine Att.attach_call hn hdf fun w s0 s1 mg mb fa o pm cd doc a vs ns G Y ho hd hcd hmg hobj hints hlen hg => ?_
  obtain ⟨K, fd, KX, hb, hF⟩ := F w mg fa _ Y G.T.g hmg
  exact law_callG KX G.T.g G.T.b G.T.builtins G.T.nolimit hg hobj hints (Nat.le_trans hlen hn2) hr hb fun base H h1 h2 h3 h4 => hF base H a ns hlen h1 h2 h3 h4
end MP

set_option Elab.async false
set_option linter.all false
set_option maxRecDepth 100000
/-! MPB2: a program's data, and what must be seen of its heap. -/
namespace MP
open PySem PySem.Spec PyProof.Rows L2
def ixOf : Str → List Str → Option Nat
  | _, [] => none
  | x, y :: ys => if x = y then some 0 else (ixOf x ys).map (· + 1)
theorem ixOf_at : ∀ {l : List Str} {x : Str} {i : Nat}, ixOf x l = some i → l[i]? = some x
  | [], x, i, h => by cases h
  | y :: ys, x, i, h => by
    have h' : (if x = y then some 0 else (ixOf x ys).map (· + 1)) = some i := h
    split at h'
    · rename_i e
      cases h'
      rw [e]; rfl
    · obtain ⟨j, hj, rfl⟩ := Option.map_eq_some_iff.mp h'
      have := ixOf_at hj
      simpa using this
/-- where a def stands -/
inductive Loc where
  | glo (x : Str)
  | meth (C m : Str)
  | prop (C f : Str)
  deriving DecidableEq
def ixL : Loc → List Loc → Option Nat
  | _, [] => none
  | x, y :: ys => if x = y then some 0 else (ixL x ys).map (· + 1)
theorem ixL_at : ∀ {l : List Loc} {x : Loc} {i : Nat}, ixL x l = some i → l[i]? = some x
  | [], x, i, h => by cases h
  | y :: ys, x, i, h => by
    have h' : (if x = y then some 0 else (ixL x ys).map (· + 1)) = some i := h
    split at h'
    · rename_i e
      cases h'
      rw [e]; rfl
    · obtain ⟨j, hj, rfl⟩ := Option.map_eq_some_iff.mp h'
      have := ixL_at hj
      simpa using this
def getr (K : PySem.W.Frag) (p : Addr) : Addr := match PySem.W.recIn K p "property" with
  | some (.ref g :: _) => g
  | _ => 0
def locA (K : PySem.W.Frag) : Loc → Addr
  | .glo x => He.ga K x
  | .meth C m => He.ma K (He.ga K C) m
  | .prop C f => getr K (He.ma K (He.ga K C) f)
structure MD where
  loc : Loc
  nm : Str
  qual : Str
  params : Arguments
  body : List Stmt
  scope : Scope
  N : List Str
  ps : List Str
  core : CD
structure Pr where
  defs : List MD
  cls : List (Str × List Str)
  flds : List Str
  mths : List Str
  prps : List Str
  glbs : List (Str × D)
  tabs : List (Str × List (List Nat × D))
namespace Pr
variable (p : Pr)
def locs : List Loc := p.defs.map (·.loc)
def cname (c : Nat) : Str := ((p.cls[c]?).map (·.1)).getD ⟨#[]⟩
def cflds (c : Nat) : List Str := ((p.cls[c]?).map (·.2)).getD []
def nmz : Nm where
  fn := fun x => ixL (.glo x) p.locs
  cl := fun x => ixOf x (p.cls.map (·.1))
  gl := fun x => ixOf x (p.glbs.map (·.1))
  at_ := fun x => ixOf x p.flds
  mt := fun x => ixOf x p.mths
  pr := fun x => ixOf x p.prps
  kd := fun _ => false
  tb := fun x => ixOf x (p.tabs.map (·.1))
def tbz (ns : List Int) : Tb where
  fpos := fun f c => (p.flds[f]?).bind fun x => ixOf x (p.cflds c)
  mth := fun m c => if c < p.cls.length then (p.mths[m]?).bind fun x => ixL (.meth (p.cname c) x) p.locs else none
  prp := fun m c => if c < p.cls.length then (p.prps[m]?).bind fun x => ixL (.prop (p.cname c) x) p.locs else none
  glb := fun i => (p.glbs[i]?).map (·.2)
  ini := fun c => if c < p.cls.length then ixL (.meth (p.cname c) "__init__") p.locs else none
  tab := fun i => (p.tabs[i]?).map (·.2)
  scr := ns
  nc := p.cls.length
def cores : Nat → Option CD := fun i => (p.defs[i]?).map (·.core)
def inis : Nat → Bool := fun c => (decide (c < p.cls.length)) && (ixL (.meth (p.cname c) "__init__") p.locs).isSome
end Pr
/-! ### what is seen -/
def fdAt (K : PySem.W.Frag) (a : Addr) : He.FnW := match K.lookup a with
  | some ⟨_, _, .func fd, _⟩ => some (fd.name, fd.qualname, fd.params, fd.body, fd.scope, fd.globals, fd.closure, fd.builtins)
  | _ => none
def fdOf (K : PySem.W.Frag) (a : Addr) : Option FuncData := match K.lookup a with
  | some ⟨_, _, .func fd, _⟩ => some fd
  | _ => none
def MD.val (d : MD) : He.FnW := some (d.nm, d.qual, d.params, .stmts d.body, d.scope, mainGlobals, [], builtinsNs)
def noneV : Value → Bool
  | .none => true
  | _ => false
def MD.ok (K : PySem.W.Frag) (d : MD) : Bool := PySem.W.keepIn K (.ref (locA K d.loc)) && (match fdOf K (locA K d.loc) with
  | some fd => PySem.W.codeIn K fd.code d.qual && noneV fd.defaults
  | none => false)
theorem noneV_ok {v : Value} (h : noneV v = true) : v = .none := by
  cases v <;> first | rfl | cases h
theorem MD.funD {K : PySem.W.Frag} {d : MD} (e : fdAt K (locA K d.loc) = d.val) (c : d.ok K = true) : ∃ fd, fdOf K (locA K d.loc) = some fd ∧ FunD K d.nm d.qual d.params d.body d.scope [] [] (locA K d.loc) fd := by
  obtain ⟨kp, c2⟩ := He.ba c
  unfold fdAt at e
  unfold fdOf at c2 ⊢
  cases q : K.lookup (locA K d.loc) with
  | none => rw [q] at e; cases e
  | some o =>
    obtain ⟨oc, od, dt, osl⟩ := o
    rw [q] at e c2
    cases dt <;> try (cases e; done)
    rename_i fd
    have c3 : (PySem.W.codeIn K fd.code d.qual && noneV fd.defaults) = true := c2
    obtain ⟨n1, n2, n3, n4, n5, n6, n7, n8, n9, n10, n11, n12, n13, n14, n15⟩ := fd
    have e2 : (some (n1, n2, n3, n4, n5, n6, n7, n15) : He.FnW) = some (d.nm, d.qual, d.params, .stmts d.body, d.scope, mainGlobals, [], builtinsNs) := e
    simp only [Option.some.injEq, Prod.mk.injEq] at e2
    obtain ⟨h1, h2, h3, h4, h5, h6, h7, h8⟩ := e2
    subst h1 h2 h3 h4 h5 h6 h7 h8
    obtain ⟨k1, k2⟩ := He.ba c3
    obtain rfl := noneV_ok k2
    exact ⟨_, rfl, ⟨oc, od, .none, n9, n10, n11, n12, n13, n14, osl, rfl, q, k1, .inl ⟨rfl, rfl⟩, .inl rfl⟩, kp⟩
end MP

set_option Elab.async false
set_option linter.all false
set_option maxRecDepth 100000
/-! MPB3: the facts of a program's heap by one look. -/
namespace MP
open PySem PySem.Spec PyProof.Rows L2
def chrOk (s : List Nat) : Bool := s.all fun c => decide (c < 1114112)
def flatD : D → Bool
  | .non => true
  | .bl _ => true
  | .int _ => true
  | .str s => chrOk s
  | _ => false
def dvOf : D → He.Dv
  | .bl b => .bl b
  | .int i => .int i
  | .str s => .str (toS s)
  | _ => .non
def constB (K : PySem.W.Frag) (x : Str) : D → Bool
  | .int i => (He.Fa.int x i).ok K
  | .str s => (He.Fa.str x (toS s)).ok K && chrOk s
  | .tup ds => (He.Fa.glo x).ok K && (He.tupB K x (ds.map dvOf) && ds.all flatD)
  | _ => false
theorem chrOk_ok {s : List Nat} (h : chrOk s = true) : ∀ c ∈ s, c < 1114112 := fun c hc => of_decide_eq_true (List.all_eq_true.mp h c hc)
theorem flat_rep {K : PySem.W.Frag} {Q : Cls} {F : Hp} {as : List Addr} : ∀ {d : D}, flatD d = true → Rep K Q F as d ((dvOf d).v K)
  | .non, _ => by simp only [Rep, dvOf, He.Dv.v]
  | .bl _, _ => by simp only [Rep, dvOf, He.Dv.v]
  | .int _, _ => by simp only [Rep, dvOf, He.Dv.v]
  | .str s, h => by simp only [Rep, dvOf, He.Dv.v]; exact ⟨trivial, chrOk_ok h⟩
theorem flat_reps {K : PySem.W.Frag} {Q : Cls} {F : Hp} {as : List Addr} : ∀ {ds : List D}, ds.all flatD = true → RepL K Q F as ds ((ds.map dvOf).map (He.Dv.v K))
  | [], _ => .nil
  | d :: ds, h => by
    rw [List.all_cons, Bool.and_eq_true] at h
    exact .cons (flat_rep h.1) (flat_reps h.2)
theorem constB_ok {K : PySem.W.Frag} {Q : Cls} {h : Heap} {mg : Str → Option Value} (X : K.In h) (G : h.Ns mainGlobals mg) {x : Str} {d : D} (c : constB K x d = true) : ∃ u v, mg x = some u ∧ RelV v u ∧ ∀ F as, Rep K Q F as d v := by
  cases d <;> try (cases c; done)
  case int i =>
    obtain ⟨t, ht⟩ := He.int_ok X G c
    exact ⟨_, .int i, ht, ⟨t, rfl⟩, fun F as => by simp only [Rep]⟩
  case str s =>
    obtain ⟨c1, c2⟩ := He.ba c
    obtain ⟨t, ht⟩ := He.str_ok X G c1
    exact ⟨_, .str (toS s), ht, ⟨t, rfl⟩, fun F as => by simp only [Rep]; exact ⟨trivial, chrOk_ok c2⟩⟩
  case tup ds =>
    obtain ⟨c1, c2⟩ := He.ba c
    obtain ⟨c3, c4⟩ := He.ba c2
    refine ⟨_, .ref (He.ga K x), He.glo_ok X G c1, rfl, fun F as => ?_⟩
    simp only [Rep]
    exact ⟨_, _, rfl, He.tupB_ok c3 F, flat_reps c4⟩
def propB (K : PySem.W.Frag) (C f : Str) : Bool := He.eqO (PySem.W.findIn K (.ref (He.ga K C)) f) (some (some (.ref (He.ma K (He.ga K C) f)))) && (He.eqO (PySem.W.specialIn K (.ref (He.ma K (He.ga K C) f)) "__get__") (some (some (.builtin "property.__get__"))) &&
  (decide (PySem.W.takesIn K (.ref (He.ma K (He.ga K C) f)) = some true) && (match PySem.W.recIn K (He.ma K (He.ga K C) f) "property" with
    | some (.ref _ :: _) => true
    | _ => false)))
theorem propB_ok {K : PySem.W.Frag} {C f : Str} (c : propB K C f = true) : PropOf K (He.ga K C) f (He.ma K (He.ga K C) f) (getr K (He.ma K (He.ga K C) f)) := by
  obtain ⟨c1, c2⟩ := He.ba c
  obtain ⟨c3, c4⟩ := He.ba c2
  obtain ⟨c5, c6⟩ := He.ba c4
  refine ⟨He.eqO_ok c1, He.eqO_ok c3, of_decide_eq_true c5, ?_⟩
  unfold getr
  split at c6
  · rename_i g r e
    rw [e]
    exact ⟨r, rfl⟩
  · cases c6
def insB (K : PySem.W.Frag) (C : Addr) : Bool := He.eqO (PySem.W.findIn K (.ref C) "__class__") (some (some (.builtin "object.__class__"))) && (He.eqO (PySem.W.specialIn K (.builtin "object.__class__") "__get__") (some (some (.builtin "getset_descriptor.__get__"))) &&
  (decide (PySem.W.takesIn K (.builtin "object.__class__") = some true) && (decide (PySem.W.mroIn K C (.type "object") = some true) && He.eqO (PySem.W.findIn K (.ref C) "__ne__") (some (some (.builtin "object.__ne__"))))))
def tyNames : List String := ["NoneType", "bool", "int", "str", "list", "tuple", "dict"]
def askNames : List String := ["int", "str", "bool", "tuple", "list"]
def isiB (K : PySem.W.Frag) (as : List Addr) : Bool := (List.range as.length).all fun i => tyNames.all (fun T => decide (PySem.W.kitOne K (.type T) (.ref (as.getD i 0)) = some false)) && (askNames.all (fun T => decide (PySem.W.kitOne K (.ref (as.getD i 0)) (.type T) = some false)) &&
  (List.range as.length).all fun j => decide (PySem.W.kitOne K (.ref (as.getD i 0)) (.ref (as.getD j 0)) = some (decide (i = j))))
def keyE (e : DictEntry) : Option (List Nat) := match e.key with
  | .str x _ => some x.cps.toList
  | _ => none
def tabB (K : PySem.W.Frag) (a : Addr) (l : List (List Nat × D)) : Bool := match K.lookup a with
  | some ⟨_, _, .dict es _, _⟩ => decide (es.toList.map keyE = l.map fun q => some q.1) && l.all fun q => flatD q.2 && (match PySem.W.nsIn K a (toS q.1) with
    | some (some u) => He.relB ((dvOf q.2).v K) u
    | _ => false)
  | _ => false
def biNames : List Str := (["len", "tuple", "list", "range", "enumerate", "zip", "all", "any", "isinstance", "str", "int", "abs", "max", "min", "sorted", "sum", "set", "dict", "repr", "bool"] : List String).map Str.ofString
def locB (K : PySem.W.Frag) : Loc → Bool
  | .glo x => (He.Fa.glo x).ok K
  | .meth C m => if m = "__init__" then (He.Fa.mkr C).ok K else (He.Fa.meth C m).ok K
  | .prop C f => propB K C f
def Pr.exB (p : Pr) (K : PySem.W.Frag) : Bool := biNames.all (fun x => (He.Fa.free x).ok K) && (p.glbs.all (fun q => constB K q.1 q.2) && (p.defs.all (fun d => d.ok K && locB K d.loc) &&
  (p.cls.all (fun c => (He.Fa.glo c.1).ok K && ((He.Fa.cls c.1).ok K && (c.2.all (fun f => (He.Fa.noat c.1 f).ok K) && insB K (He.ga K c.1)))) && (isiB K (p.cls.map fun c => He.ga K c.1) && p.tabs.all fun t => (He.Fa.glo t.1).ok K && tabB K (He.ga K t.1) t.2))))
/-- what must hold of the data alone -/
def locG (p : Pr) (d : MD) : Bool := match d.loc with
  | .glo _ => decide (d.core.ini = none)
  | .meth C m => if m = "__init__" then decide (d.core.ini = ixOf C (p.cls.map (·.1))) else decide (d.core.ini = none)
  | .prop _ _ => decide (d.core.ini = none) && decide (d.core.np = 1)
def Pr.good (p : Pr) : Bool := p.defs.all (locG p) && (p.cls.all (fun c => decide c.2.Nodup && (decide (c.2.length < 1000) && p.mths.all fun m => !(c.2.contains m))) && p.mths.all fun m => decide (m ≠ "__init__"))
end MP

set_option Elab.async false
set_option linter.all false
set_option maxRecDepth 100000
/-! MPB4: what is seen gives the facts that the look asks. -/
namespace MP
open PySem PySem.Spec PyProof.Rows L2
structure Sees (p : Pr) (w : World) (K : PySem.W.Frag) : Prop where
  fns : p.defs.map (fun d => fdAt K (locA K d.loc)) = p.defs.map MD.val
  ex : p.exB K = true
  tabs : ∀ t ∈ p.tabs, ∃ es n, KDict K w (He.ga K t.1) es n
def mkQ (p : Pr) (K : PySem.W.Frag) (a : Addr) (scr : List (Addr × HO)) : Cls where
  addr := fun c => He.ga K (p.cname c)
  names := p.cflds
  ext := fun _ => .ref a
  scr := scr
def BindOk (d : MD) : Prop := ∀ (kV doc pm : Value) (an : Option Addr) (cdv ct : Value) (us : List Value), us.length = d.ps.length → bindArgs (PySem.W.fnOf d.nm d.qual d.params d.body d.scope .none kV doc pm an cdv ct) ⟨us, []⟩ = pure (d.ps.zip us)
def Pr.faz (p : Pr) (K : PySem.W.Frag) : Nat → Option Pl := fun i => (p.defs[i]?).bind fun d => (fdOf K (locA K d.loc)).map fun fd => ⟨locA K d.loc, fd, d.ps, d.core.np, d.core.ini⟩
section
variable {p : Pr} {w : World} {K : PySem.W.Frag} {h : Heap} {mg : Str → Option Value}
theorem mem_at {α : Type} {l : List α} {i : Nat} {x : α} (h : l[i]? = some x) : x ∈ l := List.mem_of_getElem? h
theorem Sees.parts (S : Sees p w K) : (∀ x ∈ biNames, (He.Fa.free x).ok K = true) ∧ (∀ q ∈ p.glbs, constB K q.1 q.2 = true) ∧ (∀ d ∈ p.defs, d.ok K = true ∧ locB K d.loc = true) ∧
    (∀ c ∈ p.cls, (He.Fa.glo c.1).ok K = true ∧ (He.Fa.cls c.1).ok K = true ∧ (∀ f ∈ c.2, (He.Fa.noat c.1 f).ok K = true) ∧ insB K (He.ga K c.1) = true) ∧ isiB K (p.cls.map fun c => He.ga K c.1) = true ∧ ∀ t ∈ p.tabs, (He.Fa.glo t.1).ok K = true ∧ tabB K (He.ga K t.1) t.2 = true := by
  obtain ⟨h1, e1⟩ := He.ba S.ex
  obtain ⟨h2, e2⟩ := He.ba e1
  obtain ⟨h3, e3⟩ := He.ba e2
  obtain ⟨h4, e4⟩ := He.ba e3
  obtain ⟨h5, h6⟩ := He.ba e4
  refine ⟨List.all_eq_true.mp h1, fun q m => List.all_eq_true.mp h2 q m, fun d m => He.ba (List.all_eq_true.mp h3 d m), fun c m => ?_, h5, fun t m => He.ba (List.all_eq_true.mp h6 t m)⟩
  obtain ⟨a1, b1⟩ := He.ba (List.all_eq_true.mp h4 c m)
  obtain ⟨a2, b2⟩ := He.ba b1
  obtain ⟨a3, a4⟩ := He.ba b2
  exact ⟨a1, a2, List.all_eq_true.mp a3, a4⟩
theorem Sees.def_ (S : Sees p w K) {i : Nat} {d : MD} (hi : p.defs[i]? = some d) : ∃ fd, fdOf K (locA K d.loc) = some fd ∧ FunD K d.nm d.qual d.params d.body d.scope [] [] (locA K d.loc) fd ∧ p.faz K i = some ⟨locA K d.loc, fd, d.ps, d.core.np, d.core.ini⟩ := by
  have e2 : (p.defs.map fun d => fdAt K (locA K d.loc))[i]? = (p.defs.map MD.val)[i]? := by rw [S.fns]
  rw [List.getElem?_map, List.getElem?_map, hi] at e2
  obtain ⟨fd, h1, h2⟩ := MD.funD (Option.some.inj e2) (S.parts.2.2.1 d (mem_at hi)).1
  exact ⟨fd, h1, h2, by unfold Pr.faz; rw [hi]; show (fdOf K (locA K d.loc)).map _ = _; rw [h1]; rfl⟩
theorem locs_at {x : Loc} {i : Nat} (hi : ixL x p.locs = some i) : ∃ d, p.defs[i]? = some d ∧ d.loc = x := by
  have := ixL_at hi
  unfold Pr.locs at this
  rw [List.getElem?_map] at this
  obtain ⟨d, h1, h2⟩ := Option.map_eq_some_iff.mp this
  exact ⟨d, h1, h2⟩
theorem cls_at {c : Nat} (hc : c < p.cls.length) : ∃ e ∈ p.cls, p.cls[c]? = some e ∧ p.cname c = e.1 ∧ p.cflds c = e.2 := by
  refine ⟨p.cls[c], List.getElem_mem hc, by simp [hc], ?_, ?_⟩
  · unfold Pr.cname; simp [hc]
  · unfold Pr.cflds; simp [hc]
theorem tabLook_mem {s : List Nat} : ∀ {l : List (List Nat × D)} {d : D}, tabLook s l = some d → (s, d) ∈ l
  | [], d, h => by cases h
  | (k, x) :: r, d, h => by
    have h' : (if k = s then some x else tabLook s r) = some d := h
    split at h'
    · rename_i e
      cases h'
      rw [e]
      exact List.mem_cons_self
    · exact List.mem_cons_of_mem _ (tabLook_mem h')
theorem tabLook_none {s : List Nat} : ∀ {l : List (List Nat × D)}, tabLook s l = none → ∀ q ∈ l, q.1 ≠ s
  | [], _, q, m => absurd m List.not_mem_nil
  | (k, x) :: r, h, q, m => by
    have h' : (if k = s then some x else tabLook s r) = none := h
    split at h'
    · cases h'
    · rename_i ne
      rcases List.mem_cons.mp m with rfl | m
      · exact ne
      · exact tabLook_none h' q m
theorem tabB_ok {Q : Cls} {a : Addr} {l : List (List Nat × D)} (D : ∃ es n, KDict K w a es n) (c : tabB K a l = true) : TabOk K w Q a l := by
  obtain ⟨es, n, kd⟩ := D
  refine ⟨es, n, kd, fun s => ?_⟩
  unfold tabB at c
  rw [kd.at_] at c
  obtain ⟨c1, c2⟩ := He.ba c
  have ek := of_decide_eq_true c1
  cases ht : tabLook s l with
  | some d =>
    have m := tabLook_mem ht
    obtain ⟨c3, c4⟩ := He.ba (List.all_eq_true.mp c2 _ m)
    split at c4
    · rename_i u e
      exact ⟨_, u, e, He.relB_ok c4, fun F as => flat_rep c3⟩
    · cases c4
  | none =>
    have no := tabLook_none ht
    have each : ∀ e ∈ es.toList, ∃ x t, e.key = .str x t ∧ x.cps.toList ≠ s := fun e he => by
      have m1 : keyE e ∈ es.toList.map keyE := List.mem_map.mpr ⟨e, he, rfl⟩
      rw [ek] at m1
      obtain ⟨q, hq, e2⟩ := List.mem_map.mp m1
      unfold keyE at e2
      split at e2
      · rename_i x t e3
        have e4 : q.1 = x.cps.toList := Option.some.inj e2
        exact ⟨x, t, e3, fun z => no q hq (e4.trans z)⟩
      · cases e2
    show PySem.W.nsIn K a (toS s) = some none
    unfold PySem.W.nsIn
    rw [kd.at_]
    have f1 : es.toList.find? (·.key.isStr (toS s)) = none := by
      rw [List.find?_eq_none]
      intro e he
      obtain ⟨x, t, e1, e2⟩ := each e he
      rw [e1]
      intro z
      have : x = toS s := by simpa [Value.isStr] using z
      exact e2 (by rw [this, toS_toList])
    have f2 : es.toList.any (·.refKey) = false := by
      rw [List.any_eq_false]
      intro e he
      obtain ⟨x, t, e1, e2⟩ := each e he
      unfold DictEntry.refKey
      rw [e1]
      exact Bool.false_ne_true
    show (match es.toList.find? (·.key.isStr (toS s)) with
      | some e => some (some e.val)
      | none => if es.toList.any (·.refKey) then none else some none) = _
    rw [f1, f2]
    rfl
theorem tyx_of {Q : Cls} {F : Hp} {as : List Addr} {H : Hp} {d : D} {v : V} (tp : Top K Q F as H d v) (l : Le F H) (hins : ∀ c fs, d = .ins c fs → L2.Cls K (Q.addr c) ∧ insB K (Q.addr c) = true) (ho : ∀ n, d ≠ .obj n) (he : ∀ n, d ≠ .ext n) : TyX K H v (match d with
    | .non => .type "NoneType" | .bl _ => .type "bool" | .int _ => .type "int" | .str _ => .type "str" | .tup _ => .type "tuple" | .lst _ => .type "list" | .dct _ _ => .type "dict" | .ins c _ => .ref (Q.addr c) | _ => .none) := by
  cases d with
  | non => have := (show Rep K Q F as .non v from tp); simp only [Rep] at this; subst this; exact .base .non
  | bl b => have := (show Rep K Q F as (.bl b) v from tp); simp only [Rep] at this; subst this; exact .base (.bl b)
  | int i => have := tp.int_; subst this; exact .base (.int i)
  | str s => obtain ⟨rfl, _⟩ := tp.str_; exact .base (.str _)
  | tup xs =>
    obtain ⟨a, ys, rfl, h1, _⟩ := tp.tup_
    rcases l.sqT h1 with (h | ⟨o, h⟩) | ⟨dd, us, n, h, hcl, _⟩
    · exact .base (.tup h)
    · exact .fTuple h
    · exact .kTuple h hcl
  | lst xs => obtain ⟨a, ys, rfl, h1, _⟩ := tp.lst_; exact .base (.lst h1)
  | dct ks vs => obtain ⟨a, kvs, rfl, h1, _⟩ := tp.dct_; exact h1.elim (fun z => .base (.dK z)) fun ⟨_, z⟩ => .fDict z
  | ins c fs =>
    obtain ⟨a, dx, nfs, rfl, h1, _⟩ := tp.ins_
    obtain ⟨k1, k2⟩ := hins c fs rfl
    obtain ⟨z1, z2⟩ := He.ba k2
    obtain ⟨z3, z4⟩ := He.ba z2
    obtain ⟨z5, z6⟩ := He.ba z4
    exact .base (.ins h1 k1 (He.eqO_ok z1) (He.eqO_ok z3) (of_decide_eq_true z5) (of_decide_eq_true (He.ba z6).1))
  | obj n => exact absurd rfl (ho n)
  | ext n => exact absurd rfl (he n)

theorem kitB_all : kitB "int" "int" = some true ∧ kitB "bool" "int" = some true ∧ kitB "bool" "bool" = some true ∧ kitB "str" "str" = some true ∧ kitB "tuple" "tuple" = some true ∧ kitB "list" "list" = some true := by decide +kernel
theorem kitB_no : (tyNames.all fun a => askNames.all fun b => (decide (a = b) || decide (a = "bool" ∧ b = "int")) || decide (kitB a b = some false)) = true := by decide +kernel
theorem kit_no {a b : String} (ha : a ∈ tyNames) (hb : b ∈ askNames) (ne : a ≠ b) (nb : ¬ (a = "bool" ∧ b = "int")) : PySem.W.kitOne K (.type a) (.type b) = some false := by
  have := List.all_eq_true.mp (List.all_eq_true.mp kitB_no a ha) b hb
  rw [decide_eq_false ne, decide_eq_false nb, Bool.false_or, Bool.false_or] at this
  exact kit_ty (of_decide_eq_true this)
theorem isi_own {as : List Addr} (c : isiB K as = true) {i : Nat} (hi : i < as.length) : (∀ T ∈ tyNames, PySem.W.kitOne K (.type T) (.ref (as.getD i 0)) = some false) ∧ (∀ T ∈ askNames, PySem.W.kitOne K (.ref (as.getD i 0)) (.type T) = some false) ∧ ∀ j, j < as.length → PySem.W.kitOne K (.ref (as.getD i 0)) (.ref (as.getD j 0)) = some (decide (i = j)) := by
  obtain ⟨c1, c2⟩ := He.ba (List.all_eq_true.mp c i (List.mem_range.mpr hi))
  obtain ⟨c3, c4⟩ := He.ba c2
  exact ⟨fun T m => of_decide_eq_true (List.all_eq_true.mp c1 T m), fun T m => of_decide_eq_true (List.all_eq_true.mp c3 T m), fun j hj => of_decide_eq_true (List.all_eq_true.mp c4 j (List.mem_range.mpr hj))⟩
theorem good_parts (g : p.good = true) : (∀ d ∈ p.defs, locG p d = true) ∧ (∀ c ∈ p.cls, c.2.Nodup ∧ c.2.length < 1000 ∧ ∀ m ∈ p.mths, m ∉ c.2) ∧ ∀ m ∈ p.mths, m ≠ "__init__" := by
  obtain ⟨h1, e1⟩ := He.ba g
  obtain ⟨h2, h3⟩ := He.ba e1
  refine ⟨List.all_eq_true.mp h1, fun c m => ?_, fun m hm => of_decide_eq_true (List.all_eq_true.mp h3 m hm)⟩
  obtain ⟨a1, b1⟩ := He.ba (List.all_eq_true.mp h2 c m)
  obtain ⟨a2, a3⟩ := He.ba b1
  refine ⟨of_decide_eq_true a1, of_decide_eq_true a2, fun x hx => ?_⟩
  have := List.all_eq_true.mp a3 x hx
  simpa using this
theorem gs_of (g : p.good = true) (X : K.In h) (G : h.Ns mainGlobals mg) (S : Sees p w K) (hb : ∀ d ∈ p.defs, BindOk d) {a : Addr} {scr : List (Addr × HO)} {ns : List Int} (hsc : ∀ F : Hp, (∀ q ∈ scr, F q.1 = some q.2) → SqL K F a (ns.map V.int)) :
    GS w K mg p.nmz (mkQ p K a scr) (p.tbz ns) (p.faz K) := by
  obtain ⟨f1, f2, f3, f4, f5, f6⟩ := S.parts
  obtain ⟨g1, g2, g3⟩ := good_parts g
  have clsK : ∀ {c : Nat}, c < p.cls.length → L2.Cls K (He.ga K (p.cname c)) ∧ insB K (He.ga K (p.cname c)) = true ∧ (∀ f ∈ p.cflds c, NoAttr K (He.ga K (p.cname c)) f) ∧ mg (p.cname c) = some (.ref (He.ga K (p.cname c))) := fun {c} hc => by
    obtain ⟨e, m, _, e1, e2⟩ := cls_at hc
    obtain ⟨a1, a2, a3, a4⟩ := f4 e m
    rw [e1, e2]
    exact ⟨He.cls_ok a2, a4, fun f hf => He.noat_ok (a3 f hf), He.glo_ok X G a1⟩
  have clsIx : ∀ {x : Str} {c : Nat}, ixOf x (p.cls.map (·.1)) = some c → c < p.cls.length ∧ p.cname c = x := fun {x c} hx => by
    have := ixOf_at hx
    rw [List.getElem?_map] at this
    obtain ⟨e, h1, h2⟩ := Option.map_eq_some_iff.mp this
    exact ⟨(List.getElem?_eq_some_iff.mp h1).1, by unfold Pr.cname; rw [h1]; exact h2⟩
  have binds : ∀ {i : Nat} {d : MD} {fd : FuncData}, p.defs[i]? = some d → FunD K d.nm d.qual d.params d.body d.scope [] [] (locA K d.loc) fd → Binds K fd d.ps [] := fun hi F => F.bindsN (hb _ (mem_at hi))
  exact {
    bi := fun x hx => He.free_ok X G (f1 x hx)
    gl := fun x i d hx hd => by
      have hx := ixOf_at (show ixOf x (p.glbs.map (·.1)) = some i from hx)
      rw [List.getElem?_map] at hx
      obtain ⟨q, h1, rfl⟩ := Option.map_eq_some_iff.mp hx
      obtain ⟨q2, h2, rfl⟩ := Option.map_eq_some_iff.mp (show (p.glbs[i]?).map (·.2) = some d from hd)
      rw [h1] at h2
      cases h2
      exact constB_ok X G (f2 q (mem_at h1))
    fn := fun x f hx => by
      obtain ⟨d, hd, hl⟩ := locs_at (show ixL (.glo x) p.locs = some f from hx)
      obtain ⟨fd, e1, F, e2⟩ := S.def_ hd
      have gg := g1 d (mem_at hd)
      have lb := (f3 d (mem_at hd)).2
      unfold locG at gg
      rw [hl] at gg lb
      exact ⟨_, e2, of_decide_eq_true gg, by rw [hl]; exact He.glo_ok X G lb, F.kp, binds hd F⟩
    cl := fun x c f hx hf => by
      obtain ⟨hc, hn⟩ := clsIx hx
      have hf' : (if c < p.cls.length then ixL (.meth (p.cname c) "__init__") p.locs else none) = some f := hf
      rw [if_pos hc, hn] at hf'
      obtain ⟨d, hd, hl⟩ := locs_at hf'
      obtain ⟨fd, e1, F, e2⟩ := S.def_ hd
      have gg := g1 d (mem_at hd)
      have lb := (f3 d (mem_at hd)).2
      unfold locG at gg
      rw [hl] at gg lb
      have gg : (if ("__init__" : Str) = "__init__" then decide (d.core.ini = ixOf x (p.cls.map (·.1))) else decide (d.core.ini = none)) = true := gg
      rw [if_pos rfl] at gg
      have lb : (if ("__init__" : Str) = "__init__" then (He.Fa.mkr x).ok K else (He.Fa.meth x "__init__").ok K) = true := lb
      rw [if_pos rfl] at lb
      refine ⟨_, e2, (of_decide_eq_true gg).trans hx, ?_, ?_, binds hd F⟩
      · show mg x = some (.ref (He.ga K (p.cname c)))
        rw [← hn]; exact (clsK hc).2.2.2
      · show Mk K (He.ga K (p.cname c)) (locA K d.loc)
        rw [hl, hn]
        exact He.mkr_ok lb
    at_ := fun x f c j hx hj => by
      have hx := ixOf_at (show ixOf x p.flds = some f from hx)
      obtain ⟨y, h1, h2⟩ := Option.bind_eq_some_iff.mp (show (p.flds[f]?).bind (fun x => ixOf x (p.cflds c)) = some j from hj)
      rw [hx] at h1
      cases h1
      have h3 := ixOf_at h2
      have hc : c < p.cls.length := by
        by_cases z : c < p.cls.length
        · exact z
        · have : p.cflds c = [] := by unfold Pr.cflds; rw [List.getElem?_eq_none (by omega)]; rfl
          rw [this] at h3; cases h3
      obtain ⟨k1, _, k3, _⟩ := clsK hc
      exact ⟨h3, k1, k3 x (mem_at h3)⟩
    nn := fun c => by
      by_cases hc : c < p.cls.length
      · obtain ⟨e, m, _, _, e2⟩ := cls_at hc
        show (p.cflds c).Nodup
        rw [e2]; exact (g2 e m).1
      · show (p.cflds c).Nodup
        have : p.cflds c = [] := by unfold Pr.cflds; rw [List.getElem?_eq_none (by omega)]; rfl
        rw [this]; exact .nil
    nl := fun c => by
      by_cases hc : c < p.cls.length
      · obtain ⟨e, m, _, _, e2⟩ := cls_at hc
        show (p.cflds c).length < 1000
        rw [e2]; exact (g2 e m).2.1
      · show (p.cflds c).length < 1000
        have : p.cflds c = [] := by unfold Pr.cflds; rw [List.getElem?_eq_none (by omega)]; rfl
        rw [this]; decide
    mt := fun x m c f hx hf => by
      have hx := ixOf_at (show ixOf x p.mths = some m from hx)
      have hf' : (if c < p.cls.length then (p.mths[m]?).bind fun x => ixL (.meth (p.cname c) x) p.locs else none) = some f := hf
      split at hf'
      case isFalse => cases hf'
      rename_i hc
      rw [hx] at hf'
      obtain ⟨d, hd, hl⟩ := locs_at (show ixL (.meth (p.cname c) x) p.locs = some f from hf')
      obtain ⟨fd, e1, F, e2⟩ := S.def_ hd
      have gg := g1 d (mem_at hd)
      have lb := (f3 d (mem_at hd)).2
      have ne := g3 x (mem_at hx)
      unfold locG at gg
      rw [hl] at gg lb
      have gg : (if x = "__init__" then decide (d.core.ini = ixOf (p.cname c) (p.cls.map (·.1))) else decide (d.core.ini = none)) = true := gg
      rw [if_neg ne] at gg
      have lb : (if x = "__init__" then (He.Fa.mkr (p.cname c)).ok K else (He.Fa.meth (p.cname c) x).ok K) = true := lb
      rw [if_neg ne] at lb
      obtain ⟨e, m2, _, _, e3⟩ := cls_at hc
      refine ⟨_, e2, of_decide_eq_true gg, (clsK hc).1, ?_, binds hd F, ?_⟩
      · show Meth K (He.ga K (p.cname c)) x (locA K d.loc)
        rw [hl]
        exact He.meth_ok lb
      · show x ∉ p.cflds c
        rw [e3]
        exact (g2 e m2).2.2 x (mem_at hx)
    pr := fun x m c f hx hf => by
      have hx := ixOf_at (show ixOf x p.prps = some m from hx)
      have hf' : (if c < p.cls.length then (p.prps[m]?).bind fun x => ixL (.prop (p.cname c) x) p.locs else none) = some f := hf
      split at hf'
      case isFalse => cases hf'
      rename_i hc
      rw [hx] at hf'
      obtain ⟨d, hd, hl⟩ := locs_at (show ixL (.prop (p.cname c) x) p.locs = some f from hf')
      obtain ⟨fd, e1, F, e2⟩ := S.def_ hd
      have gg := g1 d (mem_at hd)
      have lb := (f3 d (mem_at hd)).2
      unfold locG at gg
      rw [hl] at gg lb
      obtain ⟨gg1, gg2⟩ := He.ba gg
      refine ⟨_, He.ma K (He.ga K (p.cname c)) x, e2, of_decide_eq_true gg1, of_decide_eq_true gg2, (clsK hc).1, ?_, binds hd F⟩
      show PropOf K (He.ga K (p.cname c)) x _ (locA K d.loc)
      rw [hl]
      exact propB_ok lb
    is1 := fun F as H d v t b tp l hb => by
      have hno : ∀ n, d ≠ .obj n := fun n e => by subst e; cases hb
      have hne : ∀ n, d ≠ .ext n := fun n e => by subst e; cases hb
      have hin : ∀ c fs, d = .ins c fs → c < p.cls.length := fun c fs e => by
        subst e
        cases t <;> simp only [isiD, Option.ite_none_right_eq_some] at hb
        all_goals first | exact hb.1.1 | exact hb.1
      have ty := tyx_of tp l (fun c fs e => ⟨(clsK (hin c fs e)).1, (clsK (hin c fs e)).2.1⟩) hno hne
      have adr : ∀ {c : Nat}, c < p.cls.length → (p.cls.map fun c => He.ga K c.1).getD c 0 = He.ga K (p.cname c) := fun {c} hc => by
        obtain ⟨e, m, e0, e1, _⟩ := cls_at hc
        rw [List.getD_eq_getElem?_getD, List.getElem?_map, e0, e1]
        rfl
      have len : (p.cls.map fun c => He.ga K c.1).length = p.cls.length := List.length_map ..
      have own : ∀ {c : Nat}, c < p.cls.length → (∀ T ∈ tyNames, PySem.W.kitOne K (.type T) (.ref (He.ga K (p.cname c))) = some false) ∧ (∀ T ∈ askNames, PySem.W.kitOne K (.ref (He.ga K (p.cname c))) (.type T) = some false) ∧ ∀ j, j < p.cls.length → PySem.W.kitOne K (.ref (He.ga K (p.cname c))) (.ref (He.ga K (p.cname j))) = some (decide (c = j)) := fun {c} hc => by
        obtain ⟨z1, z2, z3⟩ := isi_own f5 (i := c) (by rw [len]; exact hc)
        rw [adr hc] at z1 z2 z3
        exact ⟨z1, z2, fun j hj => by have := z3 j (by rw [len]; exact hj); rwa [adr hj] at this⟩
      refine ⟨_, ty, ?_⟩
      obtain ⟨y1, y2, y3, y4, y5, y6⟩ := kitB_all
      cases d <;> cases t <;> simp only [isiD, reduceCtorEq, Option.some.injEq, Option.ite_none_right_eq_some] at hb
      all_goals first
        | (subst hb; exact kit_ty y1) | (subst hb; exact kit_ty y2) | (subst hb; exact kit_ty y3) | (subst hb; exact kit_ty y4) | (subst hb; exact kit_ty y5) | (subst hb; exact kit_ty y6)
        | (subst hb; exact kit_no (by decide) (by decide) (by decide) (by decide))
        | (obtain ⟨hc, rfl⟩ := hb; exact (own hc).1 _ (by decide))
        | (obtain ⟨hc, rfl⟩ := hb; exact (own hc).2.1 _ (by decide))
        | (obtain ⟨⟨hc, hd⟩, rfl⟩ := hb; exact (own hc).2.2 _ hd)
    ne := fun m c f h => by
      have h' : (if c < p.cls.length then (p.mths[m]?).bind fun x => ixL (.meth (p.cname c) x) p.locs else none) = some f := h
      split at h'
      case isFalse => cases h'
      rename_i hc
      obtain ⟨z1, z2⟩ := He.ba (clsK hc).2.1
      obtain ⟨z3, z4⟩ := He.ba z2
      obtain ⟨z5, z6⟩ := He.ba z4
      obtain ⟨z7, z8⟩ := He.ba z6
      exact ⟨He.eqO_ok z8, of_decide_eq_true z7⟩
    clv := fun x c hx => by
      obtain ⟨hc, hn⟩ := clsIx hx
      show mg x = some (.ref (He.ga K (p.cname c)))
      rw [← hn]; exact (clsK hc).2.2.2
    tb := fun x i l hx hl => by
      have hx := ixOf_at (show ixOf x (p.tabs.map (·.1)) = some i from hx)
      rw [List.getElem?_map] at hx
      obtain ⟨q, h1, rfl⟩ := Option.map_eq_some_iff.mp hx
      obtain ⟨q2, h2, rfl⟩ := Option.map_eq_some_iff.mp (show (p.tabs[i]?).map (·.2) = some l from hl)
      rw [h1] at h2
      cases h2
      obtain ⟨t1, t2⟩ := f6 q (mem_at h1)
      exact ⟨_, He.glo_ok X G t1, tabB_ok (S.tabs q (mem_at h1)) t2⟩
    sc := fun F as wd H r => ⟨a, rfl, hsc F r.sc⟩ }
end
end MP

set_option Elab.async false
set_option linter.all false
set_option maxRecDepth 100000
/-! MPB5: all defs at all levels; the hook; the end. -/
namespace MP
open PySem PySem.Spec PyProof.Rows L2
/-- the j-th statement of a class -/
def inCls (s : Stmt) (j : Nat) : Stmt := match s with
  | .ClassDef _ _ _ b _ _ _ _ _ _ _ => b.getD j s
  | _ => s
def ckM : Nat := 60
structure DefOk (p : Pr) (d : MD) : Prop where
  sc : FnScope d.N d.ps d.scope
  ns : d.N.length = d.core.ns
  ck : match d.core.ini with
    | none => d.ps.length = d.core.np ∧ d.core.np ≤ d.core.ns ∧ (ckSs p.nmz p.inis d.N ckM d.scope [] [] d.core.body d.body).isSome = true
    | some _ => d.ps.length = d.core.np + 1 ∧ d.core.np + 1 ≤ d.core.ns ∧ ((ckSs p.nmz p.inis d.N ckM d.scope [0] [] d.core.body d.body).map (·.isSome)) = some true
section
variable {P : Program} {p : Pr} {w : World} {K : PySem.W.Frag} {mg : Str → Option Value} {base : Heap} {a : Addr} {scr : List (Addr × HO)} {ns : List Int}
theorem lv_all (g : p.good = true) (X : K.In base) (G : base.Ns mainGlobals mg) (S : Sees p w K) (hb : ∀ d ∈ p.defs, BindOk d) (hd : ∀ d ∈ p.defs, DefOk p d) (hsc : ∀ F : Hp, (∀ q ∈ scr, F q.1 = some q.2) → SqL K F a (ns.map V.int)) :
    ∀ m, Lv P w K mg base (mkQ p K a scr) (p.faz K) (callP (p.tbz ns) p.cores (fun _ => none) m) (3 * m)
  | 0 => lv_zero
  | m + 1 => by
    have ih := lv_all g X G S hb hd hsc m
    have gs := gs_of g X G S hb hsc
    have gf := gs.gf ih
    have hini : ∀ c, p.inis c = true → ∃ f, (p.tbz ns).ini c = some f := fun c h => by
      obtain ⟨h1, h2⟩ := He.ba h
      obtain ⟨f, hf⟩ := Option.isSome_iff_exists.mp h2
      refine ⟨f, ?_⟩
      show (if c < p.cls.length then ixL (.meth (p.cname c) "__init__") p.locs else none) = some f
      rw [if_pos (of_decide_eq_true h1)]
      exact hf
    refine lv_succ (m := m) (fun f g' p' h => by cases h) (fun f d p' _ hc hf => ?_) (fun f d c ds wd x wd' _ h1 h2 => runD_ins h1 h2)
    obtain ⟨md, hmd, rfl⟩ := Option.map_eq_some_iff.mp (show (p.defs[f]?).map (·.core) = some d from hc)
    obtain ⟨fd, e1, F, e2⟩ := S.def_ hmd
    rw [e2] at hf
    cases hf
    refine ⟨rfl, rfl, ?_⟩
    obtain ⟨oc, od, dV, kV, doc, pm, an, cdv, ct, osl, efd, lk, hcd, _, _⟩ := F.ex
    subst efd
    obtain ⟨h1, h2, h3⟩ := hd md (mem_at hmd)
    cases hi : md.core.ini with
    | none =>
      rw [hi] at h3
      obtain ⟨k1, k2, k3⟩ := h3
      obtain ⟨r, hr⟩ := Option.isSome_iff_exists.mp k3
      exact defD lk hcd h1 hini hi k1 h2 k2 gf hr
    | some c =>
      rw [hi] at h3
      obtain ⟨k1, k2, k3⟩ := h3
      obtain ⟨r, hr, hr2⟩ := Option.map_eq_some_iff.mp k3
      obtain ⟨S1, rfl⟩ := Option.isSome_iff_exists.mp hr2
      exact defI lk hcd h1 hini hi k1 h2 k2 gf hr
theorem sqL_at {H F : Hp} {xs : List V} (h : SqL K H a xs) (hF : ∀ u, H a = some u → F a = some u) : SqL K F a xs := by
  rcases h with (h | ⟨o, h⟩) | h
  · exact .inl (.inl (hF _ h))
  · exact .inl (.inr ⟨o, hF _ h⟩)
  · exact .inr h
end
/-! ### the hook -/
abbrev AlM : Type := Bool × List He.FnW × List (Option (List (Option (Str × Int))))
def obsM (p : Pr) (K : PySem.W.Frag) : AlM := (p.exB K, p.defs.map (fun d => fdAt K (locA K d.loc)), p.tabs.map fun t => He.dicW K (He.ga K t.1))
def valM (p : Pr) (w : World) : AlM := (true, p.defs.map MD.val, p.tabs.map fun t => some (He.keysIn w.params (t.2.map fun q => toS q.1)))
def obsMG (n : Nat) (p : Pr) (g : Addr → Option Obj) : AlM := obsM p (He.frG g (He.asD g n))
def hookM (n : Nat) (p : Pr) : PySem.W.Hook where
  α := AlM
  obs := fun s => obsMG n p s.heap.get?
  val := fun w => valM p w
  says := fun w h => ∃ K : PySem.W.Frag, K.In h ∧ obsM p K = valM p w
  of := fun _ _ e => ⟨_, He.frG_in, e⟩
  keeps := fun _ _ _ ⟨K, hK, c⟩ k => ⟨K, PySem.W.Frag.In.keeps hK k, c⟩
theorem obsMG_eq {n : Nat} {p : Pr} {g : Addr → Option Obj} {s : Shared} (h : ∀ a, g a = s.heap.get? a) : obsMG n p g = (hookM n p).obs s := by
  have e : g = s.heap.get? := funext h
  rw [e]; rfl
theorem sees_of {p : Pr} {w : World} {K : PySem.W.Frag} (e : obsM p K = valM p w) : Sees p w K := by
  have e1 : p.exB K = true := congrArg (fun z : AlM => z.1) e
  have e2 : p.defs.map (fun d => fdAt K (locA K d.loc)) = p.defs.map MD.val := congrArg (fun z : AlM => z.2.1) e
  have e3 : (p.tabs.map fun t => He.dicW K (He.ga K t.1)) = p.tabs.map fun t => some (He.keysIn w.params (t.2.map fun q => toS q.1)) := congrArg (fun z : AlM => z.2.2) e
  refine ⟨e2, e1, fun t ht => ?_⟩
  obtain ⟨i, hi, rfl⟩ := List.mem_iff_getElem.mp ht
  have e4 : (p.tabs.map fun t => He.dicW K (He.ga K t.1))[i]? = (p.tabs.map fun t => some (He.keysIn w.params (t.2.map fun q => toS q.1)))[i]? := by rw [e3]
  rw [List.getElem?_map, List.getElem?_map, List.getElem?_eq_getElem hi] at e4
  exact He.dicW_ok (Option.some.inj e4)
/-- a law by its core program -/
theorem finish {l : PySem.W.OpenLaw} {n m lawN : Nat} {p : Pr} {q : Program} {loose : List Str} {XP : (Str → Option Value) → Heap → Prop} {d : DefRec} {md : MD} {hn' : Nat} {px : Str} (hn : l.most = some n) (hn2 : n ≤ sizeLine) (hdf : d.params.defaults = []) (hr : Room (3 * m) callerA)
    (g : p.good = true) (hb : ∀ d ∈ p.defs, BindOk d) (hd : ∀ d ∈ p.defs, DefOk p d) (hl : p.defs[lawN]? = some md) (hloc : md.loc = .glo "law") (hps : md.ps = [px]) (hnp : md.core.np = 1) (hi : md.core.ini = none) (hname : d.name = ("law" : Str))
    (main : ∀ ns : List Int, ns.length ≤ n → ∃ w', callP (p.tbz ns) p.cores (fun _ => none) m lawN [.ext 0] [] = .ok (.bl true) w') :
    PySem.W.WalkO q loose XP (hookM hn' p).says l.row.toRowW d [] (fun f vs => PySem.call f vs) := by
  refine walk_G hn hn2 hdf hr (x := px) fun w mg fa h Y G hmg => ?_
  obtain ⟨K, KX, e⟩ := Y
  have S := sees_of e
  obtain ⟨fd, e1, F, e2⟩ := S.def_ hl
  have hfa : fa = locA K md.loc := by
    have lb := (S.parts.2.2.1 md (mem_at hl)).2
    rw [hloc] at lb ⊢
    have := He.glo_ok KX G (x := "law") lb
    rw [← hname, hmg] at this
    rw [hname] at this
    cases this
    rfl
  subst hfa
  refine ⟨K, fd, KX, fun s u => ?_, fun base H a ns hlen k1 k2 hO hS => ?_⟩
  · have := F.bindsA (hb md (mem_at hl)) s [u] (by rw [hps]; rfl)
    rw [hps] at this
    exact this
  · let scr : List (Addr × HO) := match H a with
      | some u => [(a, u)]
      | none => []
    have hscr : ∀ q ∈ scr, H q.1 = some q.2 := fun q hq => by
      show H q.1 = some q.2
      cases z : H a with
      | none =>
        have : scr = [] := by show (match H a with | some u => [(a, u)] | none => []) = _; rw [z]
        rw [this] at hq; exact absurd hq List.not_mem_nil
      | some u =>
        have : scr = [(a, u)] := by show (match H a with | some u => [(a, u)] | none => []) = _; rw [z]
        rw [this] at hq
        rw [List.mem_singleton.mp hq]; exact z
    have hsc : ∀ F : Hp, (∀ q ∈ scr, F q.1 = some q.2) → SqL K F a (ns.map V.int) := fun F hF => sqL_at hS fun u hu => by
      have : scr = [(a, u)] := by show (match H a with | some u => [(a, u)] | none => []) = _; rw [hu]
      rw [this] at hF
      exact hF (a, u) List.mem_cons_self
    have lv := lv_all (P := l.prog) g k1 k2 S hb hd hsc m
    obtain ⟨lg, _⟩ := lv lawN _ e2
    simp only [hi, hnp] at lg
    rw [hps] at lg
    obtain ⟨w', hw⟩ := main ns hlen
    refine ⟨_, lg, rfl, H, [], [.ext 0], [], .bl true, w', ⟨Le.rfl', rfl, .nil, fun m d a h => by simp at h, hscr⟩, .cons (by simp only [Rep]; rfl) .nil, hw, fun v F' as' H' _ _ rep => by simpa only [Rep] using rep⟩
end MP

set_option autoImplicit false
/-! MPC1: what a run of the core gives, and rules for it. -/
namespace MP.C
/-- the run ends well, with an answer of which Q holds -/
def Ok {α : Type} (r : R α) (Q : α → Wd → Prop) : Prop := match r with
  | .ok a w => Q a w
  | _ => False
theorem ok_ok {α : Type} {a : α} {w : Wd} {Q : α → Wd → Prop} : Ok (.ok a w) Q ↔ Q a w := Iff.rfl
theorem ok_bind {α β : Type} {x : R α} {f : α → Wd → R β} {Q : β → Wd → Prop} : Ok (x.bind f) Q ↔ Ok x fun a w => Ok (f a w) Q := by
  cases x <;> exact Iff.rfl
theorem ok_ofO {α : Type} {o : Option α} {w : Wd} {Q : α → Wd → Prop} : Ok (ofO o w) Q ↔ ∃ a, o = some a ∧ Q a w := by
  cases o with
  | none => exact ⟨fun h => h.elim, fun ⟨_, h, _⟩ => by cases h⟩
  | some a => exact ⟨fun h => ⟨a, rfl, h⟩, fun ⟨b, h, q⟩ => by cases h; exact q⟩
theorem Ok.mono {α : Type} {r : R α} {Q S : α → Wd → Prop} (h : Ok r Q) (k : ∀ a w, Q a w → S a w) : Ok r S := by
  cases r with
  | ok a w => exact k a w h
  | exc => exact h
  | bad => exact h
theorem Ok.ex {α : Type} {r : R α} {Q : α → Wd → Prop} (h : Ok r Q) : ∃ a w, r = .ok a w ∧ Q a w := by
  cases r with
  | ok a w => exact ⟨a, w, rfl, h⟩
  | exc => exact h.elim
  | bad => exact h.elim
theorem ok_of {α : Type} {r : R α} {a : α} {w : Wd} {Q : α → Wd → Prop} (e : r = .ok a w) (q : Q a w) : Ok r Q := by
  rw [e]; exact q
/-- a list built part by part, with a world that moves: the k-th step keeps I -/
theorem goL_ok {f : D → Wd → R (Option D)} {I : Nat → Wd → Prop} {G : Option D → Prop} :
    ∀ (ds : List D) (n : Nat) (w : Wd), I n w → (∀ d ∈ ds, ∀ k w, n ≤ k → k < n + ds.length → I k w → Ok (f d w) fun o w' => G o ∧ I (k + 1) w') →
    Ok (goL f ds w) fun xs w' => I (n + ds.length) w' ∧ ∃ os : List (Option D), os.length = ds.length ∧ (∀ o ∈ os, G o) ∧ xs = os.filterMap id
  | [], n, w, h, _ => ⟨h, [], rfl, fun _ h => absurd h List.not_mem_nil, rfl⟩
  | d :: ds, n, w, h, hf => by
    show Ok ((f d w).bind _) _
    rw [ok_bind]
    refine (hf d List.mem_cons_self n w (Nat.le_refl _) (by simp) h).mono fun o w1 ⟨g, i⟩ => ?_
    show Ok ((goL f ds w1).bind _) _
    rw [ok_bind]
    refine (goL_ok (I := I) (G := G) ds (n + 1) w1 i fun d' hd k w hk hk2 hi => hf d' (List.mem_cons_of_mem _ hd) k w (by omega) (by simp only [List.length_cons]; omega) hi).mono fun xs w2 ⟨j, os, e1, e2, e3⟩ => ?_
    refine ⟨by rw [show n + (d :: ds).length = n + 1 + ds.length by simp only [List.length_cons]; omega]; exact j, o :: os, by simp [e1], ?_, ?_⟩
    · intro x hx
      rcases List.mem_cons.mp hx with rfl | hx
      · exact g
      · exact e2 x hx
    · subst e3
      cases o <;> rfl
/-- a list built with a pure step -/
theorem goL_pure {f : D → Wd → R (Option D)} {w : Wd} {g : D → D} : ∀ {ds : List D}, (∀ d ∈ ds, f d w = .ok (some (g d)) w) → goL f ds w = .ok (ds.map g) w
  | [], _ => rfl
  | d :: ds, h => by
    show (f d w).bind _ = _
    rw [h d List.mem_cons_self]
    show (goL f ds w).bind _ = _
    rw [goL_pure fun d' hd => h d' (List.mem_cons_of_mem _ hd)]
    rfl
theorem goL_map {α : Type} {f : D → Wd → R (Option D)} {w : Wd} {e : α → D} {g : α → D} : ∀ {xs : List α}, (∀ x ∈ xs, f (e x) w = .ok (some (g x)) w) → goL f (xs.map e) w = .ok (xs.map g) w
  | [], _ => rfl
  | d :: ds, h => by
    show (f (e d) w).bind _ = _
    rw [h d List.mem_cons_self]
    show (goL f (ds.map e) w).bind _ = _
    rw [goL_map fun d' hd => h d' (List.mem_cons_of_mem _ hd)]
    rfl
theorem bools_map {α : Type} {f : α → Bool} : ∀ xs : List α, bools (xs.map fun x => .bl (f x)) = some (xs.map f)
  | [] => rfl
  | x :: xs => by show (bools _).map _ = _; rw [bools_map xs]; rfl
theorem strs_map : ∀ xs : List (List Nat), strsO (xs.map .str) = some xs
  | [] => rfl
  | x :: xs => by show (strsO _).map _ = _; rw [strs_map xs]; rfl
theorem ints_map : ∀ xs : List Int, intsO (xs.map .int) = some xs
  | [] => rfl
  | x :: xs => by show (intsO _).map _ = _; rw [ints_map xs]; rfl
/-- the pot: where it lies, how many have been drawn at most -/
def Pot (i N : Nat) (w : Wd) : Prop := ∃ a b c : Int, w[i]? = some (.lst [.int a, .int b, .int c]) ∧ 0 ≤ a ∧ 0 ≤ b ∧ b < 2 ^ 62 ∧ 0 ≤ c ∧ c ≤ N
theorem Pot.le {i N M : Nat} {w : Wd} (h : Pot i N w) (k : N ≤ M) : Pot i M w := by
  obtain ⟨a, b, c, h1, h2, h4, h5, h6, h7⟩ := h
  exact ⟨a, b, c, h1, h2, h4, h5, h6, by omega⟩
theorem ixD_nat {n : Nat} {i : Nat} (h : i < n) : ixD n (i : Int) = some i := by
  unfold ixD
  rw [if_pos (by omega), if_pos (by omega)]
  rfl
/-! ### words -/
theorem splitL_no {c : Nat} : ∀ {x : List Nat}, c ∉ x → splitL c x = [x]
  | [], _ => rfl
  | a :: x, h => by
    rw [splitL, if_neg (show ¬ a = c from fun e => h (by rw [e]; exact List.mem_cons_self)), splitL_no fun k => h (List.mem_cons_of_mem _ k)]
theorem splitL_app {c : Nat} {r : List Nat} : ∀ {x : List Nat}, c ∉ x → splitL c (x ++ [c] ++ r) = x :: splitL c r
  | [], _ => by show splitL c (c :: r) = _; rw [splitL, if_pos rfl]
  | a :: x, h => by
    show splitL c (a :: (x ++ [c] ++ r)) = _
    rw [splitL, if_neg (show ¬ a = c from fun e => h (by rw [e]; exact List.mem_cons_self)), splitL_app fun k => h (List.mem_cons_of_mem _ k)]
theorem split_join {c : Nat} : ∀ {xs : List (List Nat)}, xs ≠ [] → (∀ x ∈ xs, c ∉ x) → splitL c (joinL [c] xs) = xs
  | [], h, _ => absurd rfl h
  | [x], _, h => splitL_no (h x List.mem_cons_self)
  | x :: y :: r, _, h => by
    show splitL c (x ++ [c] ++ joinL [c] (y :: r)) = _
    rw [splitL_app (h x List.mem_cons_self), split_join (by simp) fun z hz => h z (List.mem_cons_of_mem _ hz)]
theorem not_mem_joinL {c : Nat} {sep : List Nat} (hs : c ∉ sep) : ∀ {xs : List (List Nat)}, (∀ x ∈ xs, c ∉ x) → c ∉ joinL sep xs
  | [], _ => List.not_mem_nil
  | [x], h => h x List.mem_cons_self
  | x :: y :: r, h => by
    show c ∉ x ++ sep ++ joinL sep (y :: r)
    rw [List.mem_append, List.mem_append]
    rintro ((k | k) | k)
    · exact h x List.mem_cons_self k
    · exact hs k
    · exact not_mem_joinL hs (fun z hz => h z (List.mem_cons_of_mem _ hz)) k
theorem joinL_len {sep : List Nat} : ∀ xs : List (List Nat), (joinL sep xs).length ≤ fpl sep xs
  | [] => Nat.zero_le _
  | [x] => by simp [joinL, fpl]
  | x :: y :: r => by
    show (x ++ sep ++ joinL sep (y :: r)).length ≤ _
    have := joinL_len (sep := sep) (y :: r)
    simp only [fpl, List.map_cons, List.sum_cons, List.length_append] at this ⊢
    omega
theorem fpl_le {sep : List Nat} {m : Nat} : ∀ {xs : List (List Nat)}, (∀ x ∈ xs, x.length ≤ m) → fpl sep xs ≤ xs.length * (m + sep.length)
  | [], _ => by simp [fpl]
  | x :: xs, h => by
    have := fpl_le (sep := sep) fun z hz => h z (List.mem_cons_of_mem x hz)
    have h1 := h x List.mem_cons_self
    simp only [fpl, List.map_cons, List.sum_cons, List.length_cons] at this ⊢
    rw [Nat.add_mul]; omega
/-! ### figures -/
theorem natS_app : ∀ (l r : List Nat) (acc : Nat), natS acc (l ++ r) = (natS acc l).bind fun a => natS a r
  | [], r, acc => rfl
  | c :: l, r, acc => by
    show (if 48 ≤ c ∧ c ≤ 57 then natS (acc * 10 + (c - 48)) (l ++ r) else none) = _
    by_cases h : 48 ≤ c ∧ c ≤ 57
    · rw [if_pos h, natS_app]; show _ = (if _ then _ else _ : Option Nat).bind _; rw [if_pos h]
    · rw [if_neg h]; show _ = (if _ then _ else _ : Option Nat).bind _; rw [if_neg h]; rfl
end MP.C

set_option autoImplicit false
/-! MPC2: figures. -/
namespace MP.C
theorem digitsN_lt {n : Nat} (h : n < 10) : digitsN n = [48 + n] := by
  unfold digitsN
  rw [Nat.toDigits_of_lt_base h]
  rcases n with _ | _ | _ | _ | _ | _ | _ | _ | _ | _ | n
  all_goals first | rfl | omega
theorem digitsN_ge {n : Nat} (h : 10 ≤ n) : digitsN n = digitsN (n / 10) ++ [48 + n % 10] := by
  have e : digitsN (n % 10) = [48 + n % 10] := digitsN_lt (by omega)
  unfold digitsN at e ⊢
  rw [Nat.toDigits_of_base_le (by omega) h, List.map_append]
  rw [Nat.toDigits_of_lt_base (by omega)] at e
  rw [← e]
theorem digitsN_ne (n : Nat) : digitsN n ≠ [] := by
  by_cases h : n < 10
  · rw [digitsN_lt h]; exact List.cons_ne_nil _ _
  · rw [digitsN_ge (by omega)]; simp
theorem digitsN_fig (n : Nat) : ∀ c ∈ digitsN n, 48 ≤ c ∧ c ≤ 57 := by
  induction n using Nat.strongRecOn with
  | _ n ih =>
    by_cases h : n < 10
    · rw [digitsN_lt h]; intro c hc; rw [List.mem_singleton.mp hc]; omega
    · rw [digitsN_ge (by omega)]
      intro c hc
      rcases List.mem_append.mp hc with hc | hc
      · exact ih (n / 10) (by omega) c hc
      · rw [List.mem_singleton.mp hc]; omega
theorem natS_digits (n : Nat) : natS 0 (digitsN n) = some n := by
  induction n using Nat.strongRecOn with
  | _ n ih =>
    by_cases h : n < 10
    · rw [digitsN_lt h]
      show (if 48 ≤ 48 + n ∧ 48 + n ≤ 57 then natS (0 * 10 + (48 + n - 48)) [] else none) = _
      rw [if_pos (by omega)]
      show some _ = some _
      congr 1; omega
    · rw [digitsN_ge (by omega), natS_app, ih (n / 10) (by omega)]
      show (if 48 ≤ 48 + n % 10 ∧ 48 + n % 10 ≤ 57 then natS (n / 10 * 10 + (48 + n % 10 - 48)) [] else none) = _
      rw [if_pos (by omega)]
      show some _ = some _
      congr 1; omega
/-- the first figure is no 0, but for 0 -/
theorem digitsN_head (n : Nat) (h : n ≠ 0) : (digitsN n).head? ≠ some 48 := by
  induction n using Nat.strongRecOn with
  | _ n ih =>
    by_cases k : n < 10
    · rw [digitsN_lt k]; simp only [List.head?_cons, ne_eq, Option.some.injEq]; omega
    · rw [digitsN_ge (by omega)]
      have := ih (n / 10) (by omega) (by omega)
      cases q : digitsN (n / 10) with
      | nil => exact absurd q (digitsN_ne _)
      | cons a r => rw [q] at this; exact this
theorem digitsN_len (n k : Nat) (hk : 0 < k) (h : n < 10 ^ k) : (digitsN n).length ≤ k := by
  induction k generalizing n with
  | zero => omega
  | succ k ih =>
    by_cases g : n < 10
    · rw [digitsN_lt g]; simp
    · rw [digitsN_ge (by omega), List.length_append]
      have : (digitsN (n / 10)).length ≤ k := by
        refine ih (n / 10) ?_ ?_
        · rcases k with _ | k
          · simp at h; omega
          · omega
        · rw [Nat.pow_succ] at h; omega
      simp only [List.length_cons, List.length_nil]; omega
theorem strI_len (i : Int) (h : i.natAbs < 10 ^ 20) : (strI i).length ≤ 21 := by
  have := digitsN_len i.natAbs 20 (by omega) h
  unfold strI
  split
  · simp only [List.length_cons]; omega
  · omega
theorem strI_sign (i : Int) : ∀ c ∈ strI i, c = 45 ∨ 48 ≤ c ∧ c ≤ 57 := by
  intro c hc
  unfold strI at hc
  split at hc
  · rcases List.mem_cons.mp hc with rfl | hc
    · exact .inl rfl
    · exact .inr (digitsN_fig _ c hc)
  · exact .inr (digitsN_fig _ c hc)
theorem intS_strI (i : Int) : intS (strI i) = some i := by
  unfold strI
  split
  · show (if digitsN i.natAbs = [] then none else (natS 0 (digitsN i.natAbs)).map fun (n : Nat) => -(n : Int)) = _
    rw [if_neg (digitsN_ne _), natS_digits]
    exact congrArg some (show -((i.natAbs : Nat) : Int) = i by omega)
  · cases q : digitsN i.natAbs with
    | nil => exact absurd q (digitsN_ne _)
    | cons a r =>
      have ha : 48 ≤ a ∧ a ≤ 57 := digitsN_fig i.natAbs a (by rw [q]; exact List.mem_cons_self)
      have e : intS (a :: r) = (natS 0 (a :: r)).map fun (n : Nat) => (n : Int) := by
        unfold intS
        split
        · rename_i h; cases h
        · rename_i h; cases h; omega
        · rename_i h; cases h; rfl
      rw [e, ← q, natS_digits]
      exact congrArg some (show ((i.natAbs : Nat) : Int) = i by omega)
/-- the text of an int without its sign -/
def figs (i : Int) : List Nat := digitsN i.natAbs
theorem strI_pre (i : Int) : ([45] : List Nat).isPrefixOf (strI i) = decide (i < 0) := by
  unfold strI
  split
  · rename_i h
    simp [List.isPrefixOf, h]
  · rename_i h
    cases q : digitsN i.natAbs with
    | nil => exact absurd q (digitsN_ne _)
    | cons a r =>
      have ha : 48 ≤ a ∧ a ≤ 57 := digitsN_fig i.natAbs a (by rw [q]; exact List.mem_cons_self)
      simp only [List.isPrefixOf, h, decide_false, Bool.and_true, beq_eq_false_iff_ne]
      omega
theorem figs_drop (i : Int) (h : i < 0) : (strI i).drop 1 = figs i := by
  unfold strI; rw [if_pos h]; rfl
theorem figs_same (i : Int) (h : ¬ i < 0) : strI i = figs i := by
  unfold strI; rw [if_neg h]; rfl
theorem figs_pre0 (i : Int) (h : ([48] : List Nat).isPrefixOf (figs i) = true) : i = 0 := by
  cases q : figs i with
  | nil => exact absurd q (digitsN_ne _)
  | cons a r =>
    rw [q] at h
    have ha : a = 48 := by
      have h2 : (48 == a && ([] : List Nat).isPrefixOf r) = true := h
      simp only [Bool.and_eq_true, beq_iff_eq] at h2
      exact h2.1.symm
    refine Decidable.byContradiction fun hn => digitsN_head i.natAbs (by omega) ?_
    show (figs i).head? = _
    rw [q, ha]; rfl
end MP.C
namespace MP.C
def fin (r : R Fl) : R D := r.bind fun r w => match r with
  | .rt x => .ok x w
  | .nx _ => .ok .non w
  | _ => .bad
def finI (c : Nat) (r : R Fl) : R D := r.bind fun r w => match r with
  | .nx ρ => selfOf c (ρ.getD 0 none) w
  | _ => .bad
theorem bind_ok {α β : Type} {a : α} {w : Wd} {f : α → Wd → R β} : (R.ok a w).bind f = f a w := rfl
theorem ofO_some {α : Type} {a : α} {w : Wd} : ofO (some a) w = .ok a w := rfl
theorem boolR_bl {b : Bool} {w : Wd} : boolR (.bl b) w = .ok b w := rfl
theorem fin_rt {d : D} {w : Wd} : fin (.ok (.rt d) w) = .ok d w := rfl
theorem fin_nx {ρ : En} {w : Wd} : fin (.ok (.nx ρ) w) = .ok .non w := rfl
theorem eq_str {a b : List Nat} : eqD (.str a) (.str b) = some (a == b) := rfl
theorem eq_int {a b : Int} : eqD (.int a) (.int b) = some (a == b) := rfl
theorem in_chr {w : Wd} {c : Nat} {s : List Nat} : inD w (.str [c]) (.str s) = some (isSub c s) := rfl
theorem iter_str {s : List Nat} (h : s.length ≤ bigN) : iterD (.str s) = some (s.map fun c => .str [c]) := by
  show (if _ then _ else _) = _
  rw [if_pos h]
theorem len_str {w : Wd} {s : List Nat} (h : s.length ≤ bigN) : bfD w .len [.str s] = some (.int s.length) := by
  show (if _ then _ else _) = _
  rw [if_pos h]
theorem len_lst {w : Wd} {s : List D} : bfD w .len [.lst s] = some (.int s.length) := rfl
theorem len_tup {w : Wd} {s : List D} : bfD w .len [.tup s] = some (.int s.length) := rfl
theorem all_map {w : Wd} {α : Type} {f : α → Bool} {xs : List α} : bfD w .all [.lst (xs.map fun x => .bl (f x))] = some (.bl (xs.all f)) := by
  show (bools _).map _ = _
  rw [bools_map]
  show some (D.bl ((xs.map f).all id)) = _
  rw [List.all_map]; rfl
theorem all_true {w : Wd} {α : Type} {xs : List α} : bfD w .all [.lst (xs.map fun _ => .bl true)] = some (.bl true) := by
  rw [all_map (f := fun _ => true)]
  simp
end MP.C

set_option autoImplicit false
set_option maxRecDepth 100000
set_option linter.all false
/-! MPC3: what each form means, one line each; the loops by themselves. -/
namespace MP.C
section
variable {T : Tb} {C : CallF} {ρ : En} {w : Wd} {x y z : CE} {es : List CE} {o p : Cop}
theorem x_v {i : Nat} : ev T C (.v i) ρ w = ofO (ρ.getD i none) w := rfl
theorem x_b {i : Nat} : ev T C (.b i) ρ w = ofO (ρ.getD i none) w := rfl
theorem x_non : ev T C .non ρ w = .ok .non w := rfl
theorem x_bl {b : Bool} : ev T C (.bl b) ρ w = .ok (.bl b) w := rfl
theorem x_int {b : Int} : ev T C (.int b) ρ w = .ok (.int b) w := rfl
theorem x_str {b : List Nat} : ev T C (.str b) ρ w = .ok (.str b) w := rfl
theorem x_g {b : Nat} : ev T C (.g b) ρ w = ofO (T.glb b) w := rfl
theorem x_tup : ev T C (.tup es) ρ w = (evs T C es ρ w).bind fun ds w => .ok (.tup ds) w := rfl
theorem x_lst : ev T C (.lst es) ρ w = (evs T C es ρ w).bind fun ds w => .ok (.lst ds) w := rfl
theorem x_dct {ks : List CE} : ev T C (.dct ks es) ρ w = (evs T C ks ρ w).bind fun ds w => (evs T C es ρ w).bind fun es w => .ok (.dct ds es) w := rfl
theorem x_bin {o : Bop} : ev T C (.bin o x y) ρ w = (ev T C x ρ w).bind fun a w => (ev T C y ρ w).bind fun b w => ofO (binD o a b) w := rfl
def negR (a : D) (w : Wd) : R D := match a with | .int i => .ok (.int (-i)) w | _ => .bad
theorem negR_int {i : Int} : negR (.int i) w = .ok (.int (-i)) w := rfl
theorem x_neg : ev T C (.neg x) ρ w = (ev T C x ρ w).bind negR := rfl
theorem x_not : ev T C (.not x) ρ w = ((ev T C x ρ w).bind boolR).bind fun b w => .ok (.bl (!b)) w := rfl
theorem x_cmp : ev T C (.cmp o x y) ρ w = (ev T C x ρ w).bind fun a w => (ev T C y ρ w).bind fun b w => ofO ((cmpD w o a b).map .bl) w := rfl
def cmp2R (T : Tb) (C : CallF) (p : Cop) (z : CE) (ρ : En) (b : D) (q : Option Bool) (w : Wd) : R D := match q with
    | some true => (ev T C z ρ w).bind fun c w => ofO ((cmpD w p b c).map .bl) w
    | some false => .ok (.bl false) w
    | none => .bad
theorem cmp2R_t {b : D} : cmp2R T C p z ρ b (some true) w = (ev T C z ρ w).bind fun c w => ofO ((cmpD w p b c).map .bl) w := rfl
theorem cmp2R_f {b : D} : cmp2R T C p z ρ b (some false) w = .ok (.bl false) w := rfl
theorem x_cmp2 : ev T C (.cmp2 o p x y z) ρ w = (ev T C x ρ w).bind fun a w => (ev T C y ρ w).bind fun b w => cmp2R T C p z ρ b (cmpD w o a b) w := rfl
theorem x_and : ev T C (.and x y) ρ w = ((ev T C x ρ w).bind boolR).bind fun b w => if b then ev T C y ρ w else .ok (.bl false) w := rfl
theorem x_or : ev T C (.or x y) ρ w = ((ev T C x ρ w).bind boolR).bind fun b w => if b then .ok (.bl true) w else ev T C y ρ w := rfl
theorem x_ite : ev T C (.ite x y z) ρ w = ((ev T C x ρ w).bind boolR).bind fun b w => if b then ev T C y ρ w else ev T C z ρ w := rfl
theorem x_call {f : Nat} : ev T C (.call f es) ρ w = (evs T C es ρ w).bind fun ds w => C f ds w := rfl
def mkR (C : CallF) (o : Option Nat) (ds : List D) (w : Wd) : R D := match o with
    | some f => C f ds w
    | none => .bad
theorem mkR_some {f : Nat} {ds : List D} : mkR C (some f) ds w = C f ds w := rfl
theorem x_mk {c : Nat} : ev T C (.mk c es) ρ w = (evs T C es ρ w).bind fun ds w => mkR C (T.ini c) ds w := rfl
def fldR (T : Tb) (f : Nat) (d : D) (w : Wd) : R D := match d with
    | .ins c fs => ofO ((T.fpos f c).bind fun j => fs[j]?) w
    | _ => .bad
theorem fldR_ins {f c : Nat} {fs : List D} : fldR T f (.ins c fs) w = ofO ((T.fpos f c).bind fun j => fs[j]?) w := rfl
theorem x_fld {f : Nat} : ev T C (.fld x f) ρ w = (ev T C x ρ w).bind fun d w => fldR T f (deref w d) w := rfl
def propR (T : Tb) (C : CallF) (f : Nat) (d : D) (w : Wd) : R D := match d with
    | .ins c fs => mkR C (T.prp f c) [.ins c fs] w
    | _ => .bad
theorem propR_ins {f c : Nat} {fs : List D} : propR T C f (.ins c fs) w = mkR C (T.prp f c) [.ins c fs] w := rfl
theorem x_prop {f : Nat} : ev T C (.prop x f) ρ w = (ev T C x ρ w).bind fun d w => propR T C f d w := rfl
theorem x_idx : ev T C (.idx x y) ρ w = (ev T C x ρ w).bind fun a w => (ev T C y ρ w).bind fun b w => ofO (idxD w a b) w := rfl
theorem x_sli : ev T C (.sli x y z) ρ w = (ev T C x ρ w).bind fun a w => (ev T C y ρ w).bind fun l w => (ev T C z ρ w).bind fun h w => ofO (sliD w a (partD y l) (partD z h)) w := rfl
theorem x_bf {f : Bf} : ev T C (.bf f es) ρ w = (evs T C es ρ w).bind fun ds w => ofO (bfD w f ds) w := rfl
theorem x_bm {m : Bm} : ev T C (.bm m x es) ρ w = (ev T C x ρ w).bind fun d w => (evs T C es ρ w).bind fun ds w => ofO (bmD w m d ds) w := rfl
theorem x_isi {t : Ty} : ev T C (.isi x t) ρ w = (ev T C x ρ w).bind fun d w => ofO ((isiD T.nc d t).map .bl) w := rfl
theorem x_rpeq {b : Bool} : ev T C (.rpeq b x y) ρ w = (ev T C x ρ w).bind fun a w' => (ev T C y ρ w').bind fun c w => ofO (rpeqD b a c) w := rfl
theorem x_tix {g : Nat} : ev T C (.tix g x) ρ w = (ev T C x ρ w).bind fun d w => ofO (tixD (T.tab g) d) w := rfl
theorem x_tin {g : Nat} {b : Bool} : ev T C (.tin b g x) ρ w = (ev T C x ρ w).bind fun d w => ofO (tinD (T.tab g) b d) w := rfl
theorem x_tups {fl : List Bool} : ev T C (.tups fl es) ρ w = (evs T C es ρ w).bind fun ds w => (ofO (spl fl ds) w).bind fun xs w => if xs.length ≤ bigN then .ok (.tup xs) w else .bad := rfl
theorem x_lsts {fl : List Bool} : ev T C (.lsts fl es) ρ w = (evs T C es ρ w).bind fun ds w => (ofO (spl fl ds) w).bind fun xs w => if xs.length ≤ bigN then .ok (.lst xs) w else .bad := rfl
theorem x_slen : ev T C (.slen x) ρ w = (ev T C x ρ w).bind fun d w => ofO (slenD T.scr d) w := rfl
theorem x_sidx : ev T C (.sidx x y) ρ w = (ev T C x ρ w).bind fun a w => (ev T C y ρ w).bind fun b w => ofO (sidxD T.scr a b) w := rfl
/-- a list's part -/
def lcF (T : Tb) (C : CallF) (p : Pat) (cs : List CE) (e : CE) (ρ : En) (d : D) (w : Wd) : R (Option D) :=
  (ofO (bindP p ρ d) w).bind fun ρ' w => (evC T C cs ρ' w).bind fun b w => if b then (ev T C e ρ' w).bind fun x w => .ok (some x) w else .ok none w
theorem x_lc {p : Pat} {cs : List CE} {e : CE} : ev T C (.lc p x cs e) ρ w = (ev T C x ρ w).bind fun xs w => (ofO (iterD xs) w).bind fun ds w => (goL (lcF T C p cs e ρ) ds w).bind fun ys w => .ok (.lst ys) w := rfl
theorem lc_map {p : Pat} {cs : List CE} {e : CE} {α : Type} {xs : D} (l : List α) (k g : α → D) (h1 : ev T C x ρ w = .ok xs w) (h2 : iterD xs = some (l.map k)) (h3 : ∀ a ∈ l, lcF T C p cs e ρ (k a) w = .ok (some (g a)) w) :
    ev T C (.lc p x cs e) ρ w = .ok (.lst (l.map g)) w := by
  rw [x_lc, h1, bind_ok, h2, ofO_some, bind_ok, goL_map h3, bind_ok]
/-- a list whose parts are drawn -/
theorem lc_ok {p : Pat} {cs : List CE} {e : CE} {xs : D} {ds : List D} {I : Nat → Wd → Prop} {G : Option D → Prop} (h1 : ev T C x ρ w = .ok xs w) (h2 : iterD xs = some ds) (n : Nat) (h0 : I n w) (h3 : ∀ d ∈ ds, ∀ k w, n ≤ k → k < n + ds.length → I k w → Ok (lcF T C p cs e ρ d w) fun o w' => G o ∧ I (k + 1) w') :
    Ok (ev T C (.lc p x cs e) ρ w) fun r w' => I (n + ds.length) w' ∧ ∃ os : List (Option D), os.length = ds.length ∧ (∀ o ∈ os, G o) ∧ r = .lst (os.filterMap id) := by
  rw [x_lc, h1, bind_ok, h2, ofO_some, bind_ok, ok_bind]
  exact (goL_ok ds n w h0 h3).mono fun xs w ⟨i, os, e1, e2, e3⟩ => ⟨i, os, e1, e2, by rw [e3]⟩
/-! statements -/
variable {i j : Nat} {b c : List CS} {pt : Pat}
theorem s_set : evS T C (.set pt x) ρ w = (ev T C x ρ w).bind fun d w => (ofO (bindP pt ρ d) w).bind fun ρ w => .ok (.nx ρ) w := rfl
theorem s_seto : evS T C (.seto i x) ρ w = (ev T C x ρ w).bind fun d w => if isNewD d then .ok (.nx (ρ.set i (some d))) w else .bad := rfl
theorem s_par {ps : List Pat} {os : List Bool} : evS T C (.par ps os es) ρ w = (evs T C es ρ w).bind fun ds w => if newAt os ds then (ofO (bindPs ps ρ ds) w).bind fun ρ w => .ok (.nx ρ) w else .bad := rfl
theorem s_aug {o : Bop} : evS T C (.aug i o x) ρ w = (ofO (ρ.getD i none) w).bind fun a w => (ev T C x ρ w).bind fun b w => (ofO (augD o a b) w).bind fun d w => .ok (.nx (ρ.set i (some d))) w := rfl
def appR (i : Nat) (o : Option (List D)) (d : D) (ρ : En) (w : Wd) : R Fl := match o with
    | some xs => if xs.length < bigN then .ok (.nx (ρ.set i (some (.lst (xs ++ [d]))))) w else .bad
    | none => .bad
theorem appR_some {xs : List D} {d : D} (h : xs.length < bigN) : appR i (some xs) d ρ w = .ok (.nx (ρ.set i (some (.lst (xs ++ [d]))))) w := if_pos h
theorem s_app : evS T C (.app i x) ρ w = (ev T C x ρ w).bind fun d w => appR i (lstAt ρ i) d ρ w := rfl
def extR (i : Nat) (o : Option (List D)) (d : D) (ρ : En) (w : Wd) : R Fl := match o, d with
    | some xs, .lst ys => if xs.length + ys.length ≤ bigN then .ok (.nx (ρ.set i (some (.lst (xs ++ ys))))) w else .bad
    | _, _ => .bad
theorem extR_some {xs ys : List D} (h : xs.length + ys.length ≤ bigN) : extR i (some xs) (.lst ys) ρ w = .ok (.nx (ρ.set i (some (.lst (xs ++ ys))))) w := if_pos h
theorem s_ext : evS T C (.ext i x) ρ w = (ev T C x ρ w).bind fun d w => extR i (lstAt ρ i) d ρ w := rfl
def insrR (i : Nat) (o : Option (List D)) (a d : D) (ρ : En) (w : Wd) : R Fl := match o, a with
    | some xs, .int j => if 0 ≤ j ∧ j ≤ xs.length ∧ xs.length < bigN then .ok (.nx (ρ.set i (some (.lst (xs.take j.toNat ++ d :: xs.drop j.toNat))))) w else .bad
    | _, _ => .bad
theorem s_insr : evS T C (.insr i x y) ρ w = (ev T C x ρ w).bind fun a w => (ev T C y ρ w).bind fun d w => insrR i (lstAt ρ i) a d ρ w := rfl
def setiR (i : Nat) (o : Option D) (a d : D) (ρ : En) (w : Wd) : R Fl := match o, a with
    | some (.lst xs), .int j => (match ixD xs.length j with
      | some j => .ok (.nx (ρ.set i (some (.lst (xs.set j d))))) w
      | none => .bad)
    | some (.dct ks vs), a => (match putD a d ks vs with
      | some (ks, vs) => if ks.length < bigN then .ok (.nx (ρ.set i (some (.dct ks vs)))) w else .bad
      | none => .bad)
    | _, _ => .bad
theorem s_seti : evS T C (.seti i x y) ρ w = (ev T C y ρ w).bind fun d w => (ev T C x ρ w).bind fun a w => setiR i (ρ.getD i none) a d ρ w := rfl
def setfR (T : Tb) (i f : Nat) (o : Option D) (d : D) (ρ : En) (w : Wd) : R Fl := match o with
    | some (.ins c fs) => (match (T.fpos f c).bind fun j => setFld j d fs with
      | some fs => .ok (.nx (ρ.set i (some (.ins c fs)))) w
      | none => .bad)
    | _ => .bad
theorem setfR_ins {f k c : Nat} {fs fs' : List D} {d : D} (h1 : T.fpos f c = some k) (h2 : setFld k d fs = some fs') : setfR T i f (some (.ins c fs)) d ρ w = .ok (.nx (ρ.set i (some (.ins c fs')))) w := by
  show (match (T.fpos f c).bind fun j => setFld j d fs with
      | some fs => (R.ok (Fl.nx (ρ.set i (some (.ins c fs)))) w : R Fl)
      | none => .bad) = _
  rw [h1, Option.bind_some, h2]
theorem s_setf {f : Nat} : evS T C (.setf i f x) ρ w = (ev T C x ρ w).bind fun d w => setfR T i f (ρ.getD i none) d ρ w := rfl
theorem s_mv : evS T C (.mv i) ρ w = .ok (.nx ρ) w := rfl
theorem s_ex : evS T C (.ex x) ρ w = (ev T C x ρ w).bind fun _ w => .ok (.nx ρ) w := rfl
theorem s_ite : evS T C (.ite x b c) ρ w = ((ev T C x ρ w).bind boolR).bind fun q w => if q then evSs T C b ρ w else evSs T C c ρ w := rfl
theorem s_ret : evS T C (.ret x) ρ w = (ev T C x ρ w).bind fun d w => .ok (.rt d) w := rfl
theorem s_retn : evS T C .retn ρ w = .ok (.rt .non) w := rfl
def apR (i j : Nat) (xs ys : Option (List D)) (d : D) (ρ : En) (w : Wd) : R Fl := match xs, ys, d with
    | some xs, some ys, .int n => (match ixD ys.length n with
      | some m => (match ys[m]? with
        | some y => if i ≠ j ∧ xs.length < bigN ∧ ys.length ≤ bigN then .ok (.nx ((ρ.set j (some (.lst (ys.eraseIdx m)))).set i (some (.lst (xs ++ [y]))))) w else .bad
        | none => .bad)
      | none => .bad)
    | _, _, _ => .bad
theorem s_appop : evS T C (.appop i j x) ρ w = (ev T C x ρ w).bind fun d w => apR i j (lstAt ρ i) (lstAt ρ j) d ρ w := rfl
def setwR (o : Option D) (a d : D) (ρ : En) (w : Wd) : R Fl := match o, a with
    | some (.obj n), .int j => (match w[n]? with
      | some (.lst xs) => (match ixD xs.length j with
        | some j => .ok (.nx ρ) (w.set n (.lst (xs.set j d)))
        | none => .bad)
      | _ => .bad)
    | _, _ => .bad
theorem setwR_ok {n m : Nat} {j : Int} {xs : List D} {d : D} (h1 : w[n]? = some (.lst xs)) (h2 : ixD xs.length j = some m) : setwR (some (.obj n)) (.int j) d ρ w = .ok (.nx ρ) (w.set n (.lst (xs.set m d))) := by
  unfold setwR
  simp only [h1, h2]
theorem s_setw : evS T C (.setw i x y) ρ w = (ev T C y ρ w).bind fun d w => (ev T C x ρ w).bind fun a w => setwR (ρ.getD i none) a d ρ w := rfl
def retwR (d : D) (w : Wd) : R Fl := match d with
    | .lst xs => .ok (.rt (.obj w.length)) (w ++ [.lst xs])
    | _ => .bad
theorem retwR_lst {xs : List D} : retwR (.lst xs) w = .ok (.rt (.obj w.length)) (w ++ [.lst xs]) := rfl
theorem s_retw : evS T C (.retw x) ρ w = (ev T C x ρ w).bind retwR := rfl
def setsR (fl : List Bool) (ps : List Pat) (ρ : En) (d : D) (w : Wd) : R Fl := match d with
    | .lst xs => (ofO (starBind fl ps ρ xs) w).bind fun ρ w => .ok (.nx ρ) w
    | _ => .bad
theorem setsR_lst {fl : List Bool} {ps : List Pat} {xs : List D} : setsR fl ps ρ (.lst xs) w = (ofO (starBind fl ps ρ xs) w).bind fun ρ w => .ok (.nx ρ) w := rfl
theorem s_sets {fl : List Bool} {ps : List Pat} : evS T C (.sets fl ps x) ρ w = (ev T C x ρ w).bind (setsR fl ps ρ) := rfl
/-- on to the next statement -/
def seqR (T : Tb) (C : CallF) (ss : List CS) (r : Fl) (w : Wd) : R Fl := match r with
    | .nx ρ => evSs T C ss ρ w
    | r => .ok r w
theorem seqR_nx {ss : List CS} : seqR T C ss (.nx ρ) w = evSs T C ss ρ w := rfl
theorem seqR_rt {ss : List CS} {d : D} : seqR T C ss (.rt d) w = .ok (.rt d) w := rfl
theorem sq_nil : evSs T C [] ρ w = .ok (.nx ρ) w := rfl
theorem sq_cons {s : CS} {ss : List CS} : evSs T C (s :: ss) ρ w = (evS T C s ρ w).bind (seqR T C ss) := rfl
theorem es_nil : evs T C [] ρ w = .ok [] w := rfl
theorem es_cons {e : CE} : evs T C (e :: es) ρ w = (ev T C e ρ w).bind fun d w => (evs T C es ρ w).bind fun ds w => .ok (d :: ds) w := rfl
theorem ec_nil : evC T C [] ρ w = .ok true w := rfl
theorem ec_cons {e : CE} : evC T C (e :: es) ρ w = ((ev T C e ρ w).bind boolR).bind fun b w => if b then evC T C es ρ w else .ok false w := rfl
/-- a for, with what holds ahead of the k-th lap -/
def forF (T : Tb) (C : CallF) (p : Pat) (b : List CS) (d : D) (ρ : En) (w : Wd) : R Fl := (ofO (bindP p ρ d) w).bind fun ρ w => evSs T C b ρ w
theorem s_for {p : Pat} {it : CE} : evS T C (.for_ p it b) ρ w = (ev T C it ρ w).bind fun xs w => (ofO (iterD xs) w).bind fun ds w => goF (forF T C p b) ds ρ w := rfl
theorem goF_ok {f : D → En → Wd → R Fl} {J : Nat → En → Wd → Prop} : ∀ (ds : List D) (n : Nat) (ρ : En) (w : Wd), J n ρ w →
    (∀ k d, n ≤ k → ds[k - n]? = some d → ∀ ρ w, J k ρ w → Ok (f d ρ w) fun r w' => ∃ ρ', r = .nx ρ' ∧ J (k + 1) ρ' w') → Ok (goF f ds ρ w) fun r w' => ∃ ρ', r = .nx ρ' ∧ J (n + ds.length) ρ' w'
  | [], n, ρ, w, h, _ => ⟨ρ, rfl, h⟩
  | d :: ds, n, ρ, w, h, hf => by
    show Ok ((f d ρ w).bind _) _
    rw [ok_bind]
    refine (hf n d (Nat.le_refl _) (by simp) ρ w h).mono fun r w1 ⟨ρ1, e, h1⟩ => ?_
    subst e
    show Ok (goF f ds ρ1 w1) _
    have := goF_ok (J := J) ds (n + 1) ρ1 w1 h1 fun k d' hk hd => hf k d' (by omega) (by
      rw [show k - n = (k - (n + 1)) + 1 by omega]; simpa using hd)
    rw [show n + (d :: ds).length = n + 1 + ds.length by simp only [List.length_cons]; omega]
    exact this
theorem s_whl : evS T C (.whl x b) ρ w = goW (fun ρ w => (ev T C x ρ w).bind boolR) (fun ρ w => evSs T C b ρ w) whileMost ρ w := rfl
end
theorem add_int {a b : Int} : binD .add (.int a) (.int b) = some (.int (a + b)) := rfl
theorem sub_int {a b : Int} : binD .sub (.int a) (.int b) = some (.int (a - b)) := rfl
theorem mod_int {a b : Int} (h : 0 < b) : binD .mod (.int a) (.int b) = some (.int (a % b)) := if_pos h
theorem fdiv_int {a b : Int} (h : 0 < b) (k : b < 1073741824) : binD .fdiv (.int a) (.int b) = some (.int (a / b)) := if_pos ⟨h, k⟩
theorem mul_l {a b : Int} (h : smallI a = true) : binD .mul (.int a) (.int b) = some (.int (a * b)) := if_pos (by rw [h]; rfl)
theorem mul_r {a b : Int} (h : smallI b = true) : binD .mul (.int a) (.int b) = some (.int (a * b)) := if_pos (by rw [h, Bool.or_true])
theorem small_of {a : Int} (h1 : -18446744073709551616 < a) (h2 : a < 18446744073709551616) : smallI a = true := decide_eq_true ⟨h1, h2⟩
theorem pow_int {a b : Int} (h : 0 ≤ b ∧ b ≤ 8 ∧ a.natAbs < 2 ^ 4096) : binD .pow (.int a) (.int b) = some (.int (a ^ b.toNat)) := if_pos h
theorem int_int {w : Wd} {a : Int} : bfD w .int [.int a] = some (.int a) := rfl
theorem int_bl {w : Wd} {a : Bool} : bfD w .int [.bl a] = some (.int (if a then 1 else 0)) := rfl
theorem abs_int {w : Wd} {a : Int} : bfD w .abs [.int a] = some (.int (if a < 0 then -a else a)) := rfl
section
variable {w : Wd} {i : Nat} {a b c : D}
theorem der_o {x : D} (h : w[i]? = some x) : w.getD i .non = x := by
  rw [List.getD_eq_getElem?_getD, h]; rfl
theorem idx_o0 (h : w[i]? = some (.lst [a, b, c])) : idxD w (.obj i) (.int 0) = some a := by
  unfold idxD deref
  simp only [der_o h]; rfl
theorem idx_o1 (h : w[i]? = some (.lst [a, b, c])) : idxD w (.obj i) (.int 1) = some b := by
  unfold idxD deref
  simp only [der_o h]; rfl
theorem idx_o2 (h : w[i]? = some (.lst [a, b, c])) : idxD w (.obj i) (.int 2) = some c := by
  unfold idxD deref
  simp only [der_o h]; rfl
theorem set_o {x y : D} (h : w[i]? = some x) : (w.set i y)[i]? = some y := by
  have : i < w.length := by
    obtain ⟨h, _⟩ := List.getElem?_eq_some_iff.mp h
    exact h
  simp [List.getElem?_set, this]
end
def finK (f : Fl) (w : Wd) : R D := match f with
  | .rt x => .ok x w
  | .nx _ => .ok .non w
  | _ => .bad
theorem finK_rt {d : D} {w : Wd} : finK (.rt d) w = .ok d w := rfl
theorem finK_nx {ρ : En} {w : Wd} : finK (.nx ρ) w = .ok .non w := rfl
theorem fin_eq {r : R Fl} : fin r = r.bind finK := rfl
theorem goL_acc {f : D → Wd → R (Option D)} {J : Nat → List D → Wd → Prop} : ∀ (ds : List D) (n : Nat) (acc : List D) (w : Wd), J n acc w →
    (∀ k d acc w, n ≤ k → ds[k - n]? = some d → J k acc w → Ok (f d w) fun o w' => J (k + 1) (acc ++ o.toList) w') → Ok (goL f ds w) fun xs w' => J (n + ds.length) (acc ++ xs) w'
  | [], n, acc, w, h, _ => by
    show J (n + 0) (acc ++ []) w
    rw [List.append_nil]; exact h
  | d :: ds, n, acc, w, h, hf => by
    show Ok ((f d w).bind _) _
    rw [ok_bind]
    refine (hf n d acc w (Nat.le_refl _) (by simp) h).mono fun o w1 h1 => ?_
    show Ok ((goL f ds w1).bind _) _
    rw [ok_bind]
    refine (goL_acc (J := J) ds (n + 1) (acc ++ o.toList) w1 h1 fun k d' acc w hk hd => hf k d' acc w (by omega) (by
      rw [show k - n = (k - (n + 1)) + 1 by omega]; simpa using hd)).mono fun xs w2 h2 => ?_
    show J (n + (d :: ds).length) (acc ++ _) w2
    rw [show n + (d :: ds).length = n + 1 + ds.length by simp only [List.length_cons]; omega]
    rw [List.append_assoc] at h2
    cases o <;> exact h2
theorem goF_nil {f : D → En → Wd → R Fl} {ρ : En} {w : Wd} : goF f [] ρ w = .ok (.nx ρ) w := rfl
def goFK (f : D → En → Wd → R Fl) (ds : List D) (r : Fl) (w : Wd) : R Fl := match r with
    | .nx ρ => goF f ds ρ w
    | .ct ρ => goF f ds ρ w
    | .bk ρ => .ok (.nx ρ) w
    | .rt d => .ok (.rt d) w
theorem goFK_nx {f : D → En → Wd → R Fl} {ds : List D} {ρ : En} {w : Wd} : goFK f ds (.nx ρ) w = goF f ds ρ w := rfl
theorem goFK_rt {f : D → En → Wd → R Fl} {ds : List D} {d : D} {w : Wd} : goFK f ds (.rt d) w = .ok (.rt d) w := rfl
theorem goF_cons {f : D → En → Wd → R Fl} {d : D} {ds : List D} {ρ : En} {w : Wd} : goF f (d :: ds) ρ w = (f d ρ w).bind (goFK f ds) := rfl
def goWK (c : En → Wd → R Bool) (f : En → Wd → R Fl) (n : Nat) (r : Fl) (w : Wd) : R Fl := match r with
    | .nx ρ => goW c f n ρ w
    | .ct ρ => goW c f n ρ w
    | .bk ρ => .ok (.nx ρ) w
    | .rt d => .ok (.rt d) w
theorem goWK_nx {c : En → Wd → R Bool} {f : En → Wd → R Fl} {n : Nat} {ρ : En} {w : Wd} : goWK c f n (.nx ρ) w = goW c f n ρ w := rfl
theorem goW_s {c : En → Wd → R Bool} {f : En → Wd → R Fl} {n : Nat} {ρ : En} {w : Wd} : goW c f (n + 1) ρ w = (c ρ w).bind fun b w => if b then (f ρ w).bind (goWK c f n) else .ok (.nx ρ) w := rfl
theorem s_whl5 {T : Tb} {C : CallF} {x : CE} {b : List CS} {ρ : En} {w : Wd} : evS T C (.whl x b) ρ w = goW (fun ρ w => (ev T C x ρ w).bind boolR) (fun ρ w => evSs T C b ρ w) (99995 + 1 + 1 + 1 + 1 + 1) ρ w := rfl
theorem iter_lst {xs : List D} : iterD (.lst xs) = some xs := rfl
theorem iter_tup {xs : List D} : iterD (.tup xs) = some xs := rfl
theorem rng_int {w : Wd} {j : Int} (h : 0 ≤ j) (k : j < 16777216) : bfD w .rng [.int 0, .int j] = some (.lst (rngL 0 j)) := by
  refine if_pos ⟨by decide, by decide, ?_, ?_, ?_⟩
  · omega
  · omega
  · unfold bigN; omega
theorem rng_len {j : Int} : (rngL 0 j).length = j.toNat := by simp [rngL]
theorem rng_get {j : Int} {k : Nat} {d : D} (h : (rngL 0 j)[k]? = some d) : d = .int k ∧ (k : Int) < j := by
  unfold rngL at h
  rw [List.getElem?_map] at h
  obtain ⟨a, ha, rfl⟩ := Option.map_eq_some_iff.mp h
  obtain ⟨h1, h2⟩ := List.getElem?_eq_some_iff.mp ha
  simp at h2 h1
  subst h2
  refine ⟨by simp, by omega⟩
theorem ap_ok {i j : Nat} {xs ys : List D} {k : Int} {y : D} {ρ : En} {w : Wd} (hn : i ≠ j) (h1 : 0 ≤ k) (h2 : ys[k.toNat]? = some y) (h3 : xs.length < bigN) (h4 : ys.length ≤ bigN) :
    apR i j (some xs) (some ys) (.int k) ρ w = .ok (.nx ((ρ.set j (some (.lst (ys.eraseIdx k.toNat)))).set i (some (.lst (xs ++ [y]))))) w := by
  have hk : k.toNat < ys.length := (List.getElem?_eq_some_iff.mp h2).1
  have e : ixD ys.length k = some k.toNat := by
    unfold ixD
    rw [if_pos h1, if_pos (by omega)]
  show (match ixD ys.length k with
      | some m => (match ys[m]? with
        | some y => if i ≠ j ∧ xs.length < bigN ∧ ys.length ≤ bigN then (R.ok (Fl.nx ((ρ.set j (some (.lst (ys.eraseIdx m)))).set i (some (.lst (xs ++ [y]))))) w : R Fl) else .bad
        | none => .bad)
      | none => .bad) = _
  rw [e]
  show (match ys[k.toNat]? with
        | some y => if i ≠ j ∧ xs.length < bigN ∧ ys.length ≤ bigN then (R.ok (Fl.nx ((ρ.set j (some (.lst (ys.eraseIdx k.toNat)))).set i (some (.lst (xs ++ [y]))))) w : R Fl) else .bad
        | none => .bad) = _
  rw [h2]
  exact if_pos ⟨hn, h3, h4⟩
theorem idx_lst {w : Wd} {xs : List D} {k : Int} {y : D} (h1 : 0 ≤ k) (h2 : xs[k.toNat]? = some y) : idxD w (.lst xs) (.int k) = some y := by
  have hk : k.toNat < xs.length := (List.getElem?_eq_some_iff.mp h2).1
  show (ixD xs.length k).bind _ = _
  unfold ixD
  rw [if_pos h1, if_pos (by omega)]
  exact h2
theorem idx_tup {w : Wd} {xs : List D} {k : Int} {y : D} (h1 : 0 ≤ k) (h2 : xs[k.toNat]? = some y) : idxD w (.tup xs) (.int k) = some y := by
  have hk : k.toNat < xs.length := (List.getElem?_eq_some_iff.mp h2).1
  show (ixD xs.length k).bind _ = _
  unfold ixD
  rw [if_pos h1, if_pos (by omega)]
  exact h2
theorem insr_ok {i : Nat} {xs : List D} {j : Int} {d : D} {ρ : En} {w : Wd} (h : 0 ≤ j ∧ j ≤ xs.length ∧ xs.length < bigN) : insrR i (some xs) (.int j) d ρ w = .ok (.nx (ρ.set i (some (.lst (xs.take j.toNat ++ d :: xs.drop j.toNat))))) w := if_pos h
theorem list_lst {w : Wd} {xs : List D} : bfD w .list [.lst xs] = some (.lst xs) := rfl
theorem list_tup {w : Wd} {xs : List D} : bfD w .list [.tup xs] = some (.lst xs) := rfl
theorem tuple_lst {w : Wd} {xs : List D} : bfD w .tuple [.lst xs] = some (.tup xs) := rfl
theorem tuple_tup {w : Wd} {xs : List D} : bfD w .tuple [.tup xs] = some (.tup xs) := rfl
theorem add_lst {a b : List D} (h : a.length + b.length ≤ 16777216) : binD .add (.lst a) (.lst b) = some (.lst (a ++ b)) := if_pos h
theorem add_tup {a b : List D} (h : a.length + b.length ≤ 16777216) : binD .add (.tup a) (.tup b) = some (.tup (a ++ b)) := if_pos h
theorem add_str {a b : List Nat} (h : a.length + b.length ≤ 16777216) : binD .add (.str a) (.str b) = some (.str (a ++ b)) := if_pos h
theorem join_any {w : Wd} {s : List Nat} {xs : List D} (zs : List (List Nat)) (e : xs = zs.map .str) (h : fpl s zs ≤ 16777216) : bmD w .join (.str s) [.lst xs] = some (.str (joinL s zs)) := by
  subst e
  show (strsO _).bind _ = _
  rw [strs_map]
  exact if_pos h
theorem str_int {w : Wd} {i : Int} (h : i.natAbs < 100000) : bfD w .str [.int i] = some (.str (strI i)) := by
  have k : i.natAbs < 2 ^ 1900 := Nat.lt_of_lt_of_le h (Nat.le_trans (show 100000 ≤ 2 ^ 17 by decide) (Nat.pow_le_pow_right (by decide) (by decide)))
  unfold bfD
  exact if_pos k
theorem split_str {w : Wd} {s : List Nat} {c : Nat} (h : s.length ≤ 1000000) (hc : c < 256) : bmD w .split (.str s) [.str [c]] = some (.lst ((splitL c s).map .str)) := if_pos ⟨by unfold bigN; omega, hc⟩
theorem asc_len {f : Int} : ∀ {ps : List Int} {lo : Int}, ps.Pairwise (· < ·) → (∀ p ∈ ps, lo ≤ p ∧ p < f) → ps.length ≤ (f - lo).toNat
  | [], _, _, _ => Nat.zero_le _
  | p :: ps, lo, h, b => by
    have h1 := List.pairwise_cons.mp h
    have b1 := b p List.mem_cons_self
    have := asc_len (f := f) (lo := p + 1) h1.2 fun q hq => ⟨by have := h1.1 q hq; omega, (b q (List.mem_cons_of_mem _ hq)).2⟩
    simp only [List.length_cons]; omega
theorem any_str {s : List Nat} : ∀ zs : List (List Nat), anyO (fun z => eqD z (.str s)) (zs.map .str) = some (zs.any (· == s))
  | [] => rfl
  | z :: zs => by
    show (match eqD (.str z) (.str s), anyO (fun z => eqD z (.str s)) (zs.map .str) with
      | some a, some b => some (a || b)
      | _, _ => none) = _
    rw [any_str zs, eq_str]; rfl
theorem in_tup {w : Wd} {s : List Nat} {zs : List (List Nat)} : inD w (.str s) (.tup (zs.map .str)) = some (zs.any (· == s)) := by
  have e : inD w (.str s) (.tup (zs.map .str)) = inSeq w (.str s) (.tup (zs.map .str)) := by
    unfold inD; split
    · rename_i h1 h2; cases h2
    · rfl
  rw [e]
  exact any_str zs
theorem in_lst {w : Wd} {s : List Nat} {zs : List (List Nat)} : inD w (.str s) (.lst (zs.map .str)) = some (zs.any (· == s)) := by
  have e : inD w (.str s) (.lst (zs.map .str)) = inSeq w (.str s) (.lst (zs.map .str)) := by
    unfold inD; split
    · rename_i h1 h2; cases h2
    · rfl
  rw [e]
  exact any_str zs
theorem any_mem {s : List Nat} {zs : List (List Nat)} (h : s ∈ zs) : zs.any (· == s) = true := List.any_eq_true.mpr ⟨s, h, beq_self_eq_true s⟩
theorem any_not {s : List Nat} {zs : List (List Nat)} (h : s ∉ zs) : zs.any (· == s) = false := by
  rw [List.any_eq_false]
  intro x hx e
  exact h (eq_of_beq e ▸ hx)
theorem cnt_nodup : ∀ {zs seen : List (List Nat)}, zs.Nodup → (∀ x ∈ zs, x ∉ seen) → cntS seen zs = zs.length
  | [], _, _, _ => rfl
  | z :: zs, seen, h, k => by
    have h1 := List.nodup_cons.mp h
    rw [cntS, if_neg (k z List.mem_cons_self), cnt_nodup h1.2 fun x hx hm => ?_]
    · rfl
    · rcases List.mem_cons.mp hm with rfl | hm
      · exact h1.1 hx
      · exact k x (List.mem_cons_of_mem _ hx) hm
theorem lenset_strs {w : Wd} {zs : List (List Nat)} (h : zs.length < 4000) (n : zs.Nodup) : bfD w .lenset [.lst (zs.map .str)] = some (.int zs.length) := by
  show (if (zs.map D.str).length < 4000 then (strsO (zs.map .str)).map fun zs => D.int (cntS [] zs) else none) = _
  rw [if_pos (by rw [List.length_map]; exact h), strs_map]
  show some (D.int (cntS [] zs)) = _
  rw [cnt_nodup n (by simp)]
theorem idxOf_at : ∀ {zs : List (List Nat)} {i k : Nat} {s : List Nat}, zs.Nodup → zs[i]? = some s → bmD.idxOfS s k zs = some (.int ((k + i : Nat) : Int))
  | [], i, k, s, _, h => by simp at h
  | z :: zs, i, k, s, n, h => by
    have n1 := List.nodup_cons.mp n
    show (if z = s then some (D.int k) else bmD.idxOfS s (k + 1) zs) = _
    cases i with
    | zero =>
      rw [if_pos (by simpa using h)]; rfl
    | succ i =>
      have h' : zs[i]? = some s := by simpa using h
      rw [if_neg (show ¬ z = s from fun e => n1.1 (by rw [e]; exact List.mem_of_getElem? h')), idxOf_at n1.2 h']
      rw [show k + 1 + i = k + (i + 1) by omega]
theorem index_lst {w : Wd} {zs : List (List Nat)} {i : Nat} {s : List Nat} (n : zs.Nodup) (h : zs[i]? = some s) : bmD w .index (.lst (zs.map .str)) [.str s] = some (.int i) := by
  show (strsO (zs.map .str)).bind (bmD.idxOfS s 0) = _
  rw [strs_map]
  show bmD.idxOfS s 0 zs = _
  rw [idxOf_at n h, Nat.zero_add]
theorem eq_nilL {zs : List (List Nat)} : eqD (.lst (zs.map .str)) (.lst []) = some (zs.isEmpty) := by
  cases zs with
  | nil => rfl
  | cons z zs =>
    show (if ((D.str z) :: zs.map .str).all (plN 11) then some false else none) = some false
    rw [if_pos]
    simp only [List.all_cons, List.all_map, Bool.and_eq_true, List.all_eq_true]
    exact ⟨rfl, fun x _ => rfl⟩
theorem eq_nilT {zs : List (List Nat)} : eqD (.tup (zs.map .str)) (.tup []) = some (zs.isEmpty) := by
  cases zs with
  | nil => rfl
  | cons z zs =>
    show (if ((D.str z) :: zs.map .str).all (plN 11) then some false else none) = some false
    rw [if_pos]
    simp only [List.all_cons, List.all_map, Bool.and_eq_true, List.all_eq_true]
    exact ⟨rfl, fun x _ => rfl⟩
theorem enum_len : ∀ (k : Nat) (xs : List D), (enumL k xs).length = xs.length
  | _, [] => rfl
  | k, x :: xs => congrArg (· + 1) (enum_len (k + 1) xs)
theorem enum_get : ∀ {k j : Nat} {xs : List D} {d : D}, (enumL k xs)[j]? = some d → ∃ x, xs[j]? = some x ∧ d = .tup [.int ((k + j : Nat) : Int), x]
  | k, j, [], d, h => by simp [enumL] at h
  | k, 0, x :: xs, d, h => ⟨x, rfl, by simpa [enumL, eq_comm] using h⟩
  | k, j + 1, x :: xs, d, h => by
    obtain ⟨y, h1, h2⟩ := enum_get (k := k + 1) (j := j) (xs := xs) (d := d) (by simpa [enumL] using h)
    refine ⟨y, by simpa using h1, ?_⟩
    rw [h2, show k + 1 + j = k + (j + 1) by omega]
theorem enum_lst {w : Wd} {xs : List D} : bfD w .enum [.lst xs] = some (.lst (enumL 0 xs)) := rfl
theorem enum_tup {w : Wd} {xs : List D} : bfD w .enum [.tup xs] = some (.lst (enumL 0 xs)) := rfl
end MP.C

set_option Elab.async false
set_option linter.all false
set_option maxRecDepth 100000
set_option maxHeartbeats 0
namespace MP.K01
open PySem PySem.Spec PyProof.Rows L2 MP
def topS (i : Nat) : Stmt := PySem.Challenge.pw_latejoins_k01_rules_as_they_are_told.main.body.getD i (.Pass ⟨0, 0, 0, 0⟩)
def c_are_letters : CD where
  np := 1
  ns := 2
  body := [.ret (.and (.isi (.v 0) .str) (.and (.cmp .ne (.v 0) (.str [])) (.bf .all [.lc (.n 1) (.v 0) [] (.cmp .in_ (.v 1) (.g 0))])))]
def c_is_name : CD where
  np := 1
  ns := 1
  body := [.ret (.and (.call 0 [.v 0]) (.cmp .le (.bf .len [.v 0]) (.g 1)))]
def c_do_ascend : CD where
  np := 1
  ns := 3
  body := [.ret (.bf .all [.lc (.t [.n 1, .n 2]) (.bf .zip [.v 0, .sli (.v 0) (.int 1) .non]) [] (.cmp .lt (.v 1) (.v 2))])]
def c_are_some : CD where
  np := 2
  ns := 3
  body := [.ite (.or (.not (.isi (.v 0) .tuple)) (.not (.bf .all [.lc (.n 2) (.v 0) [] (.and (.isi (.v 2) .str) (.cmp .in_ (.v 2) (.v 1)))]))) [.ret (.bl false)] [], .ret (.call 2 [.lc (.n 2) (.v 0) [] (.bm .index (.v 1) [.v 2])])]
def c_Clause_init : CD where
  np := 4
  ns := 5
  body := [.setf 0 0 (.v 1), .setf 0 1 (.v 2), .setf 0 2 (.v 3), .setf 0 3 (.v 4)]
  ini := some 0
def c_Clause_suits : CD where
  np := 3
  ns := 3
  body := [.never]
def c_Clause_asks_within : CD where
  np := 2
  ns := 2
  body := [.never]
def c_Clause_holds : CD where
  np := 3
  ns := 3
  body := [.never]
def c_names_in : CD where
  np := 1
  ns := 3
  body := [.set (.n 1) (.sli (.v 0) (.int 1) .non), .ite (.or (.not (.cmp2 .le .le (.int 1) (.bf .len [.v 1]) (.g 10))) (.not (.bf .all [.lc (.n 2) (.v 1) [] (.and (.call 1 [.v 2]) (.cmp .notin (.v 2) (.g 9)))]))) [.ret .non] [], .ret (.ite (.cmp .eq (.bf .lenset [.v 1]) (.bf .len [.v 1])) (.v 1) .non)]
def c_clause_in : CD where
  np := 3
  ns := 10
  body := [.ite (.cmp .ne (.idx (.v 0) (.int 0)) (.g 6)) [.ret .non] [], .par [.n 3, .n 4, .n 5, .n 6] [false, false, false, false] [.sli (.v 0) (.int 1) .non, .tup [], .non, .non], .ite (.and (.cmp .ne (.v 3) (.lst [])) (.cmp .eq (.idx (.v 3) (.int 0)) (.g 7))) [.set (.n 7) (.int 1), .whl (.and (.cmp .lt (.v 7) (.bf .len [.v 3])) (.cmp .notin (.idx (.v 3) (.v 7)) (.g 9))) [.aug 7 .add (.int 1)], .par [.n 4, .n 3] [false, false] [.bf .tuple [.sli (.v 3) (.int 1) (.v 7)], .sli (.v 3) (.v 7) .non], .ite (.or (.cmp .eq (.v 4) (.tup [])) (.not (.call 3 [.v 4, .v 1]))) [.ret .non] []] [], .ite (.and (.cmp .ne (.v 3) (.lst [])) (.cmp .eq (.idx (.v 3) (.int 0)) (.g 5))) [.par [.n 5, .n 3] [false, false] [.bf .tuple [.sli (.v 3) (.int 1) (.g 13)], .sli (.v 3) (.g 13) .non], .ite (.or (.cmp .ne (.bf .len [.v 5]) (.bin .sub (.g 13) (.int 1))) (.not (.bf .all [.lc (.n 9) (.v 5) [] (.cmp .in_ (.v 9) (.v 2))]))) [.ret .non] [], .ite (.cmp .gt (.bm .index (.v 2) [.idx (.v 5) (.int 0)]) (.bm .index (.v 2) [.idx (.v 5) (.int 1)])) [.ret .non] []] [], .ite (.and (.cmp .eq (.bf .len [.v 3]) (.g 14)) (.and (.cmp .eq (.idx (.v 3) (.int 0)) (.g 8)) (.tin false 0 (.idx (.v 3) (.int 1))))) [.par [.n 6, .n 3] [false, false] [.tix 0 (.idx (.v 3) (.int 1)), .lst []]] [], .ret (.ite (.cmp .eq (.v 3) (.lst [])) (.mk 0 [.v 4, .bf .tuple [.lc (.n 8) (.v 4) [] (.bm .index (.v 1) [.v 8])], .v 5, .v 6]) .non)]
def c_line_of : CD where
  np := 4
  ns := 4
  body := [.ite (.cmp .eq (.v 1) (.int 0)) [.ret (.ite (.cmp .eq (.idx (.v 0) (.int 0)) (.g 4)) (.call 8 [.v 0]) .non)] [], .ite (.cmp .eq (.v 1) (.int 1)) [.ret (.ite (.cmp .eq (.idx (.v 0) (.int 0)) (.g 5)) (.call 8 [.v 0]) .non)] [], .ret (.ite (.cmp .lt (.v 1) (.bin .add (.g 11) (.int 2))) (.call 9 [.v 0, .v 2, .v 3]) .non)]
def c_Rule_init : CD where
  np := 1
  ns := 8
  body := [.ite (.not (.isi (.v 1) .str)) [.never] [], .par [.n 2, .n 3] [false, true] [.lc (.n 7) (.bm .split (.v 1) [.g 2]) [] (.bm .split (.v 7) [.g 3]), .lst []], .for_ (.t [.n 4, .n 5]) (.bf .enum [.v 2]) [.set (.n 6) (.call 10 [.v 5, .v 4, .ite (.cmp .gt (.v 4) (.int 1)) (.idx (.b 3) (.int 0)) (.lst []), .ite (.cmp .gt (.v 4) (.int 1)) (.idx (.b 3) (.int 1)) (.lst [])]), .ite (.cmp .is (.v 6) .non) [.never] [], .app 3 (.v 6)], .ite (.cmp .lt (.bf .len [.b 3]) (.g 12)) [.never] [], .setf 0 4 (.v 1), .setf 0 5 (.bf .tuple [.idx (.b 3) (.int 0)]), .setf 0 6 (.bf .tuple [.idx (.b 3) (.int 1)]), .setf 0 7 (.bf .tuple [.sli (.b 3) (.int 2) .non])]
  ini := some 1
def c_Rule_text : CD where
  np := 1
  ns := 1
  body := [.ret (.fld (.v 0) 4)]
def c_Rule_fields : CD where
  np := 1
  ns := 1
  body := [.ret (.fld (.v 0) 5)]
def c_Rule_kinds : CD where
  np := 1
  ns := 1
  body := [.ret (.fld (.v 0) 6)]
def c_Rule_clauses : CD where
  np := 1
  ns := 2
  body := [.ret (.bf .tuple [.lc (.n 1) (.fld (.v 0) 7) [] (.tup [.fld (.v 1) 0, .fld (.v 1) 2, .fld (.v 1) 3])])]
def c_Rule_len : CD where
  np := 1
  ns := 1
  body := [.ret (.bf .len [.fld (.v 0) 7])]
def c_Rule_eq : CD where
  np := 2
  ns := 2
  body := [.ret (.and (.isi (.v 1) (.cls 1)) (.cmp .eq (.fld (.v 0) 4) (.fld (.v 1) 4)))]
def c_law_pot : CD where
  np := 2
  ns := 5
  body := [.set (.n 2) (.ite (.cmp .lt (.v 1) (.slen (.v 0))) (.sidx (.v 0) (.v 1)) (.bin .add (.bin .mul (.int 41) (.v 1)) (.int 23))), .set (.n 3) (.bin .mul (.bin .mod (.bf .int [.bf .abs [.v 2]]) (.bin .pow (.bin .pow (.int 10) (.int 60)) (.int 5))) (.bf .int [.cmp .ge (.bf .abs [.v 2]) (.bin .pow (.int 10) (.int 18))])), .set (.n 4) (.bin .mod (.bf .int [.v 2]) (.int 2305843009213693951)), .retw (.lst [.v 3, .bin .mod (.bf .int [.bin .add (.bin .add (.bin .mul (.v 4) (.int 60719)) (.bin .mul (.bin .mul (.int 8087) (.v 1)) (.v 1))) (.int 97)]) (.int 2305843009213693921), .int 0])]
def c_law_take : CD where
  np := 2
  ns := 5
  body := [.ite (.cmp .gt (.idx (.v 0) (.int 0)) (.int 0)) [.set (.n 4) (.bin .mod (.bf .int [.idx (.v 0) (.int 0)]) (.v 1)), .setw 0 (.int 0) (.bin .fdiv (.idx (.v 0) (.int 0)) (.v 1)), .ret (.v 4)] [], .setw 0 (.int 2) (.bin .add (.idx (.v 0) (.int 2)) (.int 1)), .set (.n 2) (.idx (.lst [.int 2147483647, .int 2147483629, .int 2147483587, .int 2147483579, .int 2147483563]) (.bin .mod (.bf .int [.idx (.v 0) (.int 2)]) (.int 5))), .set (.n 3) (.bin .mod (.bf .int [.bin .pow (.bf .int [.bin .add (.bin .add (.idx (.v 0) (.int 1)) (.bin .mul (.bin .mul (.int 100003) (.idx (.v 0) (.int 2))) (.idx (.v 0) (.int 2)))) (.int 37)]) (.int 3)]) (.v 2)), .set (.n 3) (.bin .mod (.bf .int [.bin .mul (.v 3) (.bin .add (.bin .mod (.bf .int [.v 3]) (.int 10037)) (.bin .mul (.int 89) (.idx (.v 0) (.int 2))))]) (.int 2305843009213693907)), .ret (.bin .mod (.bf .int [.bin .fdiv (.v 3) (.int 127)]) (.v 1))]
def c_law_of : CD where
  np := 2
  ns := 2
  body := [.ret (.idx (.v 1) (.call 19 [.v 0, .bf .len [.v 1]]))]
def c_law_some : CD where
  np := 3
  ns := 6
  body := [.par [.n 4, .n 5] [true, true] [.bf .list [.v 1], .lst []], .for_ (.n 3) (.bf .rng [.int 0, .v 2]) [.appop 5 4 (.call 19 [.v 0, .bf .len [.b 4]])], .mv 5, .ret (.v 5)]
def c_law_cells : CD where
  np := 2
  ns := 2
  body := [.ret (.bf .list [.bf .rng [.int 0, .bf .max2 [.int 1, .bf .min2 [.v 1, .slen (.v 0)]]]])]
def c_law_ordered : CD where
  np := 1
  ns := 4
  body := [.seto 1 (.lst []), .for_ (.n 2) (.v 0) [.set (.n 3) (.int 0), .whl (.and (.cmp .lt (.v 3) (.bf .len [.b 1])) (.cmp .lt (.idx (.b 1) (.v 3)) (.v 2))) [.set (.n 3) (.bin .add (.v 3) (.int 1))], .ite (.or (.cmp .eq (.v 3) (.bf .len [.b 1])) (.cmp .ne (.idx (.b 1) (.v 3)) (.v 2))) [.insr 1 (.v 3) (.v 2)] []], .mv 1, .ret (.v 1)]
def c_law_words : CD where
  np := 0
  ns := 1
  body := [.ret (.lst [.str [104, 111, 115, 116], .str [115, 117, 98, 106, 101, 99, 116], .str [108, 105, 110, 107], .str [102, 105, 101, 108, 100, 115], .str [97], .str [98, 98], .str [116, 104, 114, 101, 97, 100], .str [116, 97, 107, 101], .str [122, 122, 122, 122, 122, 122, 122, 122], .str [112, 117, 116], .str [109, 97, 105, 108], .str [115, 116, 97, 114]])]
def c_law_clause : CD where
  np := 3
  ns := 6
  body := [.set (.n 3) (.lc (.n 5) (.bf .rng [.int 0, .v 1]) [.cmp .eq (.call 19 [.v 0, .int 2]) (.int 0)] (.v 5)), .set (.n 4) (.bf .tuple [.call 23 [.bin .add (.lst [.call 19 [.v 0, .v 2]]) (.lst [.call 19 [.v 0, .v 2]])]]), .set (.n 4) (.ite (.cmp .eq (.call 19 [.v 0, .int 2]) (.int 0)) (.sli (.bin .add (.v 4) (.v 4)) .non (.int 2)) .non), .ret (.tup [.bf .tuple [.v 3], .v 4, .call 20 [.v 0, .lst [.non, .non, .int 0, .int 1, .int 2, .int 3, .int 4]]])]
def c_law_lore : CD where
  np := 4
  ns := 8
  body := [.par [.n 5, .n 6] [false, false] [.bin .add (.int 1) (.call 19 [.v 0, .v 1]), .bin .add (.int 1) (.call 19 [.v 0, .v 2])], .seto 4 (.dct [.str [102, 105, 101, 108, 100, 115], .str [107, 105, 110, 100, 115]] [.call 21 [.v 0, .call 24 [], .v 5], .call 21 [.v 0, .call 24 [], .v 6]]), .seti 4 (.str [99, 108, 97, 117, 115, 101, 115]) (.lc (.n 7) (.bf .rng [.int 0, .bin .add (.int 1) (.call 19 [.v 0, .v 3])]) [] (.call 25 [.v 0, .v 5, .v 6])), .mv 4, .ret (.v 4)]
def c_law_line : CD where
  np := 2
  ns := 8
  body := [.par [.n 2, .t [.n 3, .n 4, .n 5]] [true, false] [.lst [.str [108, 105, 110, 107]], .v 1], .ite (.cmp .gt (.bf .len [.v 3]) (.int 0)) [.ext 2 (.bin .add (.lst [.str [115, 97, 109, 101]]) (.lc (.n 6) (.v 3) [] (.idx (.idx (.v 0) (.str [102, 105, 101, 108, 100, 115])) (.v 6))))] [], .ite (.cmp .isnot (.v 4) .non) [.ext 2 (.bin .add (.lst [.str [107, 105, 110, 100, 115]]) (.lc (.n 7) (.v 4) [] (.idx (.idx (.v 0) (.str [107, 105, 110, 100, 115])) (.v 7))))] [], .ite (.cmp .isnot (.v 5) .non) [.ext 2 (.lst [.str [119, 105, 116, 104, 105, 110], .bf .str [.v 5]])] [], .ret (.bm .join (.str [32]) [.b 2])]
def c_law_text : CD where
  np := 1
  ns := 3
  body := [.set (.n 1) (.lst [.bin .add (.str [102, 105, 101, 108, 100, 115, 32]) (.bm .join (.str [32]) [.idx (.v 0) (.str [102, 105, 101, 108, 100, 115])]), .bin .add (.str [107, 105, 110, 100, 115, 32]) (.bm .join (.str [32]) [.idx (.v 0) (.str [107, 105, 110, 100, 115])])]), .ret (.bm .join (.str [10]) [.bin .add (.v 1) (.lc (.n 2) (.idx (.v 0) (.str [99, 108, 97, 117, 115, 101, 115])) [] (.call 27 [.v 0, .v 2]))])]
def c_law_odd : CD where
  np := 1
  ns := 2
  body := [.set (.n 1) (.lst [.non, .bl true, .bl false, .int 0, .int 1, .neg (.int 1), .bin .pow (.int 10) (.int 8), .str [], .str [97], .str [115, 116, 97, 114], .str [97, 112, 97, 114, 116], .tup [], .lst [], .dct [] [], .tup [.int 0], .tup [.tup []], .lst [.int 0], .tup [.str [110, 101, 118, 101, 114]]]), .ret (.call 20 [.v 0, .v 1])]
def c_law_told_clause : CD where
  np := 2
  ns := 7
  body := [.set (.t [.n 3, .n 4, .n 5]) (.v 1), .set (.n 2) (.ite (.cmp .is (.v 4) .non) .non (.tup [.idx (.idx (.v 0) (.str [107, 105, 110, 100, 115])) (.idx (.v 4) (.int 0)), .idx (.idx (.v 0) (.str [107, 105, 110, 100, 115])) (.idx (.v 4) (.int 1))])), .ret (.tup [.bf .tuple [.lc (.n 6) (.v 3) [] (.idx (.idx (.v 0) (.str [102, 105, 101, 108, 100, 115])) (.v 6))], .v 2, .v 5])]
def c_law_right : CD where
  np := 1
  ns := 8
  body := [.set (.n 1) (.call 26 [.v 0, .int 3, .int 3, .int 4]), .par [.n 5, .n 6] [false, false] [.call 28 [.v 1], .mk 1 [.call 28 [.v 1]]], .set (.n 2) (.bf .tuple [.lc (.n 7) (.idx (.v 1) (.str [99, 108, 97, 117, 115, 101, 115])) [] (.call 30 [.v 1, .v 7])]), .set (.n 3) (.tup [.v 5, .bf .tuple [.idx (.v 1) (.str [102, 105, 101, 108, 100, 115])], .bf .tuple [.idx (.v 1) (.str [107, 105, 110, 100, 115])], .v 2, .bf .len [.v 2]]), .ite (.rpeq true (.tup [.prop (.v 6) 0, .prop (.v 6) 1, .prop (.v 6) 2, .prop (.v 6) 3, .mlen 3 (.v 6)]) (.v 3)) [.ret (.bl false)] [], .set (.n 4) (.call 28 [.call 26 [.v 0, .int 1, .int 1, .int 2]]), .ite (.or (.not (.meq false 4 (.v 6) (.mk 1 [.v 5]))) (.or (.meq true 4 (.v 6) (.mk 1 [.v 5])) (.cmp .ne (.meq false 4 (.v 6) (.mk 1 [.v 4])) (.cmp .eq (.v 5) (.v 4))))) [.ret (.bl false)] [], .ret (.and (.not (.meq false 4 (.v 6) (.v 5))) (.and (.not (.meq false 4 (.v 6) (.v 2))) (.not (.meq false 4 (.v 6) (.call 29 [.v 0])))))]
def c_law : CD where
  np := 1
  ns := 2
  body := [.ret (.bf .all [.lc (.n 1) (.call 22 [.v 0, .int 8]) [] (.call 31 [.call 18 [.v 0, .v 1]])])]
def d_are_letters : MD where
  loc := .glo "are_letters"
  nm := "are_letters"
  qual := "are_letters"
  params := defArgs (topS 7)
  body := defBody (topS 7)
  scope := defScope (topS 7)
  N := ["value", "letter"]
  ps := ["value"]
  core := c_are_letters
def d_is_name : MD where
  loc := .glo "is_name"
  nm := "is_name"
  qual := "is_name"
  params := defArgs (topS 8)
  body := defBody (topS 8)
  scope := defScope (topS 8)
  N := ["value"]
  ps := ["value"]
  core := c_is_name
def d_do_ascend : MD where
  loc := .glo "do_ascend"
  nm := "do_ascend"
  qual := "do_ascend"
  params := defArgs (topS 9)
  body := defBody (topS 9)
  scope := defScope (topS 9)
  N := ["rows", "one", "other"]
  ps := ["rows"]
  core := c_do_ascend
def d_are_some : MD where
  loc := .glo "are_some"
  nm := "are_some"
  qual := "are_some"
  params := defArgs (topS 10)
  body := defBody (topS 10)
  scope := defScope (topS 10)
  N := ["value", "whole", "one"]
  ps := ["value", "whole"]
  core := c_are_some
def d_Clause_init : MD where
  loc := .meth "Clause" "__init__"
  nm := "__init__"
  qual := "Clause.__init__"
  params := defArgs (inCls (topS 26) 0)
  body := defBody (inCls (topS 26) 0)
  scope := defScope (inCls (topS 26) 0)
  N := ["self", "same", "places", "pair", "window"]
  ps := ["self", "same", "places", "pair", "window"]
  core := c_Clause_init
def d_Clause_suits : MD where
  loc := .meth "Clause" "suits"
  nm := "suits"
  qual := "Clause.suits"
  params := defArgs (inCls (topS 26) 1)
  body := defBody (inCls (topS 26) 1)
  scope := defScope (inCls (topS 26) 1)
  N := ["self", "kind", "other"]
  ps := ["self", "kind", "other"]
  core := c_Clause_suits
def d_Clause_asks_within : MD where
  loc := .meth "Clause" "asks_within"
  nm := "asks_within"
  qual := "Clause.asks_within"
  params := defArgs (inCls (topS 26) 2)
  body := defBody (inCls (topS 26) 2)
  scope := defScope (inCls (topS 26) 2)
  N := ["self", "places"]
  ps := ["self", "places"]
  core := c_Clause_asks_within
def d_Clause_holds : MD where
  loc := .meth "Clause" "holds"
  nm := "holds"
  qual := "Clause.holds"
  params := defArgs (inCls (topS 26) 3)
  body := defBody (inCls (topS 26) 3)
  scope := defScope (inCls (topS 26) 3)
  N := ["self", "one", "other"]
  ps := ["self", "one", "other"]
  core := c_Clause_holds
def d_names_in : MD where
  loc := .glo "names_in"
  nm := "names_in"
  qual := "names_in"
  params := defArgs (topS 27)
  body := defBody (topS 27)
  scope := defScope (topS 27)
  N := ["words", "names", "name"]
  ps := ["words"]
  core := c_names_in
def d_clause_in : MD where
  loc := .glo "clause_in"
  nm := "clause_in"
  qual := "clause_in"
  params := defArgs (topS 28)
  body := defBody (topS 28)
  scope := defScope (topS 28)
  N := ["words", "fields", "kinds", "rest", "same", "pair", "window", "many", "name", "kind"]
  ps := ["words", "fields", "kinds"]
  core := c_clause_in
def d_line_of : MD where
  loc := .glo "line_of"
  nm := "line_of"
  qual := "line_of"
  params := defArgs (topS 29)
  body := defBody (topS 29)
  scope := defScope (topS 29)
  N := ["words", "number", "fields", "kinds"]
  ps := ["words", "number", "fields", "kinds"]
  core := c_line_of
def d_Rule_init : MD where
  loc := .meth "Rule" "__init__"
  nm := "__init__"
  qual := "Rule.__init__"
  params := defArgs (inCls (topS 30) 0)
  body := defBody (inCls (topS 30) 0)
  scope := defScope (inCls (topS 30) 0)
  N := ["self", "text", "rows", "told", "number", "words", "found", "row"]
  ps := ["self", "text"]
  core := c_Rule_init
def d_Rule_text : MD where
  loc := .prop "Rule" "text"
  nm := "text"
  qual := "Rule.text"
  params := defArgs (inCls (topS 30) 1)
  body := defBody (inCls (topS 30) 1)
  scope := defScope (inCls (topS 30) 1)
  N := ["self"]
  ps := ["self"]
  core := c_Rule_text
def d_Rule_fields : MD where
  loc := .prop "Rule" "fields"
  nm := "fields"
  qual := "Rule.fields"
  params := defArgs (inCls (topS 30) 2)
  body := defBody (inCls (topS 30) 2)
  scope := defScope (inCls (topS 30) 2)
  N := ["self"]
  ps := ["self"]
  core := c_Rule_fields
def d_Rule_kinds : MD where
  loc := .prop "Rule" "kinds"
  nm := "kinds"
  qual := "Rule.kinds"
  params := defArgs (inCls (topS 30) 3)
  body := defBody (inCls (topS 30) 3)
  scope := defScope (inCls (topS 30) 3)
  N := ["self"]
  ps := ["self"]
  core := c_Rule_kinds
def d_Rule_clauses : MD where
  loc := .prop "Rule" "clauses"
  nm := "clauses"
  qual := "Rule.clauses"
  params := defArgs (inCls (topS 30) 4)
  body := defBody (inCls (topS 30) 4)
  scope := defScope (inCls (topS 30) 4)
  N := ["self", "clause"]
  ps := ["self"]
  core := c_Rule_clauses
def d_Rule_len : MD where
  loc := .meth "Rule" "__len__"
  nm := "__len__"
  qual := "Rule.__len__"
  params := defArgs (inCls (topS 30) 5)
  body := defBody (inCls (topS 30) 5)
  scope := defScope (inCls (topS 30) 5)
  N := ["self"]
  ps := ["self"]
  core := c_Rule_len
def d_Rule_eq : MD where
  loc := .meth "Rule" "__eq__"
  nm := "__eq__"
  qual := "Rule.__eq__"
  params := defArgs (inCls (topS 30) 6)
  body := defBody (inCls (topS 30) 6)
  scope := defScope (inCls (topS 30) 6)
  N := ["self", "other"]
  ps := ["self", "other"]
  core := c_Rule_eq
def d_law_pot : MD where
  loc := .glo "_law_pot"
  nm := "_law_pot"
  qual := "_law_pot"
  params := defArgs (topS 32)
  body := defBody (topS 32)
  scope := defScope (topS 32)
  N := ["_law_script", "_law_place", "_law_cell", "_law_own", "_law_small"]
  ps := ["_law_script", "_law_place"]
  core := c_law_pot
def d_law_take : MD where
  loc := .glo "_law_take"
  nm := "_law_take"
  qual := "_law_take"
  params := defArgs (topS 33)
  body := defBody (topS 33)
  scope := defScope (topS 33)
  N := ["_law_pot_here", "_law_upto", "_law_prime", "_law_mixed", "_law_digit"]
  ps := ["_law_pot_here", "_law_upto"]
  core := c_law_take
def d_law_of : MD where
  loc := .glo "_law_of"
  nm := "_law_of"
  qual := "_law_of"
  params := defArgs (topS 34)
  body := defBody (topS 34)
  scope := defScope (topS 34)
  N := ["_law_pot_here", "_law_some_here"]
  ps := ["_law_pot_here", "_law_some_here"]
  core := c_law_of
def d_law_some : MD where
  loc := .glo "_law_some"
  nm := "_law_some"
  qual := "_law_some"
  params := defArgs (topS 35)
  body := defBody (topS 35)
  scope := defScope (topS 35)
  N := ["_law_pot_here", "_law_pool", "_law_many", "_law_lap", "_law_left", "_law_found"]
  ps := ["_law_pot_here", "_law_pool", "_law_many"]
  core := c_law_some
def d_law_cells : MD where
  loc := .glo "_law_cells"
  nm := "_law_cells"
  qual := "_law_cells"
  params := defArgs (topS 36)
  body := defBody (topS 36)
  scope := defScope (topS 36)
  N := ["_law_script", "_law_most"]
  ps := ["_law_script", "_law_most"]
  core := c_law_cells
def d_law_ordered : MD where
  loc := .glo "_law_ordered"
  nm := "_law_ordered"
  qual := "_law_ordered"
  params := defArgs (topS 37)
  body := defBody (topS 37)
  scope := defScope (topS 37)
  N := ["_law_rows", "_law_found", "_law_row", "_law_at"]
  ps := ["_law_rows"]
  core := c_law_ordered
def d_law_words : MD where
  loc := .glo "_law_words"
  nm := "_law_words"
  qual := "_law_words"
  params := defArgs (topS 38)
  body := defBody (topS 38)
  scope := defScope (topS 38)
  N := ["_nobody"]
  ps := []
  core := c_law_words
def d_law_clause : MD where
  loc := .glo "_law_clause"
  nm := "_law_clause"
  qual := "_law_clause"
  params := defArgs (topS 39)
  body := defBody (topS 39)
  scope := defScope (topS 39)
  N := ["_law_pot_here", "_law_fields", "_law_kinds", "_law_places", "_law_pair", "_law_place"]
  ps := ["_law_pot_here", "_law_fields", "_law_kinds"]
  core := c_law_clause
def d_law_lore : MD where
  loc := .glo "_law_lore"
  nm := "_law_lore"
  qual := "_law_lore"
  params := defArgs (topS 40)
  body := defBody (topS 40)
  scope := defScope (topS 40)
  N := ["_law_pot_here", "_law_fields", "_law_kinds", "_law_clauses", "_law_lore_here", "_law_many", "_law_sorts", "_law_lap"]
  ps := ["_law_pot_here", "_law_fields", "_law_kinds", "_law_clauses"]
  core := c_law_lore
def d_law_line : MD where
  loc := .glo "_law_line"
  nm := "_law_line"
  qual := "_law_line"
  params := defArgs (topS 41)
  body := defBody (topS 41)
  scope := defScope (topS 41)
  N := ["_law_lore_here", "_law_clause_here", "_law_words_here", "_law_places", "_law_pair", "_law_window", "_law_place", "_law_number"]
  ps := ["_law_lore_here", "_law_clause_here"]
  core := c_law_line
def d_law_text : MD where
  loc := .glo "_law_text"
  nm := "_law_text"
  qual := "_law_text"
  params := defArgs (topS 42)
  body := defBody (topS 42)
  scope := defScope (topS 42)
  N := ["_law_lore_here", "_law_lines", "_law_clause_here"]
  ps := ["_law_lore_here"]
  core := c_law_text
def d_law_odd : MD where
  loc := .glo "_law_odd"
  nm := "_law_odd"
  qual := "_law_odd"
  params := defArgs (topS 43)
  body := defBody (topS 43)
  scope := defScope (topS 43)
  N := ["_law_pot_here", "_law_some_here"]
  ps := ["_law_pot_here"]
  core := c_law_odd
def d_law_told_clause : MD where
  loc := .glo "_law_told_clause"
  nm := "_law_told_clause"
  qual := "_law_told_clause"
  params := defArgs (topS 44)
  body := defBody (topS 44)
  scope := defScope (topS 44)
  N := ["_law_lore_here", "_law_clause_here", "_law_kinds", "_law_places", "_law_pair", "_law_window", "_law_place"]
  ps := ["_law_lore_here", "_law_clause_here"]
  core := c_law_told_clause
def d_law_right : MD where
  loc := .glo "_law_right"
  nm := "_law_right"
  qual := "_law_right"
  params := defArgs (topS 45)
  body := defBody (topS 45)
  scope := defScope (topS 45)
  N := ["_law_pot_here", "_law_lore_here", "_law_clauses", "_law_due", "_law_other", "_law_text_here", "_law_rule", "_law_clause_here"]
  ps := ["_law_pot_here"]
  core := c_law_right
def d_law : MD where
  loc := .glo "law"
  nm := "law"
  qual := "law"
  params := defArgs (topS 46)
  body := defBody (topS 46)
  scope := defScope (topS 46)
  N := ["_law_script", "_law_place"]
  ps := ["_law_script"]
  core := c_law
def prz : Pr where
  defs := [d_are_letters, d_is_name, d_do_ascend, d_are_some, d_Clause_init, d_Clause_suits, d_Clause_asks_within, d_Clause_holds, d_names_in, d_clause_in, d_line_of, d_Rule_init, d_Rule_text, d_Rule_fields, d_Rule_kinds, d_Rule_clauses, d_Rule_len, d_Rule_eq, d_law_pot, d_law_take, d_law_of, d_law_some, d_law_cells, d_law_ordered, d_law_words, d_law_clause, d_law_lore, d_law_line, d_law_text, d_law_odd, d_law_told_clause, d_law_right, d_law]
  cls := [("Clause", ["own_same", "own_places", "own_pair", "own_window"]), ("Rule", ["own_text", "own_fields", "own_kinds", "own_clauses"])]
  flds := ["own_same", "own_places", "own_pair", "own_window", "own_text", "own_fields", "own_kinds", "own_clauses"]
  mths := ["suits", "asks_within", "holds", "__len__", "__eq__"]
  prps := ["text", "fields", "kinds", "clauses"]
  glbs := [("LETTERS", .str [97, 98, 99, 100, 101, 102, 103, 104, 105, 106, 107, 108, 109, 110, 111, 112, 113, 114, 115, 116, 117, 118, 119, 120, 121, 122]), ("MOST_LETTERS", .int 8), ("FEED", .str [10]), ("BLANK", .str [32]), ("FIELDS", .str [102, 105, 101, 108, 100, 115]), ("KINDS", .str [107, 105, 110, 100, 115]), ("LINK", .str [108, 105, 110, 107]), ("SAME", .str [115, 97, 109, 101]), ("WITHIN", .str [119, 105, 116, 104, 105, 110]), ("BARRED", .tup [.str [115, 97, 109, 101], .str [107, 105, 110, 100, 115], .str [119, 105, 116, 104, 105, 110]]), ("MOST_NAMES", .int 3), ("MOST_CLAUSES", .int 4), ("THING_PARTS", .int 3), ("PAIR_WORDS", .int 3), ("WINDOW_WORDS", .int 2)]
  tabs := [("WINDOWS", [([48], .int 0), ([49], .int 1), ([50], .int 2), ([51], .int 3), ([52], .int 4)])]
theorem good : prz.good = true := by decide +kernel
theorem b_are_letters : BindOk d_are_letters := fun _ _ _ _ _ _ us hl => match us, hl with | [_], _ => rfl
theorem b_is_name : BindOk d_is_name := fun _ _ _ _ _ _ us hl => match us, hl with | [_], _ => rfl
theorem b_do_ascend : BindOk d_do_ascend := fun _ _ _ _ _ _ us hl => match us, hl with | [_], _ => rfl
theorem b_are_some : BindOk d_are_some := fun _ _ _ _ _ _ us hl => match us, hl with | [_, _], _ => rfl
theorem b_Clause_init : BindOk d_Clause_init := fun _ _ _ _ _ _ us hl => match us, hl with | [_, _, _, _, _], _ => rfl
theorem b_Clause_suits : BindOk d_Clause_suits := fun _ _ _ _ _ _ us hl => match us, hl with | [_, _, _], _ => rfl
theorem b_Clause_asks_within : BindOk d_Clause_asks_within := fun _ _ _ _ _ _ us hl => match us, hl with | [_, _], _ => rfl
theorem b_Clause_holds : BindOk d_Clause_holds := fun _ _ _ _ _ _ us hl => match us, hl with | [_, _, _], _ => rfl
theorem b_names_in : BindOk d_names_in := fun _ _ _ _ _ _ us hl => match us, hl with | [_], _ => rfl
theorem b_clause_in : BindOk d_clause_in := fun _ _ _ _ _ _ us hl => match us, hl with | [_, _, _], _ => rfl
theorem b_line_of : BindOk d_line_of := fun _ _ _ _ _ _ us hl => match us, hl with | [_, _, _, _], _ => rfl
theorem b_Rule_init : BindOk d_Rule_init := fun _ _ _ _ _ _ us hl => match us, hl with | [_, _], _ => rfl
theorem b_Rule_text : BindOk d_Rule_text := fun _ _ _ _ _ _ us hl => match us, hl with | [_], _ => rfl
theorem b_Rule_fields : BindOk d_Rule_fields := fun _ _ _ _ _ _ us hl => match us, hl with | [_], _ => rfl
theorem b_Rule_kinds : BindOk d_Rule_kinds := fun _ _ _ _ _ _ us hl => match us, hl with | [_], _ => rfl
theorem b_Rule_clauses : BindOk d_Rule_clauses := fun _ _ _ _ _ _ us hl => match us, hl with | [_], _ => rfl
theorem b_Rule_len : BindOk d_Rule_len := fun _ _ _ _ _ _ us hl => match us, hl with | [_], _ => rfl
theorem b_Rule_eq : BindOk d_Rule_eq := fun _ _ _ _ _ _ us hl => match us, hl with | [_, _], _ => rfl
theorem b_law_pot : BindOk d_law_pot := fun _ _ _ _ _ _ us hl => match us, hl with | [_, _], _ => rfl
theorem b_law_take : BindOk d_law_take := fun _ _ _ _ _ _ us hl => match us, hl with | [_, _], _ => rfl
theorem b_law_of : BindOk d_law_of := fun _ _ _ _ _ _ us hl => match us, hl with | [_, _], _ => rfl
theorem b_law_some : BindOk d_law_some := fun _ _ _ _ _ _ us hl => match us, hl with | [_, _, _], _ => rfl
theorem b_law_cells : BindOk d_law_cells := fun _ _ _ _ _ _ us hl => match us, hl with | [_, _], _ => rfl
theorem b_law_ordered : BindOk d_law_ordered := fun _ _ _ _ _ _ us hl => match us, hl with | [_], _ => rfl
theorem b_law_words : BindOk d_law_words := fun _ _ _ _ _ _ us hl => match us, hl with | [], _ => rfl
theorem b_law_clause : BindOk d_law_clause := fun _ _ _ _ _ _ us hl => match us, hl with | [_, _, _], _ => rfl
theorem b_law_lore : BindOk d_law_lore := fun _ _ _ _ _ _ us hl => match us, hl with | [_, _, _, _], _ => rfl
theorem b_law_line : BindOk d_law_line := fun _ _ _ _ _ _ us hl => match us, hl with | [_, _], _ => rfl
theorem b_law_text : BindOk d_law_text := fun _ _ _ _ _ _ us hl => match us, hl with | [_], _ => rfl
theorem b_law_odd : BindOk d_law_odd := fun _ _ _ _ _ _ us hl => match us, hl with | [_], _ => rfl
theorem b_law_told_clause : BindOk d_law_told_clause := fun _ _ _ _ _ _ us hl => match us, hl with | [_, _], _ => rfl
theorem b_law_right : BindOk d_law_right := fun _ _ _ _ _ _ us hl => match us, hl with | [_], _ => rfl
theorem b_law : BindOk d_law := fun _ _ _ _ _ _ us hl => match us, hl with | [_], _ => rfl
theorem bind_all : ∀ d ∈ prz.defs, BindOk d := List.forall_mem_cons.mpr ⟨b_are_letters, List.forall_mem_cons.mpr ⟨b_is_name, List.forall_mem_cons.mpr ⟨b_do_ascend, List.forall_mem_cons.mpr ⟨b_are_some, List.forall_mem_cons.mpr ⟨b_Clause_init, List.forall_mem_cons.mpr ⟨b_Clause_suits, List.forall_mem_cons.mpr ⟨b_Clause_asks_within, List.forall_mem_cons.mpr ⟨b_Clause_holds, List.forall_mem_cons.mpr ⟨b_names_in, List.forall_mem_cons.mpr ⟨b_clause_in, List.forall_mem_cons.mpr ⟨b_line_of, List.forall_mem_cons.mpr ⟨b_Rule_init, List.forall_mem_cons.mpr ⟨b_Rule_text, List.forall_mem_cons.mpr ⟨b_Rule_fields, List.forall_mem_cons.mpr ⟨b_Rule_kinds, List.forall_mem_cons.mpr ⟨b_Rule_clauses, List.forall_mem_cons.mpr ⟨b_Rule_len, List.forall_mem_cons.mpr ⟨b_Rule_eq, List.forall_mem_cons.mpr ⟨b_law_pot, List.forall_mem_cons.mpr ⟨b_law_take, List.forall_mem_cons.mpr ⟨b_law_of, List.forall_mem_cons.mpr ⟨b_law_some, List.forall_mem_cons.mpr ⟨b_law_cells, List.forall_mem_cons.mpr ⟨b_law_ordered, List.forall_mem_cons.mpr ⟨b_law_words, List.forall_mem_cons.mpr ⟨b_law_clause, List.forall_mem_cons.mpr ⟨b_law_lore, List.forall_mem_cons.mpr ⟨b_law_line, List.forall_mem_cons.mpr ⟨b_law_text, List.forall_mem_cons.mpr ⟨b_law_odd, List.forall_mem_cons.mpr ⟨b_law_told_clause, List.forall_mem_cons.mpr ⟨b_law_right, List.forall_mem_cons.mpr ⟨b_law, fun _ h => absurd h List.not_mem_nil⟩⟩⟩⟩⟩⟩⟩⟩⟩⟩⟩⟩⟩⟩⟩⟩⟩⟩⟩⟩⟩⟩⟩⟩⟩⟩⟩⟩⟩⟩⟩⟩⟩
theorem o_are_letters : DefOk prz d_are_letters := ⟨⟨rfl, rfl, rfl, by decide +kernel, rfl, by decide +kernel, by decide +kernel⟩, rfl, ⟨rfl, by decide, by kernel_rfl⟩⟩
theorem o_is_name : DefOk prz d_is_name := ⟨⟨rfl, rfl, rfl, by decide +kernel, rfl, by decide +kernel, by decide +kernel⟩, rfl, ⟨rfl, by decide, by kernel_rfl⟩⟩
theorem o_do_ascend : DefOk prz d_do_ascend := ⟨⟨rfl, rfl, rfl, by decide +kernel, rfl, by decide +kernel, by decide +kernel⟩, rfl, ⟨rfl, by decide, by kernel_rfl⟩⟩
theorem o_are_some : DefOk prz d_are_some := ⟨⟨rfl, rfl, rfl, by decide +kernel, rfl, by decide +kernel, by decide +kernel⟩, rfl, ⟨rfl, by decide, by kernel_rfl⟩⟩
theorem o_Clause_init : DefOk prz d_Clause_init := ⟨⟨rfl, rfl, rfl, by decide +kernel, rfl, by decide +kernel, by decide +kernel⟩, rfl, ⟨rfl, by decide, by kernel_rfl⟩⟩
theorem o_Clause_suits : DefOk prz d_Clause_suits := ⟨⟨rfl, rfl, rfl, by decide +kernel, rfl, by decide +kernel, by decide +kernel⟩, rfl, ⟨rfl, by decide, by kernel_rfl⟩⟩
theorem o_Clause_asks_within : DefOk prz d_Clause_asks_within := ⟨⟨rfl, rfl, rfl, by decide +kernel, rfl, by decide +kernel, by decide +kernel⟩, rfl, ⟨rfl, by decide, by kernel_rfl⟩⟩
theorem o_Clause_holds : DefOk prz d_Clause_holds := ⟨⟨rfl, rfl, rfl, by decide +kernel, rfl, by decide +kernel, by decide +kernel⟩, rfl, ⟨rfl, by decide, by kernel_rfl⟩⟩
theorem o_names_in : DefOk prz d_names_in := ⟨⟨rfl, rfl, rfl, by decide +kernel, rfl, by decide +kernel, by decide +kernel⟩, rfl, ⟨rfl, by decide, by kernel_rfl⟩⟩
theorem o_clause_in : DefOk prz d_clause_in := ⟨⟨rfl, rfl, rfl, by decide +kernel, rfl, by decide +kernel, by decide +kernel⟩, rfl, ⟨rfl, by decide, by kernel_rfl⟩⟩
theorem o_line_of : DefOk prz d_line_of := ⟨⟨rfl, rfl, rfl, by decide +kernel, rfl, by decide +kernel, by decide +kernel⟩, rfl, ⟨rfl, by decide, by kernel_rfl⟩⟩
theorem o_Rule_init : DefOk prz d_Rule_init := ⟨⟨rfl, rfl, rfl, by decide +kernel, rfl, by decide +kernel, by decide +kernel⟩, rfl, ⟨rfl, by decide, by kernel_rfl⟩⟩
theorem o_Rule_text : DefOk prz d_Rule_text := ⟨⟨rfl, rfl, rfl, by decide +kernel, rfl, by decide +kernel, by decide +kernel⟩, rfl, ⟨rfl, by decide, by kernel_rfl⟩⟩
theorem o_Rule_fields : DefOk prz d_Rule_fields := ⟨⟨rfl, rfl, rfl, by decide +kernel, rfl, by decide +kernel, by decide +kernel⟩, rfl, ⟨rfl, by decide, by kernel_rfl⟩⟩
theorem o_Rule_kinds : DefOk prz d_Rule_kinds := ⟨⟨rfl, rfl, rfl, by decide +kernel, rfl, by decide +kernel, by decide +kernel⟩, rfl, ⟨rfl, by decide, by kernel_rfl⟩⟩
theorem o_Rule_clauses : DefOk prz d_Rule_clauses := ⟨⟨rfl, rfl, rfl, by decide +kernel, rfl, by decide +kernel, by decide +kernel⟩, rfl, ⟨rfl, by decide, by kernel_rfl⟩⟩
theorem o_Rule_len : DefOk prz d_Rule_len := ⟨⟨rfl, rfl, rfl, by decide +kernel, rfl, by decide +kernel, by decide +kernel⟩, rfl, ⟨rfl, by decide, by kernel_rfl⟩⟩
theorem o_Rule_eq : DefOk prz d_Rule_eq := ⟨⟨rfl, rfl, rfl, by decide +kernel, rfl, by decide +kernel, by decide +kernel⟩, rfl, ⟨rfl, by decide, by kernel_rfl⟩⟩
theorem o_law_pot : DefOk prz d_law_pot := ⟨⟨rfl, rfl, rfl, by decide +kernel, rfl, by decide +kernel, by decide +kernel⟩, rfl, ⟨rfl, by decide, by kernel_rfl⟩⟩
theorem o_law_take : DefOk prz d_law_take := ⟨⟨rfl, rfl, rfl, by decide +kernel, rfl, by decide +kernel, by decide +kernel⟩, rfl, ⟨rfl, by decide, by kernel_rfl⟩⟩
theorem o_law_of : DefOk prz d_law_of := ⟨⟨rfl, rfl, rfl, by decide +kernel, rfl, by decide +kernel, by decide +kernel⟩, rfl, ⟨rfl, by decide, by kernel_rfl⟩⟩
theorem o_law_some : DefOk prz d_law_some := ⟨⟨rfl, rfl, rfl, by decide +kernel, rfl, by decide +kernel, by decide +kernel⟩, rfl, ⟨rfl, by decide, by kernel_rfl⟩⟩
theorem o_law_cells : DefOk prz d_law_cells := ⟨⟨rfl, rfl, rfl, by decide +kernel, rfl, by decide +kernel, by decide +kernel⟩, rfl, ⟨rfl, by decide, by kernel_rfl⟩⟩
theorem o_law_ordered : DefOk prz d_law_ordered := ⟨⟨rfl, rfl, rfl, by decide +kernel, rfl, by decide +kernel, by decide +kernel⟩, rfl, ⟨rfl, by decide, by kernel_rfl⟩⟩
theorem o_law_words : DefOk prz d_law_words := ⟨⟨rfl, rfl, rfl, by decide +kernel, rfl, by decide +kernel, by decide +kernel⟩, rfl, ⟨rfl, by decide, by kernel_rfl⟩⟩
theorem o_law_clause : DefOk prz d_law_clause := ⟨⟨rfl, rfl, rfl, by decide +kernel, rfl, by decide +kernel, by decide +kernel⟩, rfl, ⟨rfl, by decide, by kernel_rfl⟩⟩
theorem o_law_lore : DefOk prz d_law_lore := ⟨⟨rfl, rfl, rfl, by decide +kernel, rfl, by decide +kernel, by decide +kernel⟩, rfl, ⟨rfl, by decide, by kernel_rfl⟩⟩
theorem o_law_line : DefOk prz d_law_line := ⟨⟨rfl, rfl, rfl, by decide +kernel, rfl, by decide +kernel, by decide +kernel⟩, rfl, ⟨rfl, by decide, by kernel_rfl⟩⟩
theorem o_law_text : DefOk prz d_law_text := ⟨⟨rfl, rfl, rfl, by decide +kernel, rfl, by decide +kernel, by decide +kernel⟩, rfl, ⟨rfl, by decide, by kernel_rfl⟩⟩
theorem o_law_odd : DefOk prz d_law_odd := ⟨⟨rfl, rfl, rfl, by decide +kernel, rfl, by decide +kernel, by decide +kernel⟩, rfl, ⟨rfl, by decide, by kernel_rfl⟩⟩
theorem o_law_told_clause : DefOk prz d_law_told_clause := ⟨⟨rfl, rfl, rfl, by decide +kernel, rfl, by decide +kernel, by decide +kernel⟩, rfl, ⟨rfl, by decide, by kernel_rfl⟩⟩
theorem o_law_right : DefOk prz d_law_right := ⟨⟨rfl, rfl, rfl, by decide +kernel, rfl, by decide +kernel, by decide +kernel⟩, rfl, ⟨rfl, by decide, by kernel_rfl⟩⟩
theorem o_law : DefOk prz d_law := ⟨⟨rfl, rfl, rfl, by decide +kernel, rfl, by decide +kernel, by decide +kernel⟩, rfl, ⟨rfl, by decide, by kernel_rfl⟩⟩
theorem ok_all : ∀ d ∈ prz.defs, DefOk prz d := List.forall_mem_cons.mpr ⟨o_are_letters, List.forall_mem_cons.mpr ⟨o_is_name, List.forall_mem_cons.mpr ⟨o_do_ascend, List.forall_mem_cons.mpr ⟨o_are_some, List.forall_mem_cons.mpr ⟨o_Clause_init, List.forall_mem_cons.mpr ⟨o_Clause_suits, List.forall_mem_cons.mpr ⟨o_Clause_asks_within, List.forall_mem_cons.mpr ⟨o_Clause_holds, List.forall_mem_cons.mpr ⟨o_names_in, List.forall_mem_cons.mpr ⟨o_clause_in, List.forall_mem_cons.mpr ⟨o_line_of, List.forall_mem_cons.mpr ⟨o_Rule_init, List.forall_mem_cons.mpr ⟨o_Rule_text, List.forall_mem_cons.mpr ⟨o_Rule_fields, List.forall_mem_cons.mpr ⟨o_Rule_kinds, List.forall_mem_cons.mpr ⟨o_Rule_clauses, List.forall_mem_cons.mpr ⟨o_Rule_len, List.forall_mem_cons.mpr ⟨o_Rule_eq, List.forall_mem_cons.mpr ⟨o_law_pot, List.forall_mem_cons.mpr ⟨o_law_take, List.forall_mem_cons.mpr ⟨o_law_of, List.forall_mem_cons.mpr ⟨o_law_some, List.forall_mem_cons.mpr ⟨o_law_cells, List.forall_mem_cons.mpr ⟨o_law_ordered, List.forall_mem_cons.mpr ⟨o_law_words, List.forall_mem_cons.mpr ⟨o_law_clause, List.forall_mem_cons.mpr ⟨o_law_lore, List.forall_mem_cons.mpr ⟨o_law_line, List.forall_mem_cons.mpr ⟨o_law_text, List.forall_mem_cons.mpr ⟨o_law_odd, List.forall_mem_cons.mpr ⟨o_law_told_clause, List.forall_mem_cons.mpr ⟨o_law_right, List.forall_mem_cons.mpr ⟨o_law, fun _ h => absurd h List.not_mem_nil⟩⟩⟩⟩⟩⟩⟩⟩⟩⟩⟩⟩⟩⟩⟩⟩⟩⟩⟩⟩⟩⟩⟩⟩⟩⟩⟩⟩⟩⟩⟩⟩⟩
end MP.K01

set_option Elab.async false
set_option linter.all false
set_option maxRecDepth 100000
namespace MP.K01
open MP.C
def CC (ns : List Int) (n : Nat) : CallF := callP (prz.tbz ns) prz.cores (fun _ => none) n
def TT (ns : List Int) : Tb := prz.tbz ns
abbrev F_are_letters : Nat := 0
theorem st_are_letters {ns : List Int} {n : Nat} {a0 : D} {w : Wd} : CC ns (n + 1) 0 [a0] w = fin (evSs (TT ns) (CC ns n) c_are_letters.body [some a0, none] w) := rfl
abbrev F_is_name : Nat := 1
theorem st_is_name {ns : List Int} {n : Nat} {a0 : D} {w : Wd} : CC ns (n + 1) 1 [a0] w = fin (evSs (TT ns) (CC ns n) c_is_name.body [some a0] w) := rfl
abbrev F_do_ascend : Nat := 2
theorem st_do_ascend {ns : List Int} {n : Nat} {a0 : D} {w : Wd} : CC ns (n + 1) 2 [a0] w = fin (evSs (TT ns) (CC ns n) c_do_ascend.body [some a0, none, none] w) := rfl
abbrev F_are_some : Nat := 3
theorem st_are_some {ns : List Int} {n : Nat} {a0 a1 : D} {w : Wd} : CC ns (n + 1) 3 [a0, a1] w = fin (evSs (TT ns) (CC ns n) c_are_some.body [some a0, some a1, none] w) := rfl
abbrev F_Clause_init : Nat := 4
theorem st_Clause_init {ns : List Int} {n : Nat} {a0 a1 a2 a3 : D} {w : Wd} : CC ns (n + 1) 4 [a0, a1, a2, a3] w = finI 0 (evSs (TT ns) (CC ns n) c_Clause_init.body [some (.ins 0 []), some a0, some a1, some a2, some a3] w) := rfl
abbrev F_Clause_suits : Nat := 5
theorem st_Clause_suits {ns : List Int} {n : Nat} {a0 a1 a2 : D} {w : Wd} : CC ns (n + 1) 5 [a0, a1, a2] w = fin (evSs (TT ns) (CC ns n) c_Clause_suits.body [some a0, some a1, some a2] w) := rfl
abbrev F_Clause_asks_within : Nat := 6
theorem st_Clause_asks_within {ns : List Int} {n : Nat} {a0 a1 : D} {w : Wd} : CC ns (n + 1) 6 [a0, a1] w = fin (evSs (TT ns) (CC ns n) c_Clause_asks_within.body [some a0, some a1] w) := rfl
abbrev F_Clause_holds : Nat := 7
theorem st_Clause_holds {ns : List Int} {n : Nat} {a0 a1 a2 : D} {w : Wd} : CC ns (n + 1) 7 [a0, a1, a2] w = fin (evSs (TT ns) (CC ns n) c_Clause_holds.body [some a0, some a1, some a2] w) := rfl
abbrev F_names_in : Nat := 8
theorem st_names_in {ns : List Int} {n : Nat} {a0 : D} {w : Wd} : CC ns (n + 1) 8 [a0] w = fin (evSs (TT ns) (CC ns n) c_names_in.body [some a0, none, none] w) := rfl
abbrev F_clause_in : Nat := 9
theorem st_clause_in {ns : List Int} {n : Nat} {a0 a1 a2 : D} {w : Wd} : CC ns (n + 1) 9 [a0, a1, a2] w = fin (evSs (TT ns) (CC ns n) c_clause_in.body [some a0, some a1, some a2, none, none, none, none, none, none, none] w) := rfl
abbrev F_line_of : Nat := 10
theorem st_line_of {ns : List Int} {n : Nat} {a0 a1 a2 a3 : D} {w : Wd} : CC ns (n + 1) 10 [a0, a1, a2, a3] w = fin (evSs (TT ns) (CC ns n) c_line_of.body [some a0, some a1, some a2, some a3] w) := rfl
abbrev F_Rule_init : Nat := 11
theorem st_Rule_init {ns : List Int} {n : Nat} {a0 : D} {w : Wd} : CC ns (n + 1) 11 [a0] w = finI 1 (evSs (TT ns) (CC ns n) c_Rule_init.body [some (.ins 1 []), some a0, none, none, none, none, none, none] w) := rfl
abbrev F_Rule_text : Nat := 12
theorem st_Rule_text {ns : List Int} {n : Nat} {a0 : D} {w : Wd} : CC ns (n + 1) 12 [a0] w = fin (evSs (TT ns) (CC ns n) c_Rule_text.body [some a0] w) := rfl
abbrev F_Rule_fields : Nat := 13
theorem st_Rule_fields {ns : List Int} {n : Nat} {a0 : D} {w : Wd} : CC ns (n + 1) 13 [a0] w = fin (evSs (TT ns) (CC ns n) c_Rule_fields.body [some a0] w) := rfl
abbrev F_Rule_kinds : Nat := 14
theorem st_Rule_kinds {ns : List Int} {n : Nat} {a0 : D} {w : Wd} : CC ns (n + 1) 14 [a0] w = fin (evSs (TT ns) (CC ns n) c_Rule_kinds.body [some a0] w) := rfl
abbrev F_Rule_clauses : Nat := 15
theorem st_Rule_clauses {ns : List Int} {n : Nat} {a0 : D} {w : Wd} : CC ns (n + 1) 15 [a0] w = fin (evSs (TT ns) (CC ns n) c_Rule_clauses.body [some a0, none] w) := rfl
abbrev F_Rule_len : Nat := 16
theorem st_Rule_len {ns : List Int} {n : Nat} {a0 : D} {w : Wd} : CC ns (n + 1) 16 [a0] w = fin (evSs (TT ns) (CC ns n) c_Rule_len.body [some a0] w) := rfl
abbrev F_Rule_eq : Nat := 17
theorem st_Rule_eq {ns : List Int} {n : Nat} {a0 a1 : D} {w : Wd} : CC ns (n + 1) 17 [a0, a1] w = fin (evSs (TT ns) (CC ns n) c_Rule_eq.body [some a0, some a1] w) := rfl
abbrev F_law_pot : Nat := 18
theorem st_law_pot {ns : List Int} {n : Nat} {a0 a1 : D} {w : Wd} : CC ns (n + 1) 18 [a0, a1] w = fin (evSs (TT ns) (CC ns n) c_law_pot.body [some a0, some a1, none, none, none] w) := rfl
abbrev F_law_take : Nat := 19
theorem st_law_take {ns : List Int} {n : Nat} {a0 a1 : D} {w : Wd} : CC ns (n + 1) 19 [a0, a1] w = fin (evSs (TT ns) (CC ns n) c_law_take.body [some a0, some a1, none, none, none] w) := rfl
abbrev F_law_of : Nat := 20
theorem st_law_of {ns : List Int} {n : Nat} {a0 a1 : D} {w : Wd} : CC ns (n + 1) 20 [a0, a1] w = fin (evSs (TT ns) (CC ns n) c_law_of.body [some a0, some a1] w) := rfl
abbrev F_law_some : Nat := 21
theorem st_law_some {ns : List Int} {n : Nat} {a0 a1 a2 : D} {w : Wd} : CC ns (n + 1) 21 [a0, a1, a2] w = fin (evSs (TT ns) (CC ns n) c_law_some.body [some a0, some a1, some a2, none, none, none] w) := rfl
abbrev F_law_cells : Nat := 22
theorem st_law_cells {ns : List Int} {n : Nat} {a0 a1 : D} {w : Wd} : CC ns (n + 1) 22 [a0, a1] w = fin (evSs (TT ns) (CC ns n) c_law_cells.body [some a0, some a1] w) := rfl
abbrev F_law_ordered : Nat := 23
theorem st_law_ordered {ns : List Int} {n : Nat} {a0 : D} {w : Wd} : CC ns (n + 1) 23 [a0] w = fin (evSs (TT ns) (CC ns n) c_law_ordered.body [some a0, none, none, none] w) := rfl
abbrev F_law_words : Nat := 24
theorem st_law_words {ns : List Int} {n : Nat} {w : Wd} : CC ns (n + 1) 24 [] w = fin (evSs (TT ns) (CC ns n) c_law_words.body [none] w) := rfl
abbrev F_law_clause : Nat := 25
theorem st_law_clause {ns : List Int} {n : Nat} {a0 a1 a2 : D} {w : Wd} : CC ns (n + 1) 25 [a0, a1, a2] w = fin (evSs (TT ns) (CC ns n) c_law_clause.body [some a0, some a1, some a2, none, none, none] w) := rfl
abbrev F_law_lore : Nat := 26
theorem st_law_lore {ns : List Int} {n : Nat} {a0 a1 a2 a3 : D} {w : Wd} : CC ns (n + 1) 26 [a0, a1, a2, a3] w = fin (evSs (TT ns) (CC ns n) c_law_lore.body [some a0, some a1, some a2, some a3, none, none, none, none] w) := rfl
abbrev F_law_line : Nat := 27
theorem st_law_line {ns : List Int} {n : Nat} {a0 a1 : D} {w : Wd} : CC ns (n + 1) 27 [a0, a1] w = fin (evSs (TT ns) (CC ns n) c_law_line.body [some a0, some a1, none, none, none, none, none, none] w) := rfl
abbrev F_law_text : Nat := 28
theorem st_law_text {ns : List Int} {n : Nat} {a0 : D} {w : Wd} : CC ns (n + 1) 28 [a0] w = fin (evSs (TT ns) (CC ns n) c_law_text.body [some a0, none, none] w) := rfl
abbrev F_law_odd : Nat := 29
theorem st_law_odd {ns : List Int} {n : Nat} {a0 : D} {w : Wd} : CC ns (n + 1) 29 [a0] w = fin (evSs (TT ns) (CC ns n) c_law_odd.body [some a0, none] w) := rfl
abbrev F_law_told_clause : Nat := 30
theorem st_law_told_clause {ns : List Int} {n : Nat} {a0 a1 : D} {w : Wd} : CC ns (n + 1) 30 [a0, a1] w = fin (evSs (TT ns) (CC ns n) c_law_told_clause.body [some a0, some a1, none, none, none, none, none] w) := rfl
abbrev F_law_right : Nat := 31
theorem st_law_right {ns : List Int} {n : Nat} {a0 : D} {w : Wd} : CC ns (n + 1) 31 [a0] w = fin (evSs (TT ns) (CC ns n) c_law_right.body [some a0, none, none, none, none, none, none, none] w) := rfl
abbrev F_law : Nat := 32
theorem st_law {ns : List Int} {n : Nat} {a0 : D} {w : Wd} : CC ns (n + 1) 32 [a0] w = fin (evSs (TT ns) (CC ns n) c_law.body [some a0, none] w) := rfl
theorem g_0 {ns : List Int} : (TT ns).glb 0 = some (.str [97, 98, 99, 100, 101, 102, 103, 104, 105, 106, 107, 108, 109, 110, 111, 112, 113, 114, 115, 116, 117, 118, 119, 120, 121, 122]) := rfl
theorem g_1 {ns : List Int} : (TT ns).glb 1 = some (.int 8) := rfl
theorem g_2 {ns : List Int} : (TT ns).glb 2 = some (.str [10]) := rfl
theorem g_3 {ns : List Int} : (TT ns).glb 3 = some (.str [32]) := rfl
theorem g_4 {ns : List Int} : (TT ns).glb 4 = some (.str [102, 105, 101, 108, 100, 115]) := rfl
theorem g_5 {ns : List Int} : (TT ns).glb 5 = some (.str [107, 105, 110, 100, 115]) := rfl
theorem g_6 {ns : List Int} : (TT ns).glb 6 = some (.str [108, 105, 110, 107]) := rfl
theorem g_7 {ns : List Int} : (TT ns).glb 7 = some (.str [115, 97, 109, 101]) := rfl
theorem g_8 {ns : List Int} : (TT ns).glb 8 = some (.str [119, 105, 116, 104, 105, 110]) := rfl
theorem g_9 {ns : List Int} : (TT ns).glb 9 = some (.tup [.str [115, 97, 109, 101], .str [107, 105, 110, 100, 115], .str [119, 105, 116, 104, 105, 110]]) := rfl
theorem g_10 {ns : List Int} : (TT ns).glb 10 = some (.int 3) := rfl
theorem g_11 {ns : List Int} : (TT ns).glb 11 = some (.int 4) := rfl
theorem g_12 {ns : List Int} : (TT ns).glb 12 = some (.int 3) := rfl
theorem g_13 {ns : List Int} : (TT ns).glb 13 = some (.int 3) := rfl
theorem g_14 {ns : List Int} : (TT ns).glb 14 = some (.int 2) := rfl
theorem gnc {ns : List Int} : (TT ns).nc = prz.cls.length := rfl
theorem gscr {ns : List Int} : (TT ns).scr = ns := rfl
end MP.K01

set_option Elab.async false
set_option linter.all false
set_option maxRecDepth 100000
namespace MP.K01
open MP.C
section
variable {ns : List Int} {n : Nat} {w : Wd}
def lets : List Nat := [97, 98, 99, 100, 101, 102, 103, 104, 105, 106, 107, 108, 109, 110, 111, 112, 113, 114, 115, 116, 117, 118, 119, 120, 121, 122]
/-- a name -/
def Nm (s : List Nat) : Bool := (!s.isEmpty) && s.all (fun c => isSub c lets) && decide (s.length ≤ 8)
theorem Nm.ne {s : List Nat} (h : Nm s = true) : s ≠ [] := by
  rintro rfl; cases h
theorem Nm.all {s : List Nat} (h : Nm s = true) : ∀ c ∈ s, isSub c lets = true := by
  unfold Nm at h
  simp only [Bool.and_eq_true, List.all_eq_true] at h
  exact h.1.2
theorem Nm.len {s : List Nat} (h : Nm s = true) : s.length ≤ 8 := by
  unfold Nm at h
  simp only [Bool.and_eq_true, decide_eq_true_eq] at h
  exact h.2
theorem e_letters {s : List Nat} (h : Nm s = true) : CC ns (n + 1) F_are_letters [.str s] w = .ok (.bl true) w := by
  have h1 := Nm.ne h
  have h2 := Nm.len h
  rw [st_are_letters, c_are_letters]
  simp only [list_lst, list_tup, tuple_lst, tuple_tup, x_v, x_b, x_non, x_bl, x_int, x_str, x_g, x_tup, x_lst, x_dct, x_bin, x_neg, x_not, x_cmp, x_cmp2, x_and, x_or, x_ite, x_call, x_mk, x_fld, x_prop, x_idx, x_sli, x_bf, x_bm, x_isi, x_rpeq, x_tix, x_tin, x_tups, x_lsts, x_slen, x_sidx, s_set, s_seto, s_par, s_aug, s_app, s_ext, s_insr, s_seti, s_setf, s_mv, s_ex, s_ite, s_ret, s_retn, s_appop, s_setw, s_retw, s_sets, sq_nil, sq_cons, es_nil, es_cons, ec_nil, ec_cons, bind_ok, ofO_some, boolR_bl, fin_rt, fin_nx, seqR_nx, seqR_rt, negR_int, cmp2R_t, cmp2R_f, mkR_some, fldR_ins, propR_ins, retwR_lst, setsR_lst, lstAt, lcF, bindP, bindPs, List.getD_cons_zero, List.getD_cons_succ, List.set_cons_zero, List.set_cons_succ, Option.map_some, Option.bind_some, if_true, if_false, Bool.false_eq_true, cmpD, eq_str, eq_int, in_chr, len_lst, len_tup, add_int, sub_int, int_int, int_bl, abs_int, newAt, isNewD, deref, partD, Option.bind_none, Option.map_none, Bool.not_true, Bool.not_false, ite_true, ite_false, reduceIte, Bool.and_true, Bool.true_and, isiD]
  rw [show (s == ([] : List Nat)) = false by cases s <;> first | rfl | exact absurd rfl h1]
  simp only [list_lst, list_tup, tuple_lst, tuple_tup, x_v, x_b, x_non, x_bl, x_int, x_str, x_g, x_tup, x_lst, x_dct, x_bin, x_neg, x_not, x_cmp, x_cmp2, x_and, x_or, x_ite, x_call, x_mk, x_fld, x_prop, x_idx, x_sli, x_bf, x_bm, x_isi, x_rpeq, x_tix, x_tin, x_tups, x_lsts, x_slen, x_sidx, s_set, s_seto, s_par, s_aug, s_app, s_ext, s_insr, s_seti, s_setf, s_mv, s_ex, s_ite, s_ret, s_retn, s_appop, s_setw, s_retw, s_sets, sq_nil, sq_cons, es_nil, es_cons, ec_nil, ec_cons, bind_ok, ofO_some, boolR_bl, fin_rt, fin_nx, seqR_nx, seqR_rt, negR_int, cmp2R_t, cmp2R_f, mkR_some, fldR_ins, propR_ins, retwR_lst, setsR_lst, lstAt, lcF, bindP, bindPs, List.getD_cons_zero, List.getD_cons_succ, List.set_cons_zero, List.set_cons_succ, Option.map_some, Option.bind_some, if_true, if_false, Bool.false_eq_true, cmpD, eq_str, eq_int, in_chr, len_lst, len_tup, add_int, sub_int, int_int, int_bl, abs_int, newAt, isNewD, deref, partD, Option.bind_none, Option.map_none, Bool.not_true, Bool.not_false, ite_true, ite_false, reduceIte, Bool.and_true, Bool.true_and]
  rw [lc_map s (fun c => .str [c]) (fun _ => .bl true) rfl (iter_str (show s.length ≤ bigN by unfold bigN; omega)) fun c hc => ?_]
  · simp only [list_lst, list_tup, tuple_lst, tuple_tup, x_v, x_b, x_non, x_bl, x_int, x_str, x_g, x_tup, x_lst, x_dct, x_bin, x_neg, x_not, x_cmp, x_cmp2, x_and, x_or, x_ite, x_call, x_mk, x_fld, x_prop, x_idx, x_sli, x_bf, x_bm, x_isi, x_rpeq, x_tix, x_tin, x_tups, x_lsts, x_slen, x_sidx, s_set, s_seto, s_par, s_aug, s_app, s_ext, s_insr, s_seti, s_setf, s_mv, s_ex, s_ite, s_ret, s_retn, s_appop, s_setw, s_retw, s_sets, sq_nil, sq_cons, es_nil, es_cons, ec_nil, ec_cons, bind_ok, ofO_some, boolR_bl, fin_rt, fin_nx, seqR_nx, seqR_rt, negR_int, cmp2R_t, cmp2R_f, mkR_some, fldR_ins, propR_ins, retwR_lst, setsR_lst, lstAt, lcF, bindP, bindPs, List.getD_cons_zero, List.getD_cons_succ, List.set_cons_zero, List.set_cons_succ, Option.map_some, Option.bind_some, if_true, if_false, Bool.false_eq_true, cmpD, eq_str, eq_int, in_chr, len_lst, len_tup, add_int, sub_int, int_int, int_bl, abs_int, newAt, isNewD, deref, partD, Option.bind_none, Option.map_none, Bool.not_true, Bool.not_false, ite_true, ite_false, reduceIte, Bool.and_true, Bool.true_and, all_true]
  · simp only [list_lst, list_tup, tuple_lst, tuple_tup, x_v, x_b, x_non, x_bl, x_int, x_str, x_g, x_tup, x_lst, x_dct, x_bin, x_neg, x_not, x_cmp, x_cmp2, x_and, x_or, x_ite, x_call, x_mk, x_fld, x_prop, x_idx, x_sli, x_bf, x_bm, x_isi, x_rpeq, x_tix, x_tin, x_tups, x_lsts, x_slen, x_sidx, s_set, s_seto, s_par, s_aug, s_app, s_ext, s_insr, s_seti, s_setf, s_mv, s_ex, s_ite, s_ret, s_retn, s_appop, s_setw, s_retw, s_sets, sq_nil, sq_cons, es_nil, es_cons, ec_nil, ec_cons, bind_ok, ofO_some, boolR_bl, fin_rt, fin_nx, seqR_nx, seqR_rt, negR_int, cmp2R_t, cmp2R_f, mkR_some, fldR_ins, propR_ins, retwR_lst, setsR_lst, lstAt, lcF, bindP, bindPs, List.getD_cons_zero, List.getD_cons_succ, List.set_cons_zero, List.set_cons_succ, Option.map_some, Option.bind_some, if_true, if_false, Bool.false_eq_true, cmpD, eq_str, eq_int, in_chr, len_lst, len_tup, add_int, sub_int, int_int, int_bl, abs_int, newAt, isNewD, deref, partD, Option.bind_none, Option.map_none, Bool.not_true, Bool.not_false, ite_true, ite_false, reduceIte, Bool.and_true, Bool.true_and, g_0]
    exact congrArg (fun b => R.ok (some (D.bl b)) w) (Nm.all h c hc)
theorem e_name {s : List Nat} (h : Nm s = true) : CC ns (n + 2) F_is_name [.str s] w = .ok (.bl true) w := by
  rw [st_is_name, c_is_name]
  simp only [list_lst, list_tup, tuple_lst, tuple_tup, x_v, x_b, x_non, x_bl, x_int, x_str, x_g, x_tup, x_lst, x_dct, x_bin, x_neg, x_not, x_cmp, x_cmp2, x_and, x_or, x_ite, x_call, x_mk, x_fld, x_prop, x_idx, x_sli, x_bf, x_bm, x_isi, x_rpeq, x_tix, x_tin, x_tups, x_lsts, x_slen, x_sidx, s_set, s_seto, s_par, s_aug, s_app, s_ext, s_insr, s_seti, s_setf, s_mv, s_ex, s_ite, s_ret, s_retn, s_appop, s_setw, s_retw, s_sets, sq_nil, sq_cons, es_nil, es_cons, ec_nil, ec_cons, bind_ok, ofO_some, boolR_bl, fin_rt, fin_nx, seqR_nx, seqR_rt, negR_int, cmp2R_t, cmp2R_f, mkR_some, fldR_ins, propR_ins, retwR_lst, setsR_lst, lstAt, lcF, bindP, bindPs, List.getD_cons_zero, List.getD_cons_succ, List.set_cons_zero, List.set_cons_succ, Option.map_some, Option.bind_some, if_true, if_false, Bool.false_eq_true, cmpD, eq_str, eq_int, in_chr, len_lst, len_tup, add_int, sub_int, int_int, int_bl, abs_int, newAt, isNewD, deref, partD, Option.bind_none, Option.map_none, Bool.not_true, Bool.not_false, ite_true, ite_false, reduceIte, Bool.and_true, Bool.true_and, e_letters h, g_1, len_str (show s.length ≤ bigN by have := Nm.len h; unfold bigN; omega)]
  rw [decide_eq_true (show ((s.length : Int) ≤ 8) by have := Nm.len h; omega)]
end
end MP.K01

set_option Elab.async false
set_option linter.all false
set_option maxRecDepth 100000
namespace MP.K01
open MP.C
section
variable {ns : List Int} {n : Nat} {w : Wd}
theorem mod_prime {w : Wd} (c : Int) : ∃ q : Int, idxD w (.lst [.int 2147483647, .int 2147483629, .int 2147483587, .int 2147483579, .int 2147483563]) (.int (c % 5)) = some (.int q) ∧ 0 < q ∧ q ≤ 2147483647 := by
  have h : c % 5 = 0 ∨ c % 5 = 1 ∨ c % 5 = 2 ∨ c % 5 = 3 ∨ c % 5 = 4 := by omega
  rcases h with h | h | h | h | h <;> rw [h] <;> exact ⟨_, rfl, by decide, by decide⟩
theorem natAbs_lt {a : Int} {k : Nat} (h1 : 0 ≤ a) (h2 : a < (k : Int)) : a.natAbs < k := by omega
theorem e_take {i N : Nat} (h : Pot i N w) (m : Int) (h1 : 0 < m) (h2 : m < 1073741824) (hN : N < 1125899906842624) : Ok (CC ns (n + 1) F_law_take [.obj i, .int m] w) fun r w' => ∃ k : Int, r = .int k ∧ 0 ≤ k ∧ k < m ∧ Pot i (N + 1) w' := by
  obtain ⟨a, b, c, e, a1, b1, b2, c1, c2⟩ := h
  rw [st_law_take, c_law_take]
  simp only [list_lst, list_tup, tuple_lst, tuple_tup, x_v, x_b, x_non, x_bl, x_int, x_str, x_g, x_tup, x_lst, x_dct, x_bin, x_neg, x_not, x_cmp, x_cmp2, x_and, x_or, x_ite, x_call, x_mk, x_fld, x_prop, x_idx, x_sli, x_bf, x_bm, x_isi, x_rpeq, x_tix, x_tin, x_tups, x_lsts, x_slen, x_sidx, s_set, s_seto, s_par, s_aug, s_app, s_ext, s_insr, s_seti, s_setf, s_mv, s_ex, s_ite, s_ret, s_retn, s_appop, s_setw, s_retw, s_sets, sq_nil, sq_cons, es_nil, es_cons, ec_nil, ec_cons, bind_ok, ofO_some, boolR_bl, fin_rt, fin_nx, seqR_nx, seqR_rt, negR_int, cmp2R_t, cmp2R_f, mkR_some, fldR_ins, propR_ins, retwR_lst, setsR_lst, lstAt, lcF, bindP, bindPs, List.getD_cons_zero, List.getD_cons_succ, List.set_cons_zero, List.set_cons_succ, Option.map_some, Option.bind_some, if_true, if_false, Bool.false_eq_true, cmpD, eq_str, eq_int, in_chr, len_lst, len_tup, add_int, sub_int, int_int, int_bl, abs_int, newAt, isNewD, deref, partD, Option.bind_none, Option.map_none, Bool.not_true, Bool.not_false, ite_true, ite_false, reduceIte, Bool.and_true, Bool.true_and, idx_o0 e]
  by_cases ha : 0 < a
  · rw [decide_eq_true ha]
    simp only [list_lst, list_tup, tuple_lst, tuple_tup, x_v, x_b, x_non, x_bl, x_int, x_str, x_g, x_tup, x_lst, x_dct, x_bin, x_neg, x_not, x_cmp, x_cmp2, x_and, x_or, x_ite, x_call, x_mk, x_fld, x_prop, x_idx, x_sli, x_bf, x_bm, x_isi, x_rpeq, x_tix, x_tin, x_tups, x_lsts, x_slen, x_sidx, s_set, s_seto, s_par, s_aug, s_app, s_ext, s_insr, s_seti, s_setf, s_mv, s_ex, s_ite, s_ret, s_retn, s_appop, s_setw, s_retw, s_sets, sq_nil, sq_cons, es_nil, es_cons, ec_nil, ec_cons, bind_ok, ofO_some, boolR_bl, fin_rt, fin_nx, seqR_nx, seqR_rt, negR_int, cmp2R_t, cmp2R_f, mkR_some, fldR_ins, propR_ins, retwR_lst, setsR_lst, lstAt, lcF, bindP, bindPs, List.getD_cons_zero, List.getD_cons_succ, List.set_cons_zero, List.set_cons_succ, Option.map_some, Option.bind_some, if_true, if_false, Bool.false_eq_true, cmpD, eq_str, eq_int, in_chr, len_lst, len_tup, add_int, sub_int, int_int, int_bl, abs_int, newAt, isNewD, deref, partD, Option.bind_none, Option.map_none, Bool.not_true, Bool.not_false, ite_true, ite_false, reduceIte, Bool.and_true, Bool.true_and, idx_o0 e, mod_int h1, fdiv_int h1 h2, setwR_ok e (show ixD [D.int a, .int b, .int c].length 0 = some 0 from rfl)]
    exact ⟨_, rfl, Int.emod_nonneg _ (by omega), Int.emod_lt_of_pos _ h1, a / m, b, c, set_o e, Int.ediv_nonneg a1 (by omega), b1, b2, c1, by omega⟩
  · rw [decide_eq_false ha]
    have e' := set_o (y := .lst [.int a, .int b, .int (c + 1)]) e
    simp only [list_lst, list_tup, tuple_lst, tuple_tup, x_v, x_b, x_non, x_bl, x_int, x_str, x_g, x_tup, x_lst, x_dct, x_bin, x_neg, x_not, x_cmp, x_cmp2, x_and, x_or, x_ite, x_call, x_mk, x_fld, x_prop, x_idx, x_sli, x_bf, x_bm, x_isi, x_rpeq, x_tix, x_tin, x_tups, x_lsts, x_slen, x_sidx, s_set, s_seto, s_par, s_aug, s_app, s_ext, s_insr, s_seti, s_setf, s_mv, s_ex, s_ite, s_ret, s_retn, s_appop, s_setw, s_retw, s_sets, sq_nil, sq_cons, es_nil, es_cons, ec_nil, ec_cons, bind_ok, ofO_some, boolR_bl, fin_rt, fin_nx, seqR_nx, seqR_rt, negR_int, cmp2R_t, cmp2R_f, mkR_some, fldR_ins, propR_ins, retwR_lst, setsR_lst, lstAt, lcF, bindP, bindPs, List.getD_cons_zero, List.getD_cons_succ, List.set_cons_zero, List.set_cons_succ, Option.map_some, Option.bind_some, if_true, if_false, Bool.false_eq_true, cmpD, eq_str, eq_int, in_chr, len_lst, len_tup, add_int, sub_int, int_int, int_bl, abs_int, newAt, isNewD, deref, partD, Option.bind_none, Option.map_none, Bool.not_true, Bool.not_false, ite_true, ite_false, reduceIte, Bool.and_true, Bool.true_and, idx_o2 e, setwR_ok e (show ixD [D.int a, .int b, .int c].length 2 = some 2 from rfl)]
    simp only [list_lst, list_tup, tuple_lst, tuple_tup, x_v, x_b, x_non, x_bl, x_int, x_str, x_g, x_tup, x_lst, x_dct, x_bin, x_neg, x_not, x_cmp, x_cmp2, x_and, x_or, x_ite, x_call, x_mk, x_fld, x_prop, x_idx, x_sli, x_bf, x_bm, x_isi, x_rpeq, x_tix, x_tin, x_tups, x_lsts, x_slen, x_sidx, s_set, s_seto, s_par, s_aug, s_app, s_ext, s_insr, s_seti, s_setf, s_mv, s_ex, s_ite, s_ret, s_retn, s_appop, s_setw, s_retw, s_sets, sq_nil, sq_cons, es_nil, es_cons, ec_nil, ec_cons, bind_ok, ofO_some, boolR_bl, fin_rt, fin_nx, seqR_nx, seqR_rt, negR_int, cmp2R_t, cmp2R_f, mkR_some, fldR_ins, propR_ins, retwR_lst, setsR_lst, lstAt, lcF, bindP, bindPs, List.getD_cons_zero, List.getD_cons_succ, List.set_cons_zero, List.set_cons_succ, Option.map_some, Option.bind_some, if_true, if_false, Bool.false_eq_true, cmpD, eq_str, eq_int, in_chr, len_lst, len_tup, add_int, sub_int, int_int, int_bl, abs_int, newAt, isNewD, deref, partD, Option.bind_none, Option.map_none, Bool.not_true, Bool.not_false, ite_true, ite_false, reduceIte, Bool.and_true, Bool.true_and, idx_o2 e', idx_o1 e', mod_int (show (0 : Int) < 5 by decide)]
    obtain ⟨q, hq, q1, q2⟩ := mod_prime (w := List.set w i (.lst [.int a, .int b, .int (c + 1)])) (c + 1)
    have hs : smallI 100003 = true := by decide
    have hc : smallI (c + 1) = true := small_of (by omega) (by omega)
    have hb : 0 ≤ b + 100003 * (c + 1) * (c + 1) + 37 := by
      have : 0 ≤ 100003 * (c + 1) * (c + 1) := Int.mul_nonneg (by omega) (by omega)
      omega
    have hb2 : b + 100003 * (c + 1) * (c + 1) + 37 < ((2 ^ 4096 : Nat) : Int) := by
      have h1 : 100003 * (c + 1) * (c + 1) ≤ 112595999999999999999999 * 1125899906842625 := Int.mul_le_mul (by omega) (by omega) (by omega) (by omega)
      have h2 : (112595999999999999999999 * 1125899906842625 + 2 ^ 62 + 37 : Int) < ((2 ^ 200 : Nat) : Int) := by decide
      have h3 : ((2 ^ 200 : Nat) : Int) ≤ ((2 ^ 4096 : Nat) : Int) := Int.ofNat_le.mpr (Nat.pow_le_pow_right (by decide) (by decide))
      omega
    have r1 : ∀ x : Int, 0 ≤ x % q ∧ x % q < 2147483648 := fun x => ⟨Int.emod_nonneg _ (by omega), by have := Int.emod_lt_of_pos x q1; omega⟩
    simp only [list_lst, list_tup, tuple_lst, tuple_tup, x_v, x_b, x_non, x_bl, x_int, x_str, x_g, x_tup, x_lst, x_dct, x_bin, x_neg, x_not, x_cmp, x_cmp2, x_and, x_or, x_ite, x_call, x_mk, x_fld, x_prop, x_idx, x_sli, x_bf, x_bm, x_isi, x_rpeq, x_tix, x_tin, x_tups, x_lsts, x_slen, x_sidx, s_set, s_seto, s_par, s_aug, s_app, s_ext, s_insr, s_seti, s_setf, s_mv, s_ex, s_ite, s_ret, s_retn, s_appop, s_setw, s_retw, s_sets, sq_nil, sq_cons, es_nil, es_cons, ec_nil, ec_cons, bind_ok, ofO_some, boolR_bl, fin_rt, fin_nx, seqR_nx, seqR_rt, negR_int, cmp2R_t, cmp2R_f, mkR_some, fldR_ins, propR_ins, retwR_lst, setsR_lst, lstAt, lcF, bindP, bindPs, List.getD_cons_zero, List.getD_cons_succ, List.set_cons_zero, List.set_cons_succ, Option.map_some, Option.bind_some, if_true, if_false, Bool.false_eq_true, cmpD, eq_str, eq_int, in_chr, len_lst, len_tup, add_int, sub_int, int_int, int_bl, abs_int, newAt, isNewD, deref, partD, Option.bind_none, Option.map_none, Bool.not_true, Bool.not_false, ite_true, ite_false, reduceIte, Bool.and_true, Bool.true_and, hq, mul_l hs, mul_r hc, pow_int ⟨show (0 : Int) ≤ 3 by decide, by decide, natAbs_lt hb hb2⟩, mod_int q1, mod_int (show (0 : Int) < 10037 by decide), mod_int (show (0 : Int) < 2305843009213693907 by decide), mul_l (show smallI 89 = true by decide), fdiv_int (show (0 : Int) < 127 by decide) (by decide), mod_int h1, idx_o2 e', idx_o1 e']
    rw [mul_l (small_of (by have := (r1 ((b + 100003 * (c + 1) * (c + 1) + 37) ^ Int.toNat 3)).1; omega) (by have := (r1 ((b + 100003 * (c + 1) * (c + 1) + 37) ^ Int.toNat 3)).2; omega))]
    simp only [list_lst, list_tup, tuple_lst, tuple_tup, x_v, x_b, x_non, x_bl, x_int, x_str, x_g, x_tup, x_lst, x_dct, x_bin, x_neg, x_not, x_cmp, x_cmp2, x_and, x_or, x_ite, x_call, x_mk, x_fld, x_prop, x_idx, x_sli, x_bf, x_bm, x_isi, x_rpeq, x_tix, x_tin, x_tups, x_lsts, x_slen, x_sidx, s_set, s_seto, s_par, s_aug, s_app, s_ext, s_insr, s_seti, s_setf, s_mv, s_ex, s_ite, s_ret, s_retn, s_appop, s_setw, s_retw, s_sets, sq_nil, sq_cons, es_nil, es_cons, ec_nil, ec_cons, bind_ok, ofO_some, boolR_bl, fin_rt, fin_nx, seqR_nx, seqR_rt, negR_int, cmp2R_t, cmp2R_f, mkR_some, fldR_ins, propR_ins, retwR_lst, setsR_lst, lstAt, lcF, bindP, bindPs, List.getD_cons_zero, List.getD_cons_succ, List.set_cons_zero, List.set_cons_succ, Option.map_some, Option.bind_some, if_true, if_false, Bool.false_eq_true, cmpD, eq_str, eq_int, in_chr, len_lst, len_tup, add_int, sub_int, int_int, int_bl, abs_int, newAt, isNewD, deref, partD, Option.bind_none, Option.map_none, Bool.not_true, Bool.not_false, ite_true, ite_false, reduceIte, Bool.and_true, Bool.true_and, mod_int (show (0 : Int) < 2305843009213693907 by decide), fdiv_int (show (0 : Int) < 127 by decide) (by decide), mod_int h1]
    exact ⟨_, rfl, Int.emod_nonneg _ (by omega), Int.emod_lt_of_pos _ h1, a, b, c + 1, e', a1, b1, b2, by omega, by omega⟩
end
end MP.K01

set_option Elab.async false
set_option linter.all false
set_option maxRecDepth 100000
namespace MP.K01
open MP.C
section
variable {ns : List Int} {n : Nat} {w : Wd}
theorem e_of {i N : Nat} (h : Pot i N w) {xs : List D} (h1 : xs ≠ []) (h2 : xs.length < 1073741824) (hN : N < 1125899906842624) : Ok (CC ns (n + 2) F_law_of [.obj i, .lst xs] w) fun r w' => r ∈ xs ∧ Pot i (N + 1) w' := by
  have hp := List.length_pos_iff.mpr h1
  rw [st_law_of, c_law_of]
  simp only [list_lst, list_tup, tuple_lst, tuple_tup, x_v, x_b, x_non, x_bl, x_int, x_str, x_g, x_tup, x_lst, x_dct, x_bin, x_neg, x_not, x_cmp, x_cmp2, x_and, x_or, x_ite, x_call, x_mk, x_fld, x_prop, x_idx, x_sli, x_bf, x_bm, x_isi, x_rpeq, x_tix, x_tin, x_tups, x_lsts, x_slen, x_sidx, s_set, s_seto, s_par, s_aug, s_app, s_ext, s_insr, s_seti, s_setf, s_mv, s_ex, s_ite, s_ret, s_retn, s_appop, s_setw, s_retw, s_sets, sq_nil, sq_cons, es_nil, es_cons, ec_nil, ec_cons, bind_ok, ofO_some, boolR_bl, seqR_nx, seqR_rt, negR_int, cmp2R_t, cmp2R_f, mkR_some, fldR_ins, propR_ins, retwR_lst, setsR_lst, lstAt, lcF, bindP, bindPs, List.getD_cons_zero, List.getD_cons_succ, List.set_cons_zero, List.set_cons_succ, Option.map_some, Option.bind_some, if_true, if_false, Bool.false_eq_true, cmpD, eq_str, eq_int, in_chr, len_lst, len_tup, add_int, sub_int, int_int, int_bl, abs_int, newAt, isNewD, deref, partD, Option.bind_none, Option.map_none, Bool.not_true, Bool.not_false, ite_true, ite_false, reduceIte, Bool.and_true, Bool.true_and, fin_eq, ok_bind, ok_ok, finK_rt, finK_nx]
  refine (e_take h _ (by omega) (by omega) hN).mono ?_
  rintro _ w1 ⟨k, rfl, k1, k2, p⟩
  have hk : k.toNat < xs.length := by omega
  simp only [list_lst, list_tup, tuple_lst, tuple_tup, x_v, x_b, x_non, x_bl, x_int, x_str, x_g, x_tup, x_lst, x_dct, x_bin, x_neg, x_not, x_cmp, x_cmp2, x_and, x_or, x_ite, x_call, x_mk, x_fld, x_prop, x_idx, x_sli, x_bf, x_bm, x_isi, x_rpeq, x_tix, x_tin, x_tups, x_lsts, x_slen, x_sidx, s_set, s_seto, s_par, s_aug, s_app, s_ext, s_insr, s_seti, s_setf, s_mv, s_ex, s_ite, s_ret, s_retn, s_appop, s_setw, s_retw, s_sets, sq_nil, sq_cons, es_nil, es_cons, ec_nil, ec_cons, bind_ok, ofO_some, boolR_bl, seqR_nx, seqR_rt, negR_int, cmp2R_t, cmp2R_f, mkR_some, fldR_ins, propR_ins, retwR_lst, setsR_lst, lstAt, lcF, bindP, bindPs, List.getD_cons_zero, List.getD_cons_succ, List.set_cons_zero, List.set_cons_succ, Option.map_some, Option.bind_some, if_true, if_false, Bool.false_eq_true, cmpD, eq_str, eq_int, in_chr, len_lst, len_tup, add_int, sub_int, int_int, int_bl, abs_int, newAt, isNewD, deref, partD, Option.bind_none, Option.map_none, Bool.not_true, Bool.not_false, ite_true, ite_false, reduceIte, Bool.and_true, Bool.true_and, fin_eq, ok_bind, ok_ok, finK_rt, finK_nx, idx_lst k1 (List.getElem?_eq_getElem hk)]
  exact ⟨List.getElem_mem hk, p⟩
theorem erase_perm {α : Type} : ∀ {l : List α} {k : Nat} (h : k < l.length), ([l[k]] ++ l.eraseIdx k).Perm l
  | [], _, h => absurd h (Nat.not_lt_zero _)
  | a :: l, 0, _ => List.Perm.refl _
  | a :: l, k + 1, h => by
    have h' : k < l.length := by simpa using h
    show (l[k] :: a :: l.eraseIdx k).Perm (a :: l)
    exact (List.Perm.swap a l[k] _).trans ((erase_perm h').cons a)
theorem e_some {i N : Nat} (h : Pot i N w) {xs : List D} {m : Int} (h1 : 0 ≤ m) (h2 : m ≤ xs.length) (h3 : xs.length < 1000) (hN : N + 1000 < 1125899906842624) : Ok (CC ns (n + 2) F_law_some [.obj i, .lst xs, .int m] w) fun r w' => (∃ fs ls : List D, r = .lst fs ∧ fs.length = m.toNat ∧ (fs ++ ls).Perm xs) ∧ Pot i (N + m.toNat) w' := by
  rw [st_law_some, c_law_some]
  simp only [list_lst, list_tup, tuple_lst, tuple_tup, x_v, x_b, x_non, x_bl, x_int, x_str, x_g, x_tup, x_lst, x_dct, x_bin, x_neg, x_not, x_cmp, x_cmp2, x_and, x_or, x_ite, x_call, x_mk, x_fld, x_prop, x_idx, x_sli, x_bf, x_bm, x_isi, x_rpeq, x_tix, x_tin, x_tups, x_lsts, x_slen, x_sidx, s_set, s_seto, s_par, s_aug, s_app, s_ext, s_insr, s_seti, s_setf, s_mv, s_ex, s_ite, s_ret, s_retn, s_appop, s_setw, s_retw, s_sets, sq_nil, sq_cons, es_nil, es_cons, ec_nil, ec_cons, bind_ok, ofO_some, boolR_bl, seqR_nx, seqR_rt, negR_int, cmp2R_t, cmp2R_f, mkR_some, fldR_ins, propR_ins, retwR_lst, setsR_lst, lstAt, lcF, bindP, bindPs, List.getD_cons_zero, List.getD_cons_succ, List.set_cons_zero, List.set_cons_succ, Option.map_some, Option.bind_some, if_true, if_false, Bool.false_eq_true, cmpD, eq_str, eq_int, in_chr, len_lst, len_tup, add_int, sub_int, int_int, int_bl, abs_int, newAt, isNewD, deref, partD, Option.bind_none, Option.map_none, Bool.not_true, Bool.not_false, ite_true, ite_false, reduceIte, Bool.and_true, Bool.true_and, fin_eq, ok_bind, ok_ok, finK_rt, finK_nx]
  rw [s_for]
  simp only [list_lst, list_tup, tuple_lst, tuple_tup, x_v, x_b, x_non, x_bl, x_int, x_str, x_g, x_tup, x_lst, x_dct, x_bin, x_neg, x_not, x_cmp, x_cmp2, x_and, x_or, x_ite, x_call, x_mk, x_fld, x_prop, x_idx, x_sli, x_bf, x_bm, x_isi, x_rpeq, x_tix, x_tin, x_tups, x_lsts, x_slen, x_sidx, s_set, s_seto, s_par, s_aug, s_app, s_ext, s_insr, s_seti, s_setf, s_mv, s_ex, s_ite, s_ret, s_retn, s_appop, s_setw, s_retw, s_sets, sq_nil, sq_cons, es_nil, es_cons, ec_nil, ec_cons, bind_ok, ofO_some, boolR_bl, seqR_nx, seqR_rt, negR_int, cmp2R_t, cmp2R_f, mkR_some, fldR_ins, propR_ins, retwR_lst, setsR_lst, lstAt, lcF, bindP, bindPs, List.getD_cons_zero, List.getD_cons_succ, List.set_cons_zero, List.set_cons_succ, Option.map_some, Option.bind_some, if_true, if_false, Bool.false_eq_true, cmpD, eq_str, eq_int, in_chr, len_lst, len_tup, add_int, sub_int, int_int, int_bl, abs_int, newAt, isNewD, deref, partD, Option.bind_none, Option.map_none, Bool.not_true, Bool.not_false, ite_true, ite_false, reduceIte, Bool.and_true, Bool.true_and, fin_eq, ok_bind, ok_ok, finK_rt, finK_nx, rng_int h1 (show m < 16777216 by omega), iter_lst]
  refine (goF_ok (J := fun k ρ w => ∃ (fs ls : List D) (x : Option D), ρ = [some (.obj i), some (.lst xs), some (.int m), x, some (.lst ls), some (.lst fs)] ∧ fs.length = k ∧ (fs ++ ls).Perm xs ∧ Pot i (N + k) w) (rngL 0 m) 0 _ w ⟨[], xs, none, rfl, rfl, List.Perm.refl _, h⟩ ?_).mono ?_
  · rintro k d - hd _ w1 ⟨fs, ls, x, rfl, e1, e2, p⟩
    obtain ⟨rfl, hk⟩ := rng_get hd
    have hl := e2.length_eq
    rw [List.length_append] at hl
    simp only [forF]
    simp only [list_lst, list_tup, tuple_lst, tuple_tup, x_v, x_b, x_non, x_bl, x_int, x_str, x_g, x_tup, x_lst, x_dct, x_bin, x_neg, x_not, x_cmp, x_cmp2, x_and, x_or, x_ite, x_call, x_mk, x_fld, x_prop, x_idx, x_sli, x_bf, x_bm, x_isi, x_rpeq, x_tix, x_tin, x_tups, x_lsts, x_slen, x_sidx, s_set, s_seto, s_par, s_aug, s_app, s_ext, s_insr, s_seti, s_setf, s_mv, s_ex, s_ite, s_ret, s_retn, s_appop, s_setw, s_retw, s_sets, sq_nil, sq_cons, es_nil, es_cons, ec_nil, ec_cons, bind_ok, ofO_some, boolR_bl, seqR_nx, seqR_rt, negR_int, cmp2R_t, cmp2R_f, mkR_some, fldR_ins, propR_ins, retwR_lst, setsR_lst, lstAt, lcF, bindP, bindPs, List.getD_cons_zero, List.getD_cons_succ, List.set_cons_zero, List.set_cons_succ, Option.map_some, Option.bind_some, if_true, if_false, Bool.false_eq_true, cmpD, eq_str, eq_int, in_chr, len_lst, len_tup, add_int, sub_int, int_int, int_bl, abs_int, newAt, isNewD, deref, partD, Option.bind_none, Option.map_none, Bool.not_true, Bool.not_false, ite_true, ite_false, reduceIte, Bool.and_true, Bool.true_and, fin_eq, ok_bind, ok_ok, finK_rt, finK_nx]
    refine (e_take p _ (by omega) (by omega) (by omega)).mono ?_
    rintro _ w2 ⟨q, rfl, q1, q2, p2⟩
    have hq : q.toNat < ls.length := by omega
    simp only [list_lst, list_tup, tuple_lst, tuple_tup, x_v, x_b, x_non, x_bl, x_int, x_str, x_g, x_tup, x_lst, x_dct, x_bin, x_neg, x_not, x_cmp, x_cmp2, x_and, x_or, x_ite, x_call, x_mk, x_fld, x_prop, x_idx, x_sli, x_bf, x_bm, x_isi, x_rpeq, x_tix, x_tin, x_tups, x_lsts, x_slen, x_sidx, s_set, s_seto, s_par, s_aug, s_app, s_ext, s_insr, s_seti, s_setf, s_mv, s_ex, s_ite, s_ret, s_retn, s_appop, s_setw, s_retw, s_sets, sq_nil, sq_cons, es_nil, es_cons, ec_nil, ec_cons, bind_ok, ofO_some, boolR_bl, seqR_nx, seqR_rt, negR_int, cmp2R_t, cmp2R_f, mkR_some, fldR_ins, propR_ins, retwR_lst, setsR_lst, lstAt, lcF, bindP, bindPs, List.getD_cons_zero, List.getD_cons_succ, List.set_cons_zero, List.set_cons_succ, Option.map_some, Option.bind_some, if_true, if_false, Bool.false_eq_true, cmpD, eq_str, eq_int, in_chr, len_lst, len_tup, add_int, sub_int, int_int, int_bl, abs_int, newAt, isNewD, deref, partD, Option.bind_none, Option.map_none, Bool.not_true, Bool.not_false, ite_true, ite_false, reduceIte, Bool.and_true, Bool.true_and, fin_eq, ok_bind, ok_ok, finK_rt, finK_nx, ap_ok (show 5 ≠ 4 by decide) q1 (List.getElem?_eq_getElem hq) (show fs.length < bigN by unfold bigN; omega) (show ls.length ≤ bigN by unfold bigN; omega)]
    refine ⟨_, rfl, fs ++ [ls[q.toNat]], ls.eraseIdx q.toNat, _, rfl, by simp [e1], ?_, p2⟩
    refine List.Perm.trans ?_ e2
    rw [List.append_assoc]
    exact List.Perm.append_left fs (erase_perm hq)
  · rintro _ w1 ⟨_, rfl, fs, ls, x, rfl, e1, e2, p⟩
    rw [rng_len] at e1 p
    simp only [list_lst, list_tup, tuple_lst, tuple_tup, x_v, x_b, x_non, x_bl, x_int, x_str, x_g, x_tup, x_lst, x_dct, x_bin, x_neg, x_not, x_cmp, x_cmp2, x_and, x_or, x_ite, x_call, x_mk, x_fld, x_prop, x_idx, x_sli, x_bf, x_bm, x_isi, x_rpeq, x_tix, x_tin, x_tups, x_lsts, x_slen, x_sidx, s_set, s_seto, s_par, s_aug, s_app, s_ext, s_insr, s_seti, s_setf, s_mv, s_ex, s_ite, s_ret, s_retn, s_appop, s_setw, s_retw, s_sets, sq_nil, sq_cons, es_nil, es_cons, ec_nil, ec_cons, bind_ok, ofO_some, boolR_bl, seqR_nx, seqR_rt, negR_int, cmp2R_t, cmp2R_f, mkR_some, fldR_ins, propR_ins, retwR_lst, setsR_lst, lstAt, lcF, bindP, bindPs, List.getD_cons_zero, List.getD_cons_succ, List.set_cons_zero, List.set_cons_succ, Option.map_some, Option.bind_some, if_true, if_false, Bool.false_eq_true, cmpD, eq_str, eq_int, in_chr, len_lst, len_tup, add_int, sub_int, int_int, int_bl, abs_int, newAt, isNewD, deref, partD, Option.bind_none, Option.map_none, Bool.not_true, Bool.not_false, ite_true, ite_false, reduceIte, Bool.and_true, Bool.true_and, fin_eq, ok_bind, ok_ok, finK_rt, finK_nx]
    rw [Nat.zero_add] at e1 p
    exact ⟨⟨fs, ls, rfl, e1, e2⟩, p⟩
def W12 : List (List Nat) := [[104, 111, 115, 116], [115, 117, 98, 106, 101, 99, 116], [108, 105, 110, 107], [102, 105, 101, 108, 100, 115], [97], [98, 98], [116, 104, 114, 101, 97, 100], [116, 97, 107, 101], [122, 122, 122, 122, 122, 122, 122, 122], [112, 117, 116], [109, 97, 105, 108], [115, 116, 97, 114]]
theorem e_words : CC ns (n + 1) F_law_words [] w = .ok (.lst (W12.map .str)) w := rfl
theorem e_ordered {a b : Int} : CC ns (n + 1) F_law_ordered [.lst [.int a, .int b]] w = .ok (.lst (if a < b then [.int a, .int b] else if b < a then [.int b, .int a] else [.int a])) w := by
  obtain ⟨M, hM⟩ : ∃ M, whileMost = M + 10 := ⟨99990, rfl⟩
  rw [st_law_ordered, c_law_ordered]
  simp only [list_lst, list_tup, tuple_lst, tuple_tup, x_v, x_b, x_non, x_bl, x_int, x_str, x_g, x_tup, x_lst, x_dct, x_bin, x_neg, x_not, x_cmp, x_cmp2, x_and, x_or, x_ite, x_call, x_mk, x_fld, x_prop, x_idx, x_sli, x_bf, x_bm, x_isi, x_rpeq, x_tix, x_tin, x_tups, x_lsts, x_slen, x_sidx, s_set, s_seto, s_par, s_aug, s_app, s_ext, s_insr, s_seti, s_setf, s_mv, s_ex, s_ite, s_ret, s_retn, s_appop, s_setw, s_retw, s_sets, sq_nil, sq_cons, es_nil, es_cons, ec_nil, ec_cons, bind_ok, ofO_some, boolR_bl, fin_rt, fin_nx, seqR_nx, seqR_rt, negR_int, cmp2R_t, cmp2R_f, mkR_some, fldR_ins, propR_ins, retwR_lst, setsR_lst, lstAt, lcF, bindP, bindPs, List.getD_cons_zero, List.getD_cons_succ, List.set_cons_zero, List.set_cons_succ, Option.map_some, Option.bind_some, if_true, if_false, Bool.false_eq_true, cmpD, eq_str, eq_int, in_chr, len_lst, len_tup, add_int, sub_int, int_int, int_bl, abs_int, newAt, isNewD, deref, partD, Option.bind_none, Option.map_none, Bool.not_true, Bool.not_false, ite_true, ite_false, reduceIte, Bool.and_true, Bool.true_and, goF_cons, goF_nil, goFK_nx, goFK_rt, s_for, forF, iter_lst, iter_tup, goW_s, goWK_nx, s_whl, hM, List.length_nil, Int.natCast_zero, Int.cast_ofNat_Int, Int.lt_irrefl, decide_false, beq_self_eq_true, insr_ok (xs := []) (j := 0) ⟨by decide, by decide, by decide⟩, List.take_nil, List.drop_nil, List.nil_append, List.length_cons, Int.toNat_zero]
  have z : ixD 1 0 = some 0 := rfl
  have z1 : idxD w (.lst [.int a]) (.int 0) = some (.int a) := rfl
  simp only [Nat.zero_add, Int.natCast_one, Int.cast_ofNat_Int, show decide ((0 : Int) < 1) = true from rfl, list_lst, list_tup, tuple_lst, tuple_tup, x_v, x_b, x_non, x_bl, x_int, x_str, x_g, x_tup, x_lst, x_dct, x_bin, x_neg, x_not, x_cmp, x_cmp2, x_and, x_or, x_ite, x_call, x_mk, x_fld, x_prop, x_idx, x_sli, x_bf, x_bm, x_isi, x_rpeq, x_tix, x_tin, x_tups, x_lsts, x_slen, x_sidx, s_set, s_seto, s_par, s_aug, s_app, s_ext, s_insr, s_seti, s_setf, s_mv, s_ex, s_ite, s_ret, s_retn, s_appop, s_setw, s_retw, s_sets, sq_nil, sq_cons, es_nil, es_cons, ec_nil, ec_cons, bind_ok, ofO_some, boolR_bl, fin_rt, fin_nx, seqR_nx, seqR_rt, negR_int, cmp2R_t, cmp2R_f, mkR_some, fldR_ins, propR_ins, retwR_lst, setsR_lst, lstAt, lcF, bindP, bindPs, List.getD_cons_zero, List.getD_cons_succ, List.set_cons_zero, List.set_cons_succ, Option.map_some, Option.bind_some, if_true, if_false, Bool.false_eq_true, cmpD, eq_str, eq_int, in_chr, len_lst, len_tup, add_int, sub_int, int_int, int_bl, abs_int, newAt, isNewD, deref, partD, Option.bind_none, Option.map_none, Bool.not_true, Bool.not_false, ite_true, ite_false, reduceIte, Bool.and_true, Bool.true_and, z1]
  have hl : ((([D.int a].length : Nat)) : Int) = 1 := rfl
  by_cases h1 : a < b
  · simp only [decide_eq_true h1, if_pos h1, list_lst, list_tup, tuple_lst, tuple_tup, x_v, x_b, x_non, x_bl, x_int, x_str, x_g, x_tup, x_lst, x_dct, x_bin, x_neg, x_not, x_cmp, x_cmp2, x_and, x_or, x_ite, x_call, x_mk, x_fld, x_prop, x_idx, x_sli, x_bf, x_bm, x_isi, x_rpeq, x_tix, x_tin, x_tups, x_lsts, x_slen, x_sidx, s_set, s_seto, s_par, s_aug, s_app, s_ext, s_insr, s_seti, s_setf, s_mv, s_ex, s_ite, s_ret, s_retn, s_appop, s_setw, s_retw, s_sets, sq_nil, sq_cons, es_nil, es_cons, ec_nil, ec_cons, bind_ok, ofO_some, boolR_bl, fin_rt, fin_nx, seqR_nx, seqR_rt, negR_int, cmp2R_t, cmp2R_f, mkR_some, fldR_ins, propR_ins, retwR_lst, setsR_lst, lstAt, lcF, bindP, bindPs, List.getD_cons_zero, List.getD_cons_succ, List.set_cons_zero, List.set_cons_succ, Option.map_some, Option.bind_some, if_true, if_false, Bool.false_eq_true, cmpD, eq_str, eq_int, in_chr, len_lst, len_tup, add_int, sub_int, int_int, int_bl, abs_int, newAt, isNewD, deref, partD, Option.bind_none, Option.map_none, Bool.not_true, Bool.not_false, ite_true, ite_false, reduceIte, Bool.and_true, Bool.true_and, Int.zero_add, Int.lt_irrefl, decide_false, beq_self_eq_true, goF_cons, goF_nil, goFK_nx, goFK_rt, s_for, forF, iter_lst, iter_tup, goW_s, goWK_nx, insr_ok (xs := [D.int a]) (j := 1) ⟨by decide, Int.le_refl 1, show 1 < bigN by decide⟩, hl]
    rfl
  · by_cases h2 : b < a
    · simp only [decide_eq_false h1, if_neg h1, if_pos h2, list_lst, list_tup, tuple_lst, tuple_tup, x_v, x_b, x_non, x_bl, x_int, x_str, x_g, x_tup, x_lst, x_dct, x_bin, x_neg, x_not, x_cmp, x_cmp2, x_and, x_or, x_ite, x_call, x_mk, x_fld, x_prop, x_idx, x_sli, x_bf, x_bm, x_isi, x_rpeq, x_tix, x_tin, x_tups, x_lsts, x_slen, x_sidx, s_set, s_seto, s_par, s_aug, s_app, s_ext, s_insr, s_seti, s_setf, s_mv, s_ex, s_ite, s_ret, s_retn, s_appop, s_setw, s_retw, s_sets, sq_nil, sq_cons, es_nil, es_cons, ec_nil, ec_cons, bind_ok, ofO_some, boolR_bl, fin_rt, fin_nx, seqR_nx, seqR_rt, negR_int, cmp2R_t, cmp2R_f, mkR_some, fldR_ins, propR_ins, retwR_lst, setsR_lst, lstAt, lcF, bindP, bindPs, List.getD_cons_zero, List.getD_cons_succ, List.set_cons_zero, List.set_cons_succ, Option.map_some, Option.bind_some, if_true, if_false, Bool.false_eq_true, cmpD, eq_str, eq_int, in_chr, len_lst, len_tup, add_int, sub_int, int_int, int_bl, abs_int, newAt, isNewD, deref, partD, Option.bind_none, Option.map_none, Bool.not_true, Bool.not_false, ite_true, ite_false, reduceIte, Bool.and_true, Bool.true_and, goF_cons, goF_nil, goFK_nx, goFK_rt, s_for, forF, iter_lst, iter_tup, goW_s, goWK_nx, show ((0 : Int) == 1) = false from rfl, z1, beq_eq_false_iff_ne.mpr (show a ≠ b by omega), insr_ok (xs := [D.int a]) (j := 0) ⟨Int.le_refl 0, show (0 : Int) ≤ 1 by decide, show 1 < bigN by decide⟩, hl]
      rfl
    · obtain rfl : a = b := by omega
      simp only [decide_eq_false h1, if_neg h1, list_lst, list_tup, tuple_lst, tuple_tup, x_v, x_b, x_non, x_bl, x_int, x_str, x_g, x_tup, x_lst, x_dct, x_bin, x_neg, x_not, x_cmp, x_cmp2, x_and, x_or, x_ite, x_call, x_mk, x_fld, x_prop, x_idx, x_sli, x_bf, x_bm, x_isi, x_rpeq, x_tix, x_tin, x_tups, x_lsts, x_slen, x_sidx, s_set, s_seto, s_par, s_aug, s_app, s_ext, s_insr, s_seti, s_setf, s_mv, s_ex, s_ite, s_ret, s_retn, s_appop, s_setw, s_retw, s_sets, sq_nil, sq_cons, es_nil, es_cons, ec_nil, ec_cons, bind_ok, ofO_some, boolR_bl, fin_rt, fin_nx, seqR_nx, seqR_rt, negR_int, cmp2R_t, cmp2R_f, mkR_some, fldR_ins, propR_ins, retwR_lst, setsR_lst, lstAt, lcF, bindP, bindPs, List.getD_cons_zero, List.getD_cons_succ, List.set_cons_zero, List.set_cons_succ, Option.map_some, Option.bind_some, if_true, if_false, Bool.false_eq_true, cmpD, eq_str, eq_int, in_chr, len_lst, len_tup, add_int, sub_int, int_int, int_bl, abs_int, newAt, isNewD, deref, partD, Option.bind_none, Option.map_none, Bool.not_true, Bool.not_false, ite_true, ite_false, reduceIte, Bool.and_true, Bool.true_and, goF_cons, goF_nil, goFK_nx, goFK_rt, s_for, forF, iter_lst, iter_tup, goW_s, goWK_nx, show ((0 : Int) == 1) = false from rfl, z1, beq_self_eq_true, hl]
end
end MP.K01

set_option Elab.async false
set_option linter.all false
set_option maxRecDepth 100000
namespace MP.K01
open MP.C
section
variable {ns : List Int} {n : Nat} {w : Wd}
/-- a clause, as the law draws it -/
structure Cl where
  ps : List Int
  pair : Option (Int × Int)
  win : Option Int
def Cl.pD (c : Cl) : D := match c.pair with
  | none => .non
  | some (a, b) => .tup [.int a, .int b]
def Cl.wD (c : Cl) : D := match c.win with
  | none => .non
  | some v => .int v
def Cl.d (c : Cl) : D := .tup [.tup (c.ps.map .int), c.pD, c.wD]
structure Cl.Good (f k : Int) (c : Cl) : Prop where
  up : c.ps.Pairwise (· < ·)
  ps : ∀ p ∈ c.ps, 0 ≤ p ∧ p < f
  pair : ∀ a b, c.pair = some (a, b) → 0 ≤ a ∧ a ≤ b ∧ b < k
  win : ∀ v, c.win = some v → 0 ≤ v ∧ v ≤ 4
theorem e_places {i N : Nat} {f : Int} (h : Pot i N w) (h1 : 0 ≤ f) (h2 : f ≤ 3) (hN : N + 1000 < 1125899906842624) {x : D} {C : En} (hC : C.length = 4) : Ok (ev (TT ns) (CC ns (n + 1)) (.lc (.n 5) (.bf .rng [.int 0, .v 1]) [.cmp .eq (.call F_law_take [.v 0, .int 2]) (.int 0)] (.v 5)) (some (.obj i) :: some (.int f) :: C) w) fun r w' => (∃ ps : List Int, r = .lst (ps.map .int) ∧ ps.Pairwise (· < ·) ∧ ∀ p ∈ ps, 0 ≤ p ∧ p < f) ∧ Pot i (N + 3) w' := by
  obtain ⟨c0, c1, c2, c3, rfl⟩ : ∃ a b c d, C = [a, b, c, d] := by
    match C, hC with
    | [a, b, c, d], _ => exact ⟨a, b, c, d, rfl⟩
  rw [x_lc]
  simp only [list_lst, list_tup, tuple_lst, tuple_tup, x_v, x_b, x_non, x_bl, x_int, x_str, x_g, x_tup, x_lst, x_dct, x_bin, x_neg, x_not, x_cmp, x_cmp2, x_and, x_or, x_ite, x_call, x_mk, x_fld, x_prop, x_idx, x_sli, x_bf, x_bm, x_isi, x_rpeq, x_tix, x_tin, x_tups, x_lsts, x_slen, x_sidx, s_set, s_seto, s_par, s_aug, s_app, s_ext, s_insr, s_seti, s_setf, s_mv, s_ex, s_ite, s_ret, s_retn, s_appop, s_setw, s_retw, s_sets, sq_nil, sq_cons, es_nil, es_cons, ec_nil, ec_cons, bind_ok, ofO_some, boolR_bl, seqR_nx, seqR_rt, negR_int, cmp2R_t, cmp2R_f, mkR_some, fldR_ins, propR_ins, retwR_lst, setsR_lst, lstAt, lcF, bindP, bindPs, List.getD_cons_zero, List.getD_cons_succ, List.set_cons_zero, List.set_cons_succ, Option.map_some, Option.bind_some, if_true, if_false, Bool.false_eq_true, cmpD, eq_str, eq_int, in_chr, len_lst, len_tup, add_int, sub_int, int_int, int_bl, abs_int, newAt, isNewD, deref, partD, Option.bind_none, Option.map_none, Bool.not_true, Bool.not_false, ite_true, ite_false, reduceIte, Bool.and_true, Bool.true_and, fin_eq, ok_bind, ok_ok, finK_rt, finK_nx, rng_int h1 (show f < 16777216 by omega), iter_lst]
  refine (goL_acc (J := fun k acc w => Pot i (N + k) w ∧ ∃ ps : List Int, acc = ps.map .int ∧ ps.Pairwise (· < ·) ∧ ∀ p ∈ ps, 0 ≤ p ∧ p < k) (rngL 0 f) 0 [] w ⟨h, [], rfl, .nil, by simp⟩ ?_).mono ?_
  · rintro k d acc w1 - hd ⟨p, ps, rfl, u, b⟩
    obtain ⟨rfl, hk⟩ := rng_get hd
    simp only [list_lst, list_tup, tuple_lst, tuple_tup, x_v, x_b, x_non, x_bl, x_int, x_str, x_g, x_tup, x_lst, x_dct, x_bin, x_neg, x_not, x_cmp, x_cmp2, x_and, x_or, x_ite, x_call, x_mk, x_fld, x_prop, x_idx, x_sli, x_bf, x_bm, x_isi, x_rpeq, x_tix, x_tin, x_tups, x_lsts, x_slen, x_sidx, s_set, s_seto, s_par, s_aug, s_app, s_ext, s_insr, s_seti, s_setf, s_mv, s_ex, s_ite, s_ret, s_retn, s_appop, s_setw, s_retw, s_sets, sq_nil, sq_cons, es_nil, es_cons, ec_nil, ec_cons, bind_ok, ofO_some, boolR_bl, seqR_nx, seqR_rt, negR_int, cmp2R_t, cmp2R_f, mkR_some, fldR_ins, propR_ins, retwR_lst, setsR_lst, lstAt, lcF, bindP, bindPs, List.getD_cons_zero, List.getD_cons_succ, List.set_cons_zero, List.set_cons_succ, Option.map_some, Option.bind_some, if_true, if_false, Bool.false_eq_true, cmpD, eq_str, eq_int, in_chr, len_lst, len_tup, add_int, sub_int, int_int, int_bl, abs_int, newAt, isNewD, deref, partD, Option.bind_none, Option.map_none, Bool.not_true, Bool.not_false, ite_true, ite_false, reduceIte, Bool.and_true, Bool.true_and, fin_eq, ok_bind, ok_ok, finK_rt, finK_nx]
    refine (e_take p 2 (by decide) (by decide) (by omega)).mono ?_
    rintro _ w2 ⟨q, rfl, q1, q2, p2⟩
    by_cases hq : q = 0
    · subst hq
      simp only [list_lst, list_tup, tuple_lst, tuple_tup, x_v, x_b, x_non, x_bl, x_int, x_str, x_g, x_tup, x_lst, x_dct, x_bin, x_neg, x_not, x_cmp, x_cmp2, x_and, x_or, x_ite, x_call, x_mk, x_fld, x_prop, x_idx, x_sli, x_bf, x_bm, x_isi, x_rpeq, x_tix, x_tin, x_tups, x_lsts, x_slen, x_sidx, s_set, s_seto, s_par, s_aug, s_app, s_ext, s_insr, s_seti, s_setf, s_mv, s_ex, s_ite, s_ret, s_retn, s_appop, s_setw, s_retw, s_sets, sq_nil, sq_cons, es_nil, es_cons, ec_nil, ec_cons, bind_ok, ofO_some, boolR_bl, seqR_nx, seqR_rt, negR_int, cmp2R_t, cmp2R_f, mkR_some, fldR_ins, propR_ins, retwR_lst, setsR_lst, lstAt, lcF, bindP, bindPs, List.getD_cons_zero, List.getD_cons_succ, List.set_cons_zero, List.set_cons_succ, Option.map_some, Option.bind_some, if_true, if_false, Bool.false_eq_true, cmpD, eq_str, eq_int, in_chr, len_lst, len_tup, add_int, sub_int, int_int, int_bl, abs_int, newAt, isNewD, deref, partD, Option.bind_none, Option.map_none, Bool.not_true, Bool.not_false, ite_true, ite_false, reduceIte, Bool.and_true, Bool.true_and, fin_eq, ok_bind, ok_ok, finK_rt, finK_nx, beq_self_eq_true]
      refine ⟨p2, ps ++ [(k : Int)], by simp, ?_, ?_⟩
      · rw [List.pairwise_append]
        exact ⟨u, List.pairwise_singleton _ _, fun a ha c hc => by rw [List.mem_singleton.mp hc]; exact (b a ha).2⟩
      · intro x hx
        rcases List.mem_append.mp hx with hx | hx
        · have := b x hx; omega
        · rw [List.mem_singleton.mp hx]; omega
    · simp only [list_lst, list_tup, tuple_lst, tuple_tup, x_v, x_b, x_non, x_bl, x_int, x_str, x_g, x_tup, x_lst, x_dct, x_bin, x_neg, x_not, x_cmp, x_cmp2, x_and, x_or, x_ite, x_call, x_mk, x_fld, x_prop, x_idx, x_sli, x_bf, x_bm, x_isi, x_rpeq, x_tix, x_tin, x_tups, x_lsts, x_slen, x_sidx, s_set, s_seto, s_par, s_aug, s_app, s_ext, s_insr, s_seti, s_setf, s_mv, s_ex, s_ite, s_ret, s_retn, s_appop, s_setw, s_retw, s_sets, sq_nil, sq_cons, es_nil, es_cons, ec_nil, ec_cons, bind_ok, ofO_some, boolR_bl, seqR_nx, seqR_rt, negR_int, cmp2R_t, cmp2R_f, mkR_some, fldR_ins, propR_ins, retwR_lst, setsR_lst, lstAt, lcF, bindP, bindPs, List.getD_cons_zero, List.getD_cons_succ, List.set_cons_zero, List.set_cons_succ, Option.map_some, Option.bind_some, if_true, if_false, Bool.false_eq_true, cmpD, eq_str, eq_int, in_chr, len_lst, len_tup, add_int, sub_int, int_int, int_bl, abs_int, newAt, isNewD, deref, partD, Option.bind_none, Option.map_none, Bool.not_true, Bool.not_false, ite_true, ite_false, reduceIte, Bool.and_true, Bool.true_and, fin_eq, ok_bind, ok_ok, finK_rt, finK_nx, beq_eq_false_iff_ne.mpr hq]
      refine ⟨p2, ps, by simp, u, fun x hx => by have := b x hx; omega⟩
  · rintro xs w1 ⟨p, ps, e, u, b⟩
    rw [rng_len, Nat.zero_add] at p b
    rw [List.nil_append] at e
    subst e
    exact ⟨⟨ps, rfl, u, fun x hx => by have := b x hx; omega⟩, p.le (by omega)⟩
theorem sli_two {w : Wd} {xs : List D} : sliD w (.tup xs) (some none) (some (some 2)) = some (.tup (xs.take 2)) := by
  show some (D.tup ((xs.drop 0).take (clampI xs.length 2 - 0))) = _
  unfold clampI
  rw [if_pos (by decide), List.drop_zero, Nat.sub_zero]
  congr 2
  rw [show Int.toNat 2 = 2 from rfl]
  by_cases h : 2 ≤ xs.length
  · rw [Nat.min_eq_left h]
  · rw [Nat.min_eq_right (by omega), List.take_of_length_le (Nat.le_refl _), List.take_of_length_le (by omega)]
theorem e_clause {i N : Nat} {f k : Int} (h : Pot i N w) (h1 : 0 ≤ f) (h2 : f ≤ 3) (k1 : 0 < k) (k2 : k ≤ 3) (hN : N + 1000 < 1125899906842624) : Ok (CC ns (n + 3) F_law_clause [.obj i, .int f, .int k] w) fun r w' => (∃ c : Cl, r = c.d ∧ c.Good f k) ∧ Pot i (N + 10) w' := by
  rw [st_law_clause, c_law_clause]
  simp only [list_lst, list_tup, tuple_lst, tuple_tup, x_v, x_b, x_non, x_bl, x_int, x_str, x_g, x_tup, x_lst, x_dct, x_bin, x_neg, x_not, x_cmp, x_cmp2, x_and, x_or, x_ite, x_call, x_mk, x_fld, x_prop, x_idx, x_sli, x_bf, x_bm, x_isi, x_rpeq, x_tix, x_tin, x_tups, x_lsts, x_slen, x_sidx, s_set, s_seto, s_par, s_aug, s_app, s_ext, s_insr, s_seti, s_setf, s_mv, s_ex, s_ite, s_ret, s_retn, s_appop, s_setw, s_retw, s_sets, sq_nil, sq_cons, es_nil, es_cons, ec_nil, ec_cons, bind_ok, ofO_some, boolR_bl, seqR_nx, seqR_rt, negR_int, cmp2R_t, cmp2R_f, mkR_some, fldR_ins, propR_ins, retwR_lst, setsR_lst, lstAt, lcF, bindP, bindPs, List.getD_cons_zero, List.getD_cons_succ, List.set_cons_zero, List.set_cons_succ, Option.map_some, Option.bind_some, if_true, if_false, Bool.false_eq_true, cmpD, eq_str, eq_int, in_chr, len_lst, len_tup, add_int, sub_int, int_int, int_bl, abs_int, newAt, isNewD, deref, partD, Option.bind_none, Option.map_none, Bool.not_true, Bool.not_false, ite_true, ite_false, reduceIte, Bool.and_true, Bool.true_and, fin_eq, ok_bind, ok_ok, finK_rt, finK_nx]
  refine (e_places (n := n + 1) (C := [some (.int k), none, none, none]) h h1 h2 hN (x := .non) rfl).mono ?_
  rintro _ w1 ⟨⟨ps, rfl, u, b⟩, p⟩
  simp only [list_lst, list_tup, tuple_lst, tuple_tup, x_v, x_b, x_non, x_bl, x_int, x_str, x_g, x_tup, x_lst, x_dct, x_bin, x_neg, x_not, x_cmp, x_cmp2, x_and, x_or, x_ite, x_call, x_mk, x_fld, x_prop, x_idx, x_sli, x_bf, x_bm, x_isi, x_rpeq, x_tix, x_tin, x_tups, x_lsts, x_slen, x_sidx, s_set, s_seto, s_par, s_aug, s_app, s_ext, s_insr, s_seti, s_setf, s_mv, s_ex, s_ite, s_ret, s_retn, s_appop, s_setw, s_retw, s_sets, sq_nil, sq_cons, es_nil, es_cons, ec_nil, ec_cons, bind_ok, ofO_some, boolR_bl, seqR_nx, seqR_rt, negR_int, cmp2R_t, cmp2R_f, mkR_some, fldR_ins, propR_ins, retwR_lst, setsR_lst, lstAt, lcF, bindP, bindPs, List.getD_cons_zero, List.getD_cons_succ, List.set_cons_zero, List.set_cons_succ, Option.map_some, Option.bind_some, if_true, if_false, Bool.false_eq_true, cmpD, eq_str, eq_int, in_chr, len_lst, len_tup, add_int, sub_int, int_int, int_bl, abs_int, newAt, isNewD, deref, partD, Option.bind_none, Option.map_none, Bool.not_true, Bool.not_false, ite_true, ite_false, reduceIte, Bool.and_true, Bool.true_and, fin_eq, ok_bind, ok_ok, finK_rt, finK_nx]
  refine (e_take p k k1 (by omega) (by omega)).mono ?_
  rintro _ w2 ⟨x, rfl, x1, x2, p⟩
  refine (e_take p k k1 (by omega) (by omega)).mono ?_
  rintro _ w3 ⟨y, rfl, y1, y2, p⟩
  simp only [list_lst, list_tup, tuple_lst, tuple_tup, x_v, x_b, x_non, x_bl, x_int, x_str, x_g, x_tup, x_lst, x_dct, x_bin, x_neg, x_not, x_cmp, x_cmp2, x_and, x_or, x_ite, x_call, x_mk, x_fld, x_prop, x_idx, x_sli, x_bf, x_bm, x_isi, x_rpeq, x_tix, x_tin, x_tups, x_lsts, x_slen, x_sidx, s_set, s_seto, s_par, s_aug, s_app, s_ext, s_insr, s_seti, s_setf, s_mv, s_ex, s_ite, s_ret, s_retn, s_appop, s_setw, s_retw, s_sets, sq_nil, sq_cons, es_nil, es_cons, ec_nil, ec_cons, bind_ok, ofO_some, boolR_bl, seqR_nx, seqR_rt, negR_int, cmp2R_t, cmp2R_f, mkR_some, fldR_ins, propR_ins, retwR_lst, setsR_lst, lstAt, lcF, bindP, bindPs, List.getD_cons_zero, List.getD_cons_succ, List.set_cons_zero, List.set_cons_succ, Option.map_some, Option.bind_some, if_true, if_false, Bool.false_eq_true, cmpD, eq_str, eq_int, in_chr, len_lst, len_tup, add_int, sub_int, int_int, int_bl, abs_int, newAt, isNewD, deref, partD, Option.bind_none, Option.map_none, Bool.not_true, Bool.not_false, ite_true, ite_false, reduceIte, Bool.and_true, Bool.true_and, fin_eq, ok_bind, ok_ok, finK_rt, finK_nx, add_lst (a := [D.int x]) (b := [D.int y]) (show 2 ≤ 16777216 by decide), List.cons_append, List.nil_append, e_ordered]
  obtain ⟨lo, hi, l0, l1, l2, lL, L, hL, eL⟩ : ∃ lo hi : Int, 0 ≤ lo ∧ lo ≤ hi ∧ hi < k ∧ ∃ (_ : True) (L : List D), L.length ≤ 2 ∧ (if x < y then [D.int x, .int y] else if y < x then [D.int y, .int x] else [D.int x]) = L ∧ (L ++ L).take 2 = [.int lo, .int hi] := by
    by_cases g1 : x < y
    · exact ⟨x, y, x1, by omega, y2, trivial, [.int x, .int y], Nat.le_refl 2, if_pos g1, rfl⟩
    · by_cases g2 : y < x
      · exact ⟨y, x, y1, by omega, x2, trivial, [.int y, .int x], Nat.le_refl 2, by rw [if_neg g1, if_pos g2], rfl⟩
      · exact ⟨x, x, x1, by omega, x2, trivial, [.int x], Nat.le_succ 1, by rw [if_neg g1, if_neg g2], rfl⟩
  rw [eL.1]
  refine (e_take p 2 (by decide) (by decide) (by omega)).mono ?_
  rintro _ w4 ⟨q, rfl, q1, q2, p⟩
  have wins : ∀ (pr : Option (Int × Int)) (r : D) (w' : Wd), (∀ a b, pr = some (a, b) → 0 ≤ a ∧ a ≤ b ∧ b < k) → r ∈ [D.non, .non, .int 0, .int 1, .int 2, .int 3, .int 4] → ∃ c : Cl, D.tup [.tup (ps.map .int), (⟨[], pr, none⟩ : Cl).pD, r] = c.d ∧ c.Good f k := by
    intro pr r w' hp hr
    simp only [List.mem_cons, List.not_mem_nil, or_false] at hr
    rcases hr with rfl | rfl | rfl | rfl | rfl | rfl | rfl
    · exact ⟨⟨ps, pr, none⟩, rfl, u, b, hp, fun v hv => by cases hv⟩
    · exact ⟨⟨ps, pr, none⟩, rfl, u, b, hp, fun v hv => by cases hv⟩
    · exact ⟨⟨ps, pr, some 0⟩, rfl, u, b, hp, fun v hv => by cases hv; decide⟩
    · exact ⟨⟨ps, pr, some 1⟩, rfl, u, b, hp, fun v hv => by cases hv; decide⟩
    · exact ⟨⟨ps, pr, some 2⟩, rfl, u, b, hp, fun v hv => by cases hv; decide⟩
    · exact ⟨⟨ps, pr, some 3⟩, rfl, u, b, hp, fun v hv => by cases hv; decide⟩
    · exact ⟨⟨ps, pr, some 4⟩, rfl, u, b, hp, fun v hv => by cases hv; decide⟩
  by_cases hq : q = 0
  · subst hq
    simp only [list_lst, list_tup, tuple_lst, tuple_tup, x_v, x_b, x_non, x_bl, x_int, x_str, x_g, x_tup, x_lst, x_dct, x_bin, x_neg, x_not, x_cmp, x_cmp2, x_and, x_or, x_ite, x_call, x_mk, x_fld, x_prop, x_idx, x_sli, x_bf, x_bm, x_isi, x_rpeq, x_tix, x_tin, x_tups, x_lsts, x_slen, x_sidx, s_set, s_seto, s_par, s_aug, s_app, s_ext, s_insr, s_seti, s_setf, s_mv, s_ex, s_ite, s_ret, s_retn, s_appop, s_setw, s_retw, s_sets, sq_nil, sq_cons, es_nil, es_cons, ec_nil, ec_cons, bind_ok, ofO_some, boolR_bl, seqR_nx, seqR_rt, negR_int, cmp2R_t, cmp2R_f, mkR_some, fldR_ins, propR_ins, retwR_lst, setsR_lst, lstAt, lcF, bindP, bindPs, List.getD_cons_zero, List.getD_cons_succ, List.set_cons_zero, List.set_cons_succ, Option.map_some, Option.bind_some, if_true, if_false, Bool.false_eq_true, cmpD, eq_str, eq_int, in_chr, len_lst, len_tup, add_int, sub_int, int_int, int_bl, abs_int, newAt, isNewD, deref, partD, Option.bind_none, Option.map_none, Bool.not_true, Bool.not_false, ite_true, ite_false, reduceIte, Bool.and_true, Bool.true_and, fin_eq, ok_bind, ok_ok, finK_rt, finK_nx, beq_self_eq_true, add_tup (a := L) (b := L) (show L.length + L.length ≤ 16777216 by omega), sli_two, eL.2]
    refine (e_of p (List.cons_ne_nil _ _) (by decide) (by omega)).mono ?_
    rintro r w5 ⟨hr, p⟩
    exact ⟨wins (some (lo, hi)) r w5 (fun a b e => by cases e; exact ⟨l0, l1, l2⟩) hr, p.le (by omega)⟩
  · simp only [list_lst, list_tup, tuple_lst, tuple_tup, x_v, x_b, x_non, x_bl, x_int, x_str, x_g, x_tup, x_lst, x_dct, x_bin, x_neg, x_not, x_cmp, x_cmp2, x_and, x_or, x_ite, x_call, x_mk, x_fld, x_prop, x_idx, x_sli, x_bf, x_bm, x_isi, x_rpeq, x_tix, x_tin, x_tups, x_lsts, x_slen, x_sidx, s_set, s_seto, s_par, s_aug, s_app, s_ext, s_insr, s_seti, s_setf, s_mv, s_ex, s_ite, s_ret, s_retn, s_appop, s_setw, s_retw, s_sets, sq_nil, sq_cons, es_nil, es_cons, ec_nil, ec_cons, bind_ok, ofO_some, boolR_bl, seqR_nx, seqR_rt, negR_int, cmp2R_t, cmp2R_f, mkR_some, fldR_ins, propR_ins, retwR_lst, setsR_lst, lstAt, lcF, bindP, bindPs, List.getD_cons_zero, List.getD_cons_succ, List.set_cons_zero, List.set_cons_succ, Option.map_some, Option.bind_some, if_true, if_false, Bool.false_eq_true, cmpD, eq_str, eq_int, in_chr, len_lst, len_tup, add_int, sub_int, int_int, int_bl, abs_int, newAt, isNewD, deref, partD, Option.bind_none, Option.map_none, Bool.not_true, Bool.not_false, ite_true, ite_false, reduceIte, Bool.and_true, Bool.true_and, fin_eq, ok_bind, ok_ok, finK_rt, finK_nx, beq_eq_false_iff_ne.mpr hq]
    refine (e_of p (List.cons_ne_nil _ _) (by decide) (by omega)).mono ?_
    rintro r w5 ⟨hr, p⟩
    exact ⟨wins none r w5 (fun a b e => by cases e) hr, p.le (by omega)⟩
abbrev sF : List Nat := [102, 105, 101, 108, 100, 115]
abbrev sK : List Nat := [107, 105, 110, 100, 115]
abbrev sC : List Nat := [99, 108, 97, 117, 115, 101, 115]
/-- the lore: fields, kinds, clauses -/
structure Lo where
  fs : List (List Nat)
  ks : List (List Nat)
  cs : List Cl
def Lo.d (l : Lo) : D := .dct [.str sF, .str sK, .str sC] [.lst (l.fs.map .str), .lst (l.ks.map .str), .lst (l.cs.map Cl.d)]
structure Lo.Good (l : Lo) : Prop where
  f0 : 1 ≤ l.fs.length
  f3 : l.fs.length ≤ 3
  fn : l.fs.Nodup
  fw : ∀ x ∈ l.fs, x ∈ W12
  k0 : 1 ≤ l.ks.length
  k3 : l.ks.length ≤ 3
  kn : l.ks.Nodup
  kw : ∀ x ∈ l.ks, x ∈ W12
  c0 : 1 ≤ l.cs.length
  c4 : l.cs.length ≤ 4
  cg : ∀ c ∈ l.cs, c.Good l.fs.length l.ks.length
theorem some_words {fs ls : List D} (h : (fs ++ ls).Perm (W12.map .str)) : ∃ ss : List (List Nat), fs = ss.map .str ∧ ss.Nodup ∧ ∀ x ∈ ss, x ∈ W12 := by
  have hm : ∀ d ∈ fs, ∃ s, s ∈ W12 ∧ D.str s = d := fun d hd => by
    have := h.mem_iff.mp (List.mem_append_left ls hd)
    exact List.mem_map.mp this
  have hn : (fs ++ ls).Nodup := h.symm.nodup (by
    have : W12.Nodup := by decide
    exact List.Pairwise.map _ (fun a b hab e => hab (by cases e; rfl)) this)
  have hn2 : fs.Nodup := (List.nodup_append.mp hn).1
  clear h hn
  induction fs with
  | nil => exact ⟨[], rfl, .nil, by simp⟩
  | cons d fs ih =>
    obtain ⟨s, hs, rfl⟩ := hm d List.mem_cons_self
    have h2 := List.nodup_cons.mp hn2
    obtain ⟨ss, rfl, n, b⟩ := ih (fun d hd => hm d (List.mem_cons_of_mem _ hd)) h2.2
    refine ⟨s :: ss, rfl, List.nodup_cons.mpr ⟨fun hm => h2.1 (List.mem_map.mpr ⟨s, hm, rfl⟩), n⟩, fun x hx => ?_⟩
    rcases List.mem_cons.mp hx with rfl | hx
    · exact hs
    · exact b x hx
theorem e_lore {i N : Nat} {f k c : Int} (h : Pot i N w) (h1 : 0 < f) (h2 : f ≤ 3) (k1 : 0 < k) (k2 : k ≤ 3) (c1 : 0 < c) (c2 : c ≤ 4) (hN : N + 10000 < 1125899906842624) : Ok (CC ns (n + 4) F_law_lore [.obj i, .int f, .int k, .int c] w) fun r w' => (∃ l : Lo, r = l.d ∧ l.Good) ∧ Pot i (N + 60) w' := by
  rw [st_law_lore, c_law_lore]
  simp only [list_lst, list_tup, tuple_lst, tuple_tup, x_v, x_b, x_non, x_bl, x_int, x_str, x_g, x_tup, x_lst, x_dct, x_bin, x_neg, x_not, x_cmp, x_cmp2, x_and, x_or, x_ite, x_call, x_mk, x_fld, x_prop, x_idx, x_sli, x_bf, x_bm, x_isi, x_rpeq, x_tix, x_tin, x_tups, x_lsts, x_slen, x_sidx, s_set, s_seto, s_par, s_aug, s_app, s_ext, s_insr, s_seti, s_setf, s_mv, s_ex, s_ite, s_ret, s_retn, s_appop, s_setw, s_retw, s_sets, sq_nil, sq_cons, es_nil, es_cons, ec_nil, ec_cons, bind_ok, ofO_some, boolR_bl, seqR_nx, seqR_rt, negR_int, cmp2R_t, cmp2R_f, mkR_some, fldR_ins, propR_ins, retwR_lst, setsR_lst, lstAt, lcF, bindP, bindPs, List.getD_cons_zero, List.getD_cons_succ, List.set_cons_zero, List.set_cons_succ, Option.map_some, Option.bind_some, if_true, if_false, Bool.false_eq_true, cmpD, eq_str, eq_int, in_chr, len_lst, len_tup, add_int, sub_int, int_int, int_bl, abs_int, newAt, isNewD, deref, partD, Option.bind_none, Option.map_none, Bool.not_true, Bool.not_false, ite_true, ite_false, reduceIte, Bool.and_true, Bool.true_and, fin_eq, ok_bind, ok_ok, finK_rt, finK_nx]
  refine (e_take h f h1 (by omega) (by omega)).mono ?_
  rintro _ w1 ⟨x, rfl, x1, x2, p⟩
  simp only [list_lst, list_tup, tuple_lst, tuple_tup, x_v, x_b, x_non, x_bl, x_int, x_str, x_g, x_tup, x_lst, x_dct, x_bin, x_neg, x_not, x_cmp, x_cmp2, x_and, x_or, x_ite, x_call, x_mk, x_fld, x_prop, x_idx, x_sli, x_bf, x_bm, x_isi, x_rpeq, x_tix, x_tin, x_tups, x_lsts, x_slen, x_sidx, s_set, s_seto, s_par, s_aug, s_app, s_ext, s_insr, s_seti, s_setf, s_mv, s_ex, s_ite, s_ret, s_retn, s_appop, s_setw, s_retw, s_sets, sq_nil, sq_cons, es_nil, es_cons, ec_nil, ec_cons, bind_ok, ofO_some, boolR_bl, seqR_nx, seqR_rt, negR_int, cmp2R_t, cmp2R_f, mkR_some, fldR_ins, propR_ins, retwR_lst, setsR_lst, lstAt, lcF, bindP, bindPs, List.getD_cons_zero, List.getD_cons_succ, List.set_cons_zero, List.set_cons_succ, Option.map_some, Option.bind_some, if_true, if_false, Bool.false_eq_true, cmpD, eq_str, eq_int, in_chr, len_lst, len_tup, add_int, sub_int, int_int, int_bl, abs_int, newAt, isNewD, deref, partD, Option.bind_none, Option.map_none, Bool.not_true, Bool.not_false, ite_true, ite_false, reduceIte, Bool.and_true, Bool.true_and, fin_eq, ok_bind, ok_ok, finK_rt, finK_nx]
  refine (e_take p k k1 (by omega) (by omega)).mono ?_
  rintro _ w2 ⟨y, rfl, y1, y2, p⟩
  simp only [list_lst, list_tup, tuple_lst, tuple_tup, x_v, x_b, x_non, x_bl, x_int, x_str, x_g, x_tup, x_lst, x_dct, x_bin, x_neg, x_not, x_cmp, x_cmp2, x_and, x_or, x_ite, x_call, x_mk, x_fld, x_prop, x_idx, x_sli, x_bf, x_bm, x_isi, x_rpeq, x_tix, x_tin, x_tups, x_lsts, x_slen, x_sidx, s_set, s_seto, s_par, s_aug, s_app, s_ext, s_insr, s_seti, s_setf, s_mv, s_ex, s_ite, s_ret, s_retn, s_appop, s_setw, s_retw, s_sets, sq_nil, sq_cons, es_nil, es_cons, ec_nil, ec_cons, bind_ok, ofO_some, boolR_bl, seqR_nx, seqR_rt, negR_int, cmp2R_t, cmp2R_f, mkR_some, fldR_ins, propR_ins, retwR_lst, setsR_lst, lstAt, lcF, bindP, bindPs, List.getD_cons_zero, List.getD_cons_succ, List.set_cons_zero, List.set_cons_succ, Option.map_some, Option.bind_some, if_true, if_false, Bool.false_eq_true, cmpD, eq_str, eq_int, in_chr, len_lst, len_tup, add_int, sub_int, int_int, int_bl, abs_int, newAt, isNewD, deref, partD, Option.bind_none, Option.map_none, Bool.not_true, Bool.not_false, ite_true, ite_false, reduceIte, Bool.and_true, Bool.true_and, fin_eq, ok_bind, ok_ok, finK_rt, finK_nx, e_words]
  refine (e_some p (m := 1 + x) (by omega) (by show 1 + x ≤ 12; omega) (by decide) (by omega)).mono ?_
  rintro _ w3 ⟨⟨fs, ls, rfl, f1, f2⟩, p⟩
  refine (e_some p (m := 1 + y) (by omega) (by show 1 + y ≤ 12; omega) (by decide) (by omega)).mono ?_
  rintro _ w4 ⟨⟨gs, ms, rfl, g1, g2⟩, p⟩
  rw [x_lc]
  simp only [list_lst, list_tup, tuple_lst, tuple_tup, x_v, x_b, x_non, x_bl, x_int, x_str, x_g, x_tup, x_lst, x_dct, x_bin, x_neg, x_not, x_cmp, x_cmp2, x_and, x_or, x_ite, x_call, x_mk, x_fld, x_prop, x_idx, x_sli, x_bf, x_bm, x_isi, x_rpeq, x_tix, x_tin, x_tups, x_lsts, x_slen, x_sidx, s_set, s_seto, s_par, s_aug, s_app, s_ext, s_insr, s_seti, s_setf, s_mv, s_ex, s_ite, s_ret, s_retn, s_appop, s_setw, s_retw, s_sets, sq_nil, sq_cons, es_nil, es_cons, ec_nil, ec_cons, bind_ok, ofO_some, boolR_bl, seqR_nx, seqR_rt, negR_int, cmp2R_t, cmp2R_f, mkR_some, fldR_ins, propR_ins, retwR_lst, setsR_lst, lstAt, lcF, bindP, bindPs, List.getD_cons_zero, List.getD_cons_succ, List.set_cons_zero, List.set_cons_succ, Option.map_some, Option.bind_some, if_true, if_false, Bool.false_eq_true, cmpD, eq_str, eq_int, in_chr, len_lst, len_tup, add_int, sub_int, int_int, int_bl, abs_int, newAt, isNewD, deref, partD, Option.bind_none, Option.map_none, Bool.not_true, Bool.not_false, ite_true, ite_false, reduceIte, Bool.and_true, Bool.true_and, fin_eq, ok_bind, ok_ok, finK_rt, finK_nx]
  refine (e_take p c c1 (by omega) (by omega)).mono ?_
  rintro _ w5 ⟨z, rfl, z1, z2, p⟩
  simp only [list_lst, list_tup, tuple_lst, tuple_tup, x_v, x_b, x_non, x_bl, x_int, x_str, x_g, x_tup, x_lst, x_dct, x_bin, x_neg, x_not, x_cmp, x_cmp2, x_and, x_or, x_ite, x_call, x_mk, x_fld, x_prop, x_idx, x_sli, x_bf, x_bm, x_isi, x_rpeq, x_tix, x_tin, x_tups, x_lsts, x_slen, x_sidx, s_set, s_seto, s_par, s_aug, s_app, s_ext, s_insr, s_seti, s_setf, s_mv, s_ex, s_ite, s_ret, s_retn, s_appop, s_setw, s_retw, s_sets, sq_nil, sq_cons, es_nil, es_cons, ec_nil, ec_cons, bind_ok, ofO_some, boolR_bl, seqR_nx, seqR_rt, negR_int, cmp2R_t, cmp2R_f, mkR_some, fldR_ins, propR_ins, retwR_lst, setsR_lst, lstAt, lcF, bindP, bindPs, List.getD_cons_zero, List.getD_cons_succ, List.set_cons_zero, List.set_cons_succ, Option.map_some, Option.bind_some, if_true, if_false, Bool.false_eq_true, cmpD, eq_str, eq_int, in_chr, len_lst, len_tup, add_int, sub_int, int_int, int_bl, abs_int, newAt, isNewD, deref, partD, Option.bind_none, Option.map_none, Bool.not_true, Bool.not_false, ite_true, ite_false, reduceIte, Bool.and_true, Bool.true_and, fin_eq, ok_bind, ok_ok, finK_rt, finK_nx, rng_int (show 0 ≤ 1 + z by omega) (show 1 + z < 16777216 by omega), iter_lst]
  refine (goL_acc (J := fun q acc w => Pot i (N + 10 + 10 * q) w ∧ ∃ cs : List Cl, acc = cs.map Cl.d ∧ cs.length = q ∧ ∀ c ∈ cs, c.Good (1 + x) (1 + y)) (rngL 0 (1 + z)) 0 [] w5 ⟨p.le (by omega), [], rfl, rfl, by simp⟩ ?_).mono ?_
  · rintro q d acc w6 - hd ⟨p, cs, rfl, e1, e2⟩
    obtain ⟨rfl, hk⟩ := rng_get hd
    simp only [list_lst, list_tup, tuple_lst, tuple_tup, x_v, x_b, x_non, x_bl, x_int, x_str, x_g, x_tup, x_lst, x_dct, x_bin, x_neg, x_not, x_cmp, x_cmp2, x_and, x_or, x_ite, x_call, x_mk, x_fld, x_prop, x_idx, x_sli, x_bf, x_bm, x_isi, x_rpeq, x_tix, x_tin, x_tups, x_lsts, x_slen, x_sidx, s_set, s_seto, s_par, s_aug, s_app, s_ext, s_insr, s_seti, s_setf, s_mv, s_ex, s_ite, s_ret, s_retn, s_appop, s_setw, s_retw, s_sets, sq_nil, sq_cons, es_nil, es_cons, ec_nil, ec_cons, bind_ok, ofO_some, boolR_bl, seqR_nx, seqR_rt, negR_int, cmp2R_t, cmp2R_f, mkR_some, fldR_ins, propR_ins, retwR_lst, setsR_lst, lstAt, lcF, bindP, bindPs, List.getD_cons_zero, List.getD_cons_succ, List.set_cons_zero, List.set_cons_succ, Option.map_some, Option.bind_some, if_true, if_false, Bool.false_eq_true, cmpD, eq_str, eq_int, in_chr, len_lst, len_tup, add_int, sub_int, int_int, int_bl, abs_int, newAt, isNewD, deref, partD, Option.bind_none, Option.map_none, Bool.not_true, Bool.not_false, ite_true, ite_false, reduceIte, Bool.and_true, Bool.true_and, fin_eq, ok_bind, ok_ok, finK_rt, finK_nx]
    refine (e_clause p (by omega) (by omega) (by omega) (by omega) (by omega)).mono ?_
    rintro _ w7 ⟨⟨c, rfl, cg⟩, p⟩
    refine ⟨p.le (by omega), cs ++ [c], by simp, by simp [e1], fun x hx => ?_⟩
    rcases List.mem_append.mp hx with hx | hx
    · exact e2 x hx
    · rw [List.mem_singleton.mp hx]; exact cg
  · rintro xs w6 ⟨p, cs, e, e1, e2⟩
    rw [List.nil_append] at e
    subst e
    rw [rng_len, Nat.zero_add] at e1 p
    obtain ⟨ss, rfl, s1, s2⟩ := some_words f2
    obtain ⟨ts, rfl, t1, t2⟩ := some_words g2
    rw [List.length_map] at f1 g1
    refine ⟨⟨⟨ss, ts, cs⟩, rfl, show 1 ≤ ss.length by omega, show ss.length ≤ 3 by omega, s1, s2, show 1 ≤ ts.length by omega, show ts.length ≤ 3 by omega, t1, t2, show 1 ≤ cs.length by omega, show cs.length ≤ 4 by omega, fun c hc => ?_⟩, p.le (by omega)⟩
    show c.Good ((ss.length : Nat) : Int) ((ts.length : Nat) : Int)
    have := e2 c hc
    rw [show ((ss.length : Nat) : Int) = 1 + x by omega, show ((ts.length : Nat) : Int) = 1 + y by omega]
    exact this
end
end MP.K01

set_option Elab.async false
set_option linter.all false
set_option maxRecDepth 100000
namespace MP.K01
open MP.C
section
variable {ns : List Int} {n : Nat} {w : Wd}
abbrev sL : List Nat := [108, 105, 110, 107]
abbrev sS : List Nat := [115, 97, 109, 101]
abbrev sW : List Nat := [119, 105, 116, 104, 105, 110]
def Cl.same (l : Lo) (c : Cl) : List (List Nat) := c.ps.map fun p => l.fs.getD p.toNat []
def Cl.w1 (l : Lo) (c : Cl) : List (List Nat) := if c.ps = [] then [] else sS :: c.same l
def Cl.w2 (l : Lo) (c : Cl) : List (List Nat) := match c.pair with
  | none => []
  | some (a, b) => [sK, l.ks.getD a.toNat [], l.ks.getD b.toNat []]
def Cl.w3 (c : Cl) : List (List Nat) := match c.win with
  | none => []
  | some v => [sW, strI v]
def Cl.words (l : Lo) (c : Cl) : List (List Nat) := sL :: (c.w1 l ++ c.w2 l ++ c.w3)
theorem getD_mem {xs : List (List Nat)} {p : Int} (h : 0 ≤ p ∧ p < xs.length) : xs[p.toNat]? = some (xs.getD p.toNat []) := by
  have h' : p.toNat < xs.length := by omega
  rw [List.getD_eq_getElem?_getD, List.getElem?_eq_getElem h']; rfl
theorem mem_getD {xs : List (List Nat)} {p : Int} (h : 0 ≤ p ∧ p < xs.length) : xs.getD p.toNat [] ∈ xs := List.mem_of_getElem? (getD_mem h)
theorem idx_fs {l : Lo} : idxD w l.d (.str [102, 105, 101, 108, 100, 115]) = some (.lst (l.fs.map .str)) := rfl
theorem idx_ks {l : Lo} : idxD w l.d (.str [107, 105, 110, 100, 115]) = some (.lst (l.ks.map .str)) := rfl
theorem idx_cs {l : Lo} : idxD w l.d (.str [99, 108, 97, 117, 115, 101, 115]) = some (.lst (l.cs.map Cl.d)) := rfl
/-- the words of a rule's line are short and without blanks -/
def Wd_ (x : List Nat) : Prop := x.length ≤ 21 ∧ 32 ∉ x ∧ 10 ∉ x
theorem w12_ok : ∀ x ∈ W12, Wd_ x := by
  have : ∀ x ∈ W12, x.length ≤ 8 ∧ 32 ∉ x ∧ 10 ∉ x := by decide
  intro x hx
  obtain ⟨h1, h2⟩ := this x hx
  exact ⟨by omega, h2⟩
theorem int_ok {v : Int} (h : v.natAbs < 100000) : Wd_ (strI v) := by
  refine ⟨C.strI_len v (by omega), fun hm => ?_, fun hm => ?_⟩
  · rcases strI_sign v _ hm with h | h <;> omega
  · rcases strI_sign v _ hm with h | h <;> omega
theorem lit_ok {x : List Nat} (h : x.length ≤ 21 ∧ 32 ∉ x ∧ 10 ∉ x) : Wd_ x := h
theorem Cl.words_ok {l : Lo} (g : l.Good) {c : Cl} (cg : c.Good l.fs.length l.ks.length) : (∀ x ∈ c.words l, Wd_ x) ∧ (c.words l).length ≤ 10 := by
  have hlen := asc_len (f := l.fs.length) (lo := 0) cg.up cg.ps
  have f3 := g.f3
  have hs : ∀ x ∈ c.same l, Wd_ x := by
    intro x hx
    obtain ⟨p, hp, rfl⟩ := List.mem_map.mp hx
    exact w12_ok _ (g.fw _ (mem_getD (cg.ps p hp)))
  constructor
  · intro x hx
    rcases List.mem_cons.mp hx with rfl | hx
    · exact lit_ok (by decide)
    rcases List.mem_append.mp hx with hx | hx
    · rcases List.mem_append.mp hx with hx | hx
      · unfold Cl.w1 at hx
        split at hx
        · cases hx
        · rcases List.mem_cons.mp hx with rfl | hx
          · exact lit_ok (by decide)
          · exact hs x hx
      · unfold Cl.w2 at hx
        split at hx
        · cases hx
        · rename_i a b e
          have := cg.pair a b e
          simp only [List.mem_cons, List.not_mem_nil, or_false] at hx
          rcases hx with rfl | rfl | rfl
          · exact lit_ok (by decide)
          · exact w12_ok _ (g.kw _ (mem_getD ⟨by omega, by omega⟩))
          · exact w12_ok _ (g.kw _ (mem_getD ⟨by omega, by omega⟩))
    · unfold Cl.w3 at hx
      split at hx
      · cases hx
      · rename_i v e
        have := cg.win v e
        simp only [List.mem_cons, List.not_mem_nil, or_false] at hx
        rcases hx with rfl | rfl
        · exact lit_ok (by decide)
        · exact int_ok (by omega)
  · have h1 : (c.w1 l).length ≤ 4 := by
      unfold Cl.w1 Cl.same
      split
      · exact Nat.zero_le _
      · simp only [List.length_cons, List.length_map]; omega
    have h2 : (c.w2 l).length ≤ 3 := by
      unfold Cl.w2; split
      · exact Nat.zero_le _
      · exact Nat.le_refl 3
    have h3 : c.w3.length ≤ 1 + 1 := by
      unfold Cl.w3; split
      · exact Nat.zero_le _
      · exact Nat.le_refl 2
    unfold Cl.words
    simp only [List.length_cons, List.length_append]
    omega
theorem fpl_words {xs : List (List Nat)} {c : Nat} {k : Nat} (h : ∀ x ∈ xs, Wd_ x) (hk : xs.length ≤ k) : fpl [c] xs ≤ k * 22 := by
  have := C.fpl_le (sep := [c]) fun x hx => (h x hx).1
  refine Nat.le_trans this (Nat.mul_le_mul hk (Nat.le_refl _))
theorem e_line {l : Lo} (g : l.Good) {c : Cl} (cg : c.Good l.fs.length l.ks.length) : CC ns (n + 1) F_law_line [l.d, c.d] w = .ok (.str (joinL [32] (c.words l))) w := by
  obtain ⟨hw, hl⟩ := c.words_ok g cg
  have hj := fpl_words (c := 32) hw hl
  rw [st_law_line, c_law_line]
  have fin_ : ∀ ρ : En, ∀ xs : List D, ρ.getD 2 none = some (.lst xs) → xs = (c.words l).map .str → fin (evSs (TT ns) (CC ns n) [.ret (.bm .join (.str [32]) [.b 2])] ρ w) = .ok (.str (joinL [32] (c.words l))) w := by
    intro ρ xs h e
    simp only [list_lst, list_tup, tuple_lst, tuple_tup, x_v, x_b, x_non, x_bl, x_int, x_str, x_g, x_tup, x_lst, x_dct, x_bin, x_neg, x_not, x_cmp, x_cmp2, x_and, x_or, x_ite, x_call, x_mk, x_fld, x_prop, x_idx, x_sli, x_bf, x_bm, x_isi, x_rpeq, x_tix, x_tin, x_tups, x_lsts, x_slen, x_sidx, s_set, s_seto, s_par, s_aug, s_app, s_ext, s_insr, s_seti, s_setf, s_mv, s_ex, s_ite, s_ret, s_retn, s_appop, s_setw, s_retw, s_sets, sq_nil, sq_cons, es_nil, es_cons, ec_nil, ec_cons, bind_ok, ofO_some, boolR_bl, fin_rt, fin_nx, seqR_nx, seqR_rt, negR_int, cmp2R_t, cmp2R_f, mkR_some, fldR_ins, propR_ins, retwR_lst, setsR_lst, lstAt, lcF, bindP, bindPs, List.getD_cons_zero, List.getD_cons_succ, List.set_cons_zero, List.set_cons_succ, Option.map_some, Option.bind_some, if_true, if_false, Bool.false_eq_true, cmpD, eq_str, eq_int, in_chr, len_lst, len_tup, add_int, sub_int, int_int, int_bl, abs_int, newAt, isNewD, deref, partD, Option.bind_none, Option.map_none, Bool.not_true, Bool.not_false, ite_true, ite_false, reduceIte, Bool.and_true, Bool.true_and, h]
    rw [join_any _ e (by omega)]
    simp only [list_lst, list_tup, tuple_lst, tuple_tup, x_v, x_b, x_non, x_bl, x_int, x_str, x_g, x_tup, x_lst, x_dct, x_bin, x_neg, x_not, x_cmp, x_cmp2, x_and, x_or, x_ite, x_call, x_mk, x_fld, x_prop, x_idx, x_sli, x_bf, x_bm, x_isi, x_rpeq, x_tix, x_tin, x_tups, x_lsts, x_slen, x_sidx, s_set, s_seto, s_par, s_aug, s_app, s_ext, s_insr, s_seti, s_setf, s_mv, s_ex, s_ite, s_ret, s_retn, s_appop, s_setw, s_retw, s_sets, sq_nil, sq_cons, es_nil, es_cons, ec_nil, ec_cons, bind_ok, ofO_some, boolR_bl, fin_rt, fin_nx, seqR_nx, seqR_rt, negR_int, cmp2R_t, cmp2R_f, mkR_some, fldR_ins, propR_ins, retwR_lst, setsR_lst, lstAt, lcF, bindP, bindPs, List.getD_cons_zero, List.getD_cons_succ, List.set_cons_zero, List.set_cons_succ, Option.map_some, Option.bind_some, if_true, if_false, Bool.false_eq_true, cmpD, eq_str, eq_int, in_chr, len_lst, len_tup, add_int, sub_int, int_int, int_bl, abs_int, newAt, isNewD, deref, partD, Option.bind_none, Option.map_none, Bool.not_true, Bool.not_false, ite_true, ite_false, reduceIte, Bool.and_true, Bool.true_and]
  have a0 : ∀ ρ : En, ∀ A : List D, ρ = [some l.d, some c.d, some (.lst A), some (.tup (c.ps.map .int)), some c.pD, some c.wD, none, none] → A.length ≤ 4 →
      evS (TT ns) (CC ns n) (.ite (.cmp .gt (.bf .len [.v 3]) (.int 0)) [.ext 2 (.bin .add (.lst [.str [115, 97, 109, 101]]) (.lc (.n 6) (.v 3) [] (.idx (.idx (.v 0) (.str [102, 105, 101, 108, 100, 115])) (.v 6))))] []) ρ w = .ok (.nx [some l.d, some c.d, some (.lst (A ++ (c.w1 l).map .str)), some (.tup (c.ps.map .int)), some c.pD, some c.wD, none, none]) w := by
    rintro ρ A rfl hA
    have hlen := asc_len (f := l.fs.length) (lo := 0) cg.up cg.ps
    have f3 := g.f3
    simp only [list_lst, list_tup, tuple_lst, tuple_tup, x_v, x_b, x_non, x_bl, x_int, x_str, x_g, x_tup, x_lst, x_dct, x_bin, x_neg, x_not, x_cmp, x_cmp2, x_and, x_or, x_ite, x_call, x_mk, x_fld, x_prop, x_idx, x_sli, x_bf, x_bm, x_isi, x_rpeq, x_tix, x_tin, x_tups, x_lsts, x_slen, x_sidx, s_set, s_seto, s_par, s_aug, s_app, s_ext, s_insr, s_seti, s_setf, s_mv, s_ex, s_ite, s_ret, s_retn, s_appop, s_setw, s_retw, s_sets, sq_nil, sq_cons, es_nil, es_cons, ec_nil, ec_cons, bind_ok, ofO_some, boolR_bl, fin_rt, fin_nx, seqR_nx, seqR_rt, negR_int, cmp2R_t, cmp2R_f, mkR_some, fldR_ins, propR_ins, retwR_lst, setsR_lst, lstAt, lcF, bindP, bindPs, List.getD_cons_zero, List.getD_cons_succ, List.set_cons_zero, List.set_cons_succ, Option.map_some, Option.bind_some, if_true, if_false, Bool.false_eq_true, cmpD, eq_str, eq_int, in_chr, len_lst, len_tup, add_int, sub_int, int_int, int_bl, abs_int, newAt, isNewD, deref, partD, Option.bind_none, Option.map_none, Bool.not_true, Bool.not_false, ite_true, ite_false, reduceIte, Bool.and_true, Bool.true_and, List.length_map]
    by_cases hp : c.ps = []
    · unfold Cl.w1
      rw [if_pos hp, hp]
      simp only [list_lst, list_tup, tuple_lst, tuple_tup, x_v, x_b, x_non, x_bl, x_int, x_str, x_g, x_tup, x_lst, x_dct, x_bin, x_neg, x_not, x_cmp, x_cmp2, x_and, x_or, x_ite, x_call, x_mk, x_fld, x_prop, x_idx, x_sli, x_bf, x_bm, x_isi, x_rpeq, x_tix, x_tin, x_tups, x_lsts, x_slen, x_sidx, s_set, s_seto, s_par, s_aug, s_app, s_ext, s_insr, s_seti, s_setf, s_mv, s_ex, s_ite, s_ret, s_retn, s_appop, s_setw, s_retw, s_sets, sq_nil, sq_cons, es_nil, es_cons, ec_nil, ec_cons, bind_ok, ofO_some, boolR_bl, fin_rt, fin_nx, seqR_nx, seqR_rt, negR_int, cmp2R_t, cmp2R_f, mkR_some, fldR_ins, propR_ins, retwR_lst, setsR_lst, lstAt, lcF, bindP, bindPs, List.getD_cons_zero, List.getD_cons_succ, List.set_cons_zero, List.set_cons_succ, Option.map_some, Option.bind_some, if_true, if_false, Bool.false_eq_true, cmpD, eq_str, eq_int, in_chr, len_lst, len_tup, add_int, sub_int, int_int, int_bl, abs_int, newAt, isNewD, deref, partD, Option.bind_none, Option.map_none, Bool.not_true, Bool.not_false, ite_true, ite_false, reduceIte, Bool.and_true, Bool.true_and, List.length_nil, Int.natCast_zero, Int.cast_ofNat_Int, Int.lt_irrefl, decide_false, List.map_nil, List.append_nil]
    · have h0 : 0 < c.ps.length := List.length_pos_iff.mpr hp
      rw [decide_eq_true (show (0 : Int) < c.ps.length by omega)]
      simp only [list_lst, list_tup, tuple_lst, tuple_tup, x_v, x_b, x_non, x_bl, x_int, x_str, x_g, x_tup, x_lst, x_dct, x_bin, x_neg, x_not, x_cmp, x_cmp2, x_and, x_or, x_ite, x_call, x_mk, x_fld, x_prop, x_idx, x_sli, x_bf, x_bm, x_isi, x_rpeq, x_tix, x_tin, x_tups, x_lsts, x_slen, x_sidx, s_set, s_seto, s_par, s_aug, s_app, s_ext, s_insr, s_seti, s_setf, s_mv, s_ex, s_ite, s_ret, s_retn, s_appop, s_setw, s_retw, s_sets, sq_nil, sq_cons, es_nil, es_cons, ec_nil, ec_cons, bind_ok, ofO_some, boolR_bl, fin_rt, fin_nx, seqR_nx, seqR_rt, negR_int, cmp2R_t, cmp2R_f, mkR_some, fldR_ins, propR_ins, retwR_lst, setsR_lst, lstAt, lcF, bindP, bindPs, List.getD_cons_zero, List.getD_cons_succ, List.set_cons_zero, List.set_cons_succ, Option.map_some, Option.bind_some, if_true, if_false, Bool.false_eq_true, cmpD, eq_str, eq_int, in_chr, len_lst, len_tup, add_int, sub_int, int_int, int_bl, abs_int, newAt, isNewD, deref, partD, Option.bind_none, Option.map_none, Bool.not_true, Bool.not_false, ite_true, ite_false, reduceIte, Bool.and_true, Bool.true_and]
      rw [lc_map c.ps .int (fun p => .str (l.fs.getD p.toNat [])) rfl rfl fun p hp => ?_]
      · simp only [list_lst, list_tup, tuple_lst, tuple_tup, x_v, x_b, x_non, x_bl, x_int, x_str, x_g, x_tup, x_lst, x_dct, x_bin, x_neg, x_not, x_cmp, x_cmp2, x_and, x_or, x_ite, x_call, x_mk, x_fld, x_prop, x_idx, x_sli, x_bf, x_bm, x_isi, x_rpeq, x_tix, x_tin, x_tups, x_lsts, x_slen, x_sidx, s_set, s_seto, s_par, s_aug, s_app, s_ext, s_insr, s_seti, s_setf, s_mv, s_ex, s_ite, s_ret, s_retn, s_appop, s_setw, s_retw, s_sets, sq_nil, sq_cons, es_nil, es_cons, ec_nil, ec_cons, bind_ok, ofO_some, boolR_bl, fin_rt, fin_nx, seqR_nx, seqR_rt, negR_int, cmp2R_t, cmp2R_f, mkR_some, fldR_ins, propR_ins, retwR_lst, setsR_lst, lstAt, lcF, bindP, bindPs, List.getD_cons_zero, List.getD_cons_succ, List.set_cons_zero, List.set_cons_succ, Option.map_some, Option.bind_some, if_true, if_false, Bool.false_eq_true, cmpD, eq_str, eq_int, in_chr, len_lst, len_tup, add_int, sub_int, int_int, int_bl, abs_int, newAt, isNewD, deref, partD, Option.bind_none, Option.map_none, Bool.not_true, Bool.not_false, ite_true, ite_false, reduceIte, Bool.and_true, Bool.true_and]
        rw [add_lst (by simp only [List.length_cons, List.length_nil, List.length_map]; omega)]
        simp only [list_lst, list_tup, tuple_lst, tuple_tup, x_v, x_b, x_non, x_bl, x_int, x_str, x_g, x_tup, x_lst, x_dct, x_bin, x_neg, x_not, x_cmp, x_cmp2, x_and, x_or, x_ite, x_call, x_mk, x_fld, x_prop, x_idx, x_sli, x_bf, x_bm, x_isi, x_rpeq, x_tix, x_tin, x_tups, x_lsts, x_slen, x_sidx, s_set, s_seto, s_par, s_aug, s_app, s_ext, s_insr, s_seti, s_setf, s_mv, s_ex, s_ite, s_ret, s_retn, s_appop, s_setw, s_retw, s_sets, sq_nil, sq_cons, es_nil, es_cons, ec_nil, ec_cons, bind_ok, ofO_some, boolR_bl, fin_rt, fin_nx, seqR_nx, seqR_rt, negR_int, cmp2R_t, cmp2R_f, mkR_some, fldR_ins, propR_ins, retwR_lst, setsR_lst, lstAt, lcF, bindP, bindPs, List.getD_cons_zero, List.getD_cons_succ, List.set_cons_zero, List.set_cons_succ, Option.map_some, Option.bind_some, if_true, if_false, Bool.false_eq_true, cmpD, eq_str, eq_int, in_chr, len_lst, len_tup, add_int, sub_int, int_int, int_bl, abs_int, newAt, isNewD, deref, partD, Option.bind_none, Option.map_none, Bool.not_true, Bool.not_false, ite_true, ite_false, reduceIte, Bool.and_true, Bool.true_and]
        rw [extR_some (by simp only [List.length_append, List.length_cons, List.length_nil, List.length_map]; unfold bigN; omega)]
        simp only [list_lst, list_tup, tuple_lst, tuple_tup, x_v, x_b, x_non, x_bl, x_int, x_str, x_g, x_tup, x_lst, x_dct, x_bin, x_neg, x_not, x_cmp, x_cmp2, x_and, x_or, x_ite, x_call, x_mk, x_fld, x_prop, x_idx, x_sli, x_bf, x_bm, x_isi, x_rpeq, x_tix, x_tin, x_tups, x_lsts, x_slen, x_sidx, s_set, s_seto, s_par, s_aug, s_app, s_ext, s_insr, s_seti, s_setf, s_mv, s_ex, s_ite, s_ret, s_retn, s_appop, s_setw, s_retw, s_sets, sq_nil, sq_cons, es_nil, es_cons, ec_nil, ec_cons, bind_ok, ofO_some, boolR_bl, fin_rt, fin_nx, seqR_nx, seqR_rt, negR_int, cmp2R_t, cmp2R_f, mkR_some, fldR_ins, propR_ins, retwR_lst, setsR_lst, lstAt, lcF, bindP, bindPs, List.getD_cons_zero, List.getD_cons_succ, List.set_cons_zero, List.set_cons_succ, Option.map_some, Option.bind_some, if_true, if_false, Bool.false_eq_true, cmpD, eq_str, eq_int, in_chr, len_lst, len_tup, add_int, sub_int, int_int, int_bl, abs_int, newAt, isNewD, deref, partD, Option.bind_none, Option.map_none, Bool.not_true, Bool.not_false, ite_true, ite_false, reduceIte, Bool.and_true, Bool.true_and, Cl.w1, if_neg hp, Cl.same, List.map_cons, List.map_map, List.cons_append, List.nil_append]
        rfl
      · simp only [list_lst, list_tup, tuple_lst, tuple_tup, x_v, x_b, x_non, x_bl, x_int, x_str, x_g, x_tup, x_lst, x_dct, x_bin, x_neg, x_not, x_cmp, x_cmp2, x_and, x_or, x_ite, x_call, x_mk, x_fld, x_prop, x_idx, x_sli, x_bf, x_bm, x_isi, x_rpeq, x_tix, x_tin, x_tups, x_lsts, x_slen, x_sidx, s_set, s_seto, s_par, s_aug, s_app, s_ext, s_insr, s_seti, s_setf, s_mv, s_ex, s_ite, s_ret, s_retn, s_appop, s_setw, s_retw, s_sets, sq_nil, sq_cons, es_nil, es_cons, ec_nil, ec_cons, bind_ok, ofO_some, boolR_bl, fin_rt, fin_nx, seqR_nx, seqR_rt, negR_int, cmp2R_t, cmp2R_f, mkR_some, fldR_ins, propR_ins, retwR_lst, setsR_lst, lstAt, lcF, bindP, bindPs, List.getD_cons_zero, List.getD_cons_succ, List.set_cons_zero, List.set_cons_succ, Option.map_some, Option.bind_some, if_true, if_false, Bool.false_eq_true, cmpD, eq_str, eq_int, in_chr, len_lst, len_tup, add_int, sub_int, int_int, int_bl, abs_int, newAt, isNewD, deref, partD, Option.bind_none, Option.map_none, Bool.not_true, Bool.not_false, ite_true, ite_false, reduceIte, Bool.and_true, Bool.true_and, idx_fs]
        rw [idx_lst (cg.ps p hp).1 (y := .str (l.fs.getD p.toNat [])) (by rw [List.getElem?_map, getD_mem (cg.ps p hp)]; rfl)]
        simp only [list_lst, list_tup, tuple_lst, tuple_tup, x_v, x_b, x_non, x_bl, x_int, x_str, x_g, x_tup, x_lst, x_dct, x_bin, x_neg, x_not, x_cmp, x_cmp2, x_and, x_or, x_ite, x_call, x_mk, x_fld, x_prop, x_idx, x_sli, x_bf, x_bm, x_isi, x_rpeq, x_tix, x_tin, x_tups, x_lsts, x_slen, x_sidx, s_set, s_seto, s_par, s_aug, s_app, s_ext, s_insr, s_seti, s_setf, s_mv, s_ex, s_ite, s_ret, s_retn, s_appop, s_setw, s_retw, s_sets, sq_nil, sq_cons, es_nil, es_cons, ec_nil, ec_cons, bind_ok, ofO_some, boolR_bl, fin_rt, fin_nx, seqR_nx, seqR_rt, negR_int, cmp2R_t, cmp2R_f, mkR_some, fldR_ins, propR_ins, retwR_lst, setsR_lst, lstAt, lcF, bindP, bindPs, List.getD_cons_zero, List.getD_cons_succ, List.set_cons_zero, List.set_cons_succ, Option.map_some, Option.bind_some, if_true, if_false, Bool.false_eq_true, cmpD, eq_str, eq_int, in_chr, len_lst, len_tup, add_int, sub_int, int_int, int_bl, abs_int, newAt, isNewD, deref, partD, Option.bind_none, Option.map_none, Bool.not_true, Bool.not_false, ite_true, ite_false, reduceIte, Bool.and_true, Bool.true_and]
  have a1 : ∀ ρ : En, ∀ A : List D, ρ = [some l.d, some c.d, some (.lst A), some (.tup (c.ps.map .int)), some c.pD, some c.wD, none, none] → A.length ≤ 20 →
      evS (TT ns) (CC ns n) (.ite (.cmp .isnot (.v 4) .non) [.ext 2 (.bin .add (.lst [.str [107, 105, 110, 100, 115]]) (.lc (.n 7) (.v 4) [] (.idx (.idx (.v 0) (.str [107, 105, 110, 100, 115])) (.v 7))))] []) ρ w = .ok (.nx [some l.d, some c.d, some (.lst (A ++ (c.w2 l).map .str)), some (.tup (c.ps.map .int)), some c.pD, some c.wD, none, none]) w := by
    rintro ρ A rfl hA
    unfold Cl.w2 Cl.pD
    cases e : c.pair with
    | none => simp only [list_lst, list_tup, tuple_lst, tuple_tup, x_v, x_b, x_non, x_bl, x_int, x_str, x_g, x_tup, x_lst, x_dct, x_bin, x_neg, x_not, x_cmp, x_cmp2, x_and, x_or, x_ite, x_call, x_mk, x_fld, x_prop, x_idx, x_sli, x_bf, x_bm, x_isi, x_rpeq, x_tix, x_tin, x_tups, x_lsts, x_slen, x_sidx, s_set, s_seto, s_par, s_aug, s_app, s_ext, s_insr, s_seti, s_setf, s_mv, s_ex, s_ite, s_ret, s_retn, s_appop, s_setw, s_retw, s_sets, sq_nil, sq_cons, es_nil, es_cons, ec_nil, ec_cons, bind_ok, ofO_some, boolR_bl, fin_rt, fin_nx, seqR_nx, seqR_rt, negR_int, cmp2R_t, cmp2R_f, mkR_some, fldR_ins, propR_ins, retwR_lst, setsR_lst, lstAt, lcF, bindP, bindPs, List.getD_cons_zero, List.getD_cons_succ, List.set_cons_zero, List.set_cons_succ, Option.map_some, Option.bind_some, if_true, if_false, Bool.false_eq_true, cmpD, eq_str, eq_int, in_chr, len_lst, len_tup, add_int, sub_int, int_int, int_bl, abs_int, newAt, isNewD, deref, partD, Option.bind_none, Option.map_none, Bool.not_true, Bool.not_false, ite_true, ite_false, reduceIte, Bool.and_true, Bool.true_and, List.map_nil, List.append_nil]
    | some q =>
      obtain ⟨a, b⟩ := q
      have hg := cg.pair a b e
      simp only [list_lst, list_tup, tuple_lst, tuple_tup, x_v, x_b, x_non, x_bl, x_int, x_str, x_g, x_tup, x_lst, x_dct, x_bin, x_neg, x_not, x_cmp, x_cmp2, x_and, x_or, x_ite, x_call, x_mk, x_fld, x_prop, x_idx, x_sli, x_bf, x_bm, x_isi, x_rpeq, x_tix, x_tin, x_tups, x_lsts, x_slen, x_sidx, s_set, s_seto, s_par, s_aug, s_app, s_ext, s_insr, s_seti, s_setf, s_mv, s_ex, s_ite, s_ret, s_retn, s_appop, s_setw, s_retw, s_sets, sq_nil, sq_cons, es_nil, es_cons, ec_nil, ec_cons, bind_ok, ofO_some, boolR_bl, fin_rt, fin_nx, seqR_nx, seqR_rt, negR_int, cmp2R_t, cmp2R_f, mkR_some, fldR_ins, propR_ins, retwR_lst, setsR_lst, lstAt, lcF, bindP, bindPs, List.getD_cons_zero, List.getD_cons_succ, List.set_cons_zero, List.set_cons_succ, Option.map_some, Option.bind_some, if_true, if_false, Bool.false_eq_true, cmpD, eq_str, eq_int, in_chr, len_lst, len_tup, add_int, sub_int, int_int, int_bl, abs_int, newAt, isNewD, deref, partD, Option.bind_none, Option.map_none, Bool.not_true, Bool.not_false, ite_true, ite_false, reduceIte, Bool.and_true, Bool.true_and]
      rw [lc_map [a, b] .int (fun p => .str (l.ks.getD p.toNat [])) rfl rfl fun p hp => ?_]
      · simp only [list_lst, list_tup, tuple_lst, tuple_tup, x_v, x_b, x_non, x_bl, x_int, x_str, x_g, x_tup, x_lst, x_dct, x_bin, x_neg, x_not, x_cmp, x_cmp2, x_and, x_or, x_ite, x_call, x_mk, x_fld, x_prop, x_idx, x_sli, x_bf, x_bm, x_isi, x_rpeq, x_tix, x_tin, x_tups, x_lsts, x_slen, x_sidx, s_set, s_seto, s_par, s_aug, s_app, s_ext, s_insr, s_seti, s_setf, s_mv, s_ex, s_ite, s_ret, s_retn, s_appop, s_setw, s_retw, s_sets, sq_nil, sq_cons, es_nil, es_cons, ec_nil, ec_cons, bind_ok, ofO_some, boolR_bl, fin_rt, fin_nx, seqR_nx, seqR_rt, negR_int, cmp2R_t, cmp2R_f, mkR_some, fldR_ins, propR_ins, retwR_lst, setsR_lst, lstAt, lcF, bindP, bindPs, List.getD_cons_zero, List.getD_cons_succ, List.set_cons_zero, List.set_cons_succ, Option.map_some, Option.bind_some, if_true, if_false, Bool.false_eq_true, cmpD, eq_str, eq_int, in_chr, len_lst, len_tup, add_int, sub_int, int_int, int_bl, abs_int, newAt, isNewD, deref, partD, Option.bind_none, Option.map_none, Bool.not_true, Bool.not_false, ite_true, ite_false, reduceIte, Bool.and_true, Bool.true_and]
        rw [add_lst (by simp only [List.length_cons, List.length_nil, List.length_map]; omega)]
        simp only [list_lst, list_tup, tuple_lst, tuple_tup, x_v, x_b, x_non, x_bl, x_int, x_str, x_g, x_tup, x_lst, x_dct, x_bin, x_neg, x_not, x_cmp, x_cmp2, x_and, x_or, x_ite, x_call, x_mk, x_fld, x_prop, x_idx, x_sli, x_bf, x_bm, x_isi, x_rpeq, x_tix, x_tin, x_tups, x_lsts, x_slen, x_sidx, s_set, s_seto, s_par, s_aug, s_app, s_ext, s_insr, s_seti, s_setf, s_mv, s_ex, s_ite, s_ret, s_retn, s_appop, s_setw, s_retw, s_sets, sq_nil, sq_cons, es_nil, es_cons, ec_nil, ec_cons, bind_ok, ofO_some, boolR_bl, fin_rt, fin_nx, seqR_nx, seqR_rt, negR_int, cmp2R_t, cmp2R_f, mkR_some, fldR_ins, propR_ins, retwR_lst, setsR_lst, lstAt, lcF, bindP, bindPs, List.getD_cons_zero, List.getD_cons_succ, List.set_cons_zero, List.set_cons_succ, Option.map_some, Option.bind_some, if_true, if_false, Bool.false_eq_true, cmpD, eq_str, eq_int, in_chr, len_lst, len_tup, add_int, sub_int, int_int, int_bl, abs_int, newAt, isNewD, deref, partD, Option.bind_none, Option.map_none, Bool.not_true, Bool.not_false, ite_true, ite_false, reduceIte, Bool.and_true, Bool.true_and]
        rw [extR_some (by simp only [List.length_append, List.length_cons, List.length_nil, List.length_map]; unfold bigN; omega)]
        simp only [list_lst, list_tup, tuple_lst, tuple_tup, x_v, x_b, x_non, x_bl, x_int, x_str, x_g, x_tup, x_lst, x_dct, x_bin, x_neg, x_not, x_cmp, x_cmp2, x_and, x_or, x_ite, x_call, x_mk, x_fld, x_prop, x_idx, x_sli, x_bf, x_bm, x_isi, x_rpeq, x_tix, x_tin, x_tups, x_lsts, x_slen, x_sidx, s_set, s_seto, s_par, s_aug, s_app, s_ext, s_insr, s_seti, s_setf, s_mv, s_ex, s_ite, s_ret, s_retn, s_appop, s_setw, s_retw, s_sets, sq_nil, sq_cons, es_nil, es_cons, ec_nil, ec_cons, bind_ok, ofO_some, boolR_bl, fin_rt, fin_nx, seqR_nx, seqR_rt, negR_int, cmp2R_t, cmp2R_f, mkR_some, fldR_ins, propR_ins, retwR_lst, setsR_lst, lstAt, lcF, bindP, bindPs, List.getD_cons_zero, List.getD_cons_succ, List.set_cons_zero, List.set_cons_succ, Option.map_some, Option.bind_some, if_true, if_false, Bool.false_eq_true, cmpD, eq_str, eq_int, in_chr, len_lst, len_tup, add_int, sub_int, int_int, int_bl, abs_int, newAt, isNewD, deref, partD, Option.bind_none, Option.map_none, Bool.not_true, Bool.not_false, ite_true, ite_false, reduceIte, Bool.and_true, Bool.true_and, List.map_cons, List.map_nil, List.cons_append, List.nil_append]
      · have hp' : 0 ≤ p ∧ p < l.ks.length := by
          simp only [List.mem_cons, List.not_mem_nil, or_false] at hp
          rcases hp with rfl | rfl <;> omega
        simp only [list_lst, list_tup, tuple_lst, tuple_tup, x_v, x_b, x_non, x_bl, x_int, x_str, x_g, x_tup, x_lst, x_dct, x_bin, x_neg, x_not, x_cmp, x_cmp2, x_and, x_or, x_ite, x_call, x_mk, x_fld, x_prop, x_idx, x_sli, x_bf, x_bm, x_isi, x_rpeq, x_tix, x_tin, x_tups, x_lsts, x_slen, x_sidx, s_set, s_seto, s_par, s_aug, s_app, s_ext, s_insr, s_seti, s_setf, s_mv, s_ex, s_ite, s_ret, s_retn, s_appop, s_setw, s_retw, s_sets, sq_nil, sq_cons, es_nil, es_cons, ec_nil, ec_cons, bind_ok, ofO_some, boolR_bl, fin_rt, fin_nx, seqR_nx, seqR_rt, negR_int, cmp2R_t, cmp2R_f, mkR_some, fldR_ins, propR_ins, retwR_lst, setsR_lst, lstAt, lcF, bindP, bindPs, List.getD_cons_zero, List.getD_cons_succ, List.set_cons_zero, List.set_cons_succ, Option.map_some, Option.bind_some, if_true, if_false, Bool.false_eq_true, cmpD, eq_str, eq_int, in_chr, len_lst, len_tup, add_int, sub_int, int_int, int_bl, abs_int, newAt, isNewD, deref, partD, Option.bind_none, Option.map_none, Bool.not_true, Bool.not_false, ite_true, ite_false, reduceIte, Bool.and_true, Bool.true_and, idx_ks]
        rw [idx_lst hp'.1 (y := .str (l.ks.getD p.toNat [])) (by rw [List.getElem?_map, getD_mem hp']; rfl)]
        simp only [list_lst, list_tup, tuple_lst, tuple_tup, x_v, x_b, x_non, x_bl, x_int, x_str, x_g, x_tup, x_lst, x_dct, x_bin, x_neg, x_not, x_cmp, x_cmp2, x_and, x_or, x_ite, x_call, x_mk, x_fld, x_prop, x_idx, x_sli, x_bf, x_bm, x_isi, x_rpeq, x_tix, x_tin, x_tups, x_lsts, x_slen, x_sidx, s_set, s_seto, s_par, s_aug, s_app, s_ext, s_insr, s_seti, s_setf, s_mv, s_ex, s_ite, s_ret, s_retn, s_appop, s_setw, s_retw, s_sets, sq_nil, sq_cons, es_nil, es_cons, ec_nil, ec_cons, bind_ok, ofO_some, boolR_bl, fin_rt, fin_nx, seqR_nx, seqR_rt, negR_int, cmp2R_t, cmp2R_f, mkR_some, fldR_ins, propR_ins, retwR_lst, setsR_lst, lstAt, lcF, bindP, bindPs, List.getD_cons_zero, List.getD_cons_succ, List.set_cons_zero, List.set_cons_succ, Option.map_some, Option.bind_some, if_true, if_false, Bool.false_eq_true, cmpD, eq_str, eq_int, in_chr, len_lst, len_tup, add_int, sub_int, int_int, int_bl, abs_int, newAt, isNewD, deref, partD, Option.bind_none, Option.map_none, Bool.not_true, Bool.not_false, ite_true, ite_false, reduceIte, Bool.and_true, Bool.true_and]
  have a2 : ∀ ρ : En, ∀ A : List D, ρ = [some l.d, some c.d, some (.lst A), some (.tup (c.ps.map .int)), some c.pD, some c.wD, none, none] → A.length ≤ 40 →
      evS (TT ns) (CC ns n) (.ite (.cmp .isnot (.v 5) .non) [.ext 2 (.lst [.str [119, 105, 116, 104, 105, 110], .bf .str [.v 5]])] []) ρ w = .ok (.nx [some l.d, some c.d, some (.lst (A ++ c.w3.map .str)), some (.tup (c.ps.map .int)), some c.pD, some c.wD, none, none]) w := by
    rintro ρ A rfl hA
    unfold Cl.w3 Cl.wD
    cases e : c.win with
    | none => simp only [list_lst, list_tup, tuple_lst, tuple_tup, x_v, x_b, x_non, x_bl, x_int, x_str, x_g, x_tup, x_lst, x_dct, x_bin, x_neg, x_not, x_cmp, x_cmp2, x_and, x_or, x_ite, x_call, x_mk, x_fld, x_prop, x_idx, x_sli, x_bf, x_bm, x_isi, x_rpeq, x_tix, x_tin, x_tups, x_lsts, x_slen, x_sidx, s_set, s_seto, s_par, s_aug, s_app, s_ext, s_insr, s_seti, s_setf, s_mv, s_ex, s_ite, s_ret, s_retn, s_appop, s_setw, s_retw, s_sets, sq_nil, sq_cons, es_nil, es_cons, ec_nil, ec_cons, bind_ok, ofO_some, boolR_bl, fin_rt, fin_nx, seqR_nx, seqR_rt, negR_int, cmp2R_t, cmp2R_f, mkR_some, fldR_ins, propR_ins, retwR_lst, setsR_lst, lstAt, lcF, bindP, bindPs, List.getD_cons_zero, List.getD_cons_succ, List.set_cons_zero, List.set_cons_succ, Option.map_some, Option.bind_some, if_true, if_false, Bool.false_eq_true, cmpD, eq_str, eq_int, in_chr, len_lst, len_tup, add_int, sub_int, int_int, int_bl, abs_int, newAt, isNewD, deref, partD, Option.bind_none, Option.map_none, Bool.not_true, Bool.not_false, ite_true, ite_false, reduceIte, Bool.and_true, Bool.true_and, List.map_nil, List.append_nil]
    | some v =>
      have hg := cg.win v e
      simp only [list_lst, list_tup, tuple_lst, tuple_tup, x_v, x_b, x_non, x_bl, x_int, x_str, x_g, x_tup, x_lst, x_dct, x_bin, x_neg, x_not, x_cmp, x_cmp2, x_and, x_or, x_ite, x_call, x_mk, x_fld, x_prop, x_idx, x_sli, x_bf, x_bm, x_isi, x_rpeq, x_tix, x_tin, x_tups, x_lsts, x_slen, x_sidx, s_set, s_seto, s_par, s_aug, s_app, s_ext, s_insr, s_seti, s_setf, s_mv, s_ex, s_ite, s_ret, s_retn, s_appop, s_setw, s_retw, s_sets, sq_nil, sq_cons, es_nil, es_cons, ec_nil, ec_cons, bind_ok, ofO_some, boolR_bl, fin_rt, fin_nx, seqR_nx, seqR_rt, negR_int, cmp2R_t, cmp2R_f, mkR_some, fldR_ins, propR_ins, retwR_lst, setsR_lst, lstAt, lcF, bindP, bindPs, List.getD_cons_zero, List.getD_cons_succ, List.set_cons_zero, List.set_cons_succ, Option.map_some, Option.bind_some, if_true, if_false, Bool.false_eq_true, cmpD, eq_str, eq_int, in_chr, len_lst, len_tup, add_int, sub_int, int_int, int_bl, abs_int, newAt, isNewD, deref, partD, Option.bind_none, Option.map_none, Bool.not_true, Bool.not_false, ite_true, ite_false, reduceIte, Bool.and_true, Bool.true_and, str_int (show v.natAbs < 100000 by omega)]
      rw [extR_some (by simp only [List.length_append, List.length_cons, List.length_nil, List.length_map]; unfold bigN; omega)]
      simp only [list_lst, list_tup, tuple_lst, tuple_tup, x_v, x_b, x_non, x_bl, x_int, x_str, x_g, x_tup, x_lst, x_dct, x_bin, x_neg, x_not, x_cmp, x_cmp2, x_and, x_or, x_ite, x_call, x_mk, x_fld, x_prop, x_idx, x_sli, x_bf, x_bm, x_isi, x_rpeq, x_tix, x_tin, x_tups, x_lsts, x_slen, x_sidx, s_set, s_seto, s_par, s_aug, s_app, s_ext, s_insr, s_seti, s_setf, s_mv, s_ex, s_ite, s_ret, s_retn, s_appop, s_setw, s_retw, s_sets, sq_nil, sq_cons, es_nil, es_cons, ec_nil, ec_cons, bind_ok, ofO_some, boolR_bl, fin_rt, fin_nx, seqR_nx, seqR_rt, negR_int, cmp2R_t, cmp2R_f, mkR_some, fldR_ins, propR_ins, retwR_lst, setsR_lst, lstAt, lcF, bindP, bindPs, List.getD_cons_zero, List.getD_cons_succ, List.set_cons_zero, List.set_cons_succ, Option.map_some, Option.bind_some, if_true, if_false, Bool.false_eq_true, cmpD, eq_str, eq_int, in_chr, len_lst, len_tup, add_int, sub_int, int_int, int_bl, abs_int, newAt, isNewD, deref, partD, Option.bind_none, Option.map_none, Bool.not_true, Bool.not_false, ite_true, ite_false, reduceIte, Bool.and_true, Bool.true_and, List.map_cons, List.map_nil]
  rw [sq_cons]
  rw [show evS (TT ns) (CC ns n) (.par [.n 2, .t [.n 3, .n 4, .n 5]] [true, false] [.lst [.str [108, 105, 110, 107]], .v 1]) [some l.d, some c.d, none, none, none, none, none, none] w = .ok (.nx [some l.d, some c.d, some (.lst [.str sL]), some (.tup (c.ps.map .int)), some c.pD, some c.wD, none, none]) w by
    unfold Cl.d; simp only [list_lst, list_tup, tuple_lst, tuple_tup, x_v, x_b, x_non, x_bl, x_int, x_str, x_g, x_tup, x_lst, x_dct, x_bin, x_neg, x_not, x_cmp, x_cmp2, x_and, x_or, x_ite, x_call, x_mk, x_fld, x_prop, x_idx, x_sli, x_bf, x_bm, x_isi, x_rpeq, x_tix, x_tin, x_tups, x_lsts, x_slen, x_sidx, s_set, s_seto, s_par, s_aug, s_app, s_ext, s_insr, s_seti, s_setf, s_mv, s_ex, s_ite, s_ret, s_retn, s_appop, s_setw, s_retw, s_sets, sq_nil, sq_cons, es_nil, es_cons, ec_nil, ec_cons, bind_ok, ofO_some, boolR_bl, fin_rt, fin_nx, seqR_nx, seqR_rt, negR_int, cmp2R_t, cmp2R_f, mkR_some, fldR_ins, propR_ins, retwR_lst, setsR_lst, lstAt, lcF, bindP, bindPs, List.getD_cons_zero, List.getD_cons_succ, List.set_cons_zero, List.set_cons_succ, Option.map_some, Option.bind_some, if_true, if_false, Bool.false_eq_true, cmpD, eq_str, eq_int, in_chr, len_lst, len_tup, add_int, sub_int, int_int, int_bl, abs_int, newAt, isNewD, deref, partD, Option.bind_none, Option.map_none, Bool.not_true, Bool.not_false, ite_true, ite_false, reduceIte, Bool.and_true, Bool.true_and]]
  rw [bind_ok, seqR_nx, sq_cons, a0 _ _ rfl (by decide), bind_ok, seqR_nx, sq_cons, a1 _ _ rfl ?_, bind_ok, seqR_nx, sq_cons, a2 _ _ rfl ?_, bind_ok, seqR_nx]
  · exact fin_ _ _ rfl (by simp only [Cl.words, List.map_cons, List.map_append, List.append_assoc, List.cons_append, List.nil_append])
  · unfold Cl.words at hl
    simp only [List.length_cons, List.length_append, List.length_nil, List.length_map] at hl ⊢
    omega
  · unfold Cl.words at hl
    simp only [List.length_cons, List.length_append, List.length_nil, List.length_map] at hl ⊢
    omega
end
end MP.K01

set_option Elab.async false
set_option linter.all false
set_option maxRecDepth 100000
namespace MP.K01
open MP.C
section
variable {ns : List Int} {n : Nat} {w : Wd}
def Lo.rows (l : Lo) : List (List (List Nat)) := (sF :: l.fs) :: (sK :: l.ks) :: l.cs.map fun c => c.words l
def Lo.text (l : Lo) : List Nat := joinL [10] (l.rows.map (joinL [32]))
theorem Lo.rows_ok {l : Lo} (g : l.Good) : ∀ r ∈ l.rows, (∀ x ∈ r, Wd_ x) ∧ r.length ≤ 10 ∧ r ≠ [] := by
  intro r hr
  have f3 := g.f3
  have k3 := g.k3
  unfold Lo.rows at hr
  rcases List.mem_cons.mp hr with rfl | hr
  · refine ⟨fun x hx => ?_, by simp only [List.length_cons]; omega, List.cons_ne_nil _ _⟩
    rcases List.mem_cons.mp hx with rfl | hx
    · exact lit_ok (by decide)
    · exact w12_ok _ (g.fw _ hx)
  rcases List.mem_cons.mp hr with rfl | hr
  · refine ⟨fun x hx => ?_, by simp only [List.length_cons]; omega, List.cons_ne_nil _ _⟩
    rcases List.mem_cons.mp hx with rfl | hx
    · exact lit_ok (by decide)
    · exact w12_ok _ (g.kw _ hx)
  obtain ⟨c, hc, rfl⟩ := List.mem_map.mp hr
  obtain ⟨h1, h2⟩ := c.words_ok g (g.cg c hc)
  exact ⟨h1, h2, List.cons_ne_nil _ _⟩
theorem Lo.rows_len {l : Lo} (g : l.Good) : l.rows.length ≤ 6 := by
  have c4 := g.c4
  unfold Lo.rows
  simp only [List.length_cons, List.length_map]; omega
theorem Lo.line_len {l : Lo} (g : l.Good) : ∀ r ∈ l.rows, (joinL [32] r).length ≤ 220 := by
  intro r hr
  obtain ⟨h1, h2, _⟩ := l.rows_ok g r hr
  exact Nat.le_trans (joinL_len r) (fpl_words h1 h2)
theorem Lo.fpl_rows {l : Lo} (g : l.Good) : fpl [10] (l.rows.map (joinL [32])) ≤ 6 * 221 := by
  have := C.fpl_le (sep := [10]) (m := 220) (xs := l.rows.map (joinL [32])) fun x hx => by
    obtain ⟨r, hr, rfl⟩ := List.mem_map.mp hx
    exact l.line_len g r hr
  refine Nat.le_trans this (Nat.mul_le_mul ?_ (Nat.le_refl _))
  rw [List.length_map]; exact l.rows_len g
theorem Lo.text_len {l : Lo} (g : l.Good) : l.text.length ≤ 1326 := Nat.le_trans (joinL_len _) (l.fpl_rows g)
theorem joinL_cons {sep a : List Nat} {xs : List (List Nat)} (h : xs ≠ []) : joinL sep (a :: xs) = a ++ sep ++ joinL sep xs := by
  cases xs with
  | nil => exact absurd rfl h
  | cons => rfl
theorem e_text {l : Lo} (g : l.Good) : CC ns (n + 2) F_law_text [l.d] w = .ok (.str l.text) w := by
  have hf := fpl_words (c := 32) (fun x hx => w12_ok _ (g.fw x hx)) g.f3
  have hk := fpl_words (c := 32) (fun x hx => w12_ok _ (g.kw x hx)) g.k3
  have hf2 := joinL_len (sep := [32]) l.fs
  have hk2 := joinL_len (sep := [32]) l.ks
  have f0 := g.f0
  have k0 := g.k0
  have c4 := g.c4
  rw [st_law_text, c_law_text]
  simp only [list_lst, list_tup, tuple_lst, tuple_tup, x_v, x_b, x_non, x_bl, x_int, x_str, x_g, x_tup, x_lst, x_dct, x_bin, x_neg, x_not, x_cmp, x_cmp2, x_and, x_or, x_ite, x_call, x_mk, x_fld, x_prop, x_idx, x_sli, x_bf, x_bm, x_isi, x_rpeq, x_tix, x_tin, x_tups, x_lsts, x_slen, x_sidx, s_set, s_seto, s_par, s_aug, s_app, s_ext, s_insr, s_seti, s_setf, s_mv, s_ex, s_ite, s_ret, s_retn, s_appop, s_setw, s_retw, s_sets, sq_nil, sq_cons, es_nil, es_cons, ec_nil, ec_cons, bind_ok, ofO_some, boolR_bl, fin_rt, fin_nx, seqR_nx, seqR_rt, negR_int, cmp2R_t, cmp2R_f, mkR_some, fldR_ins, propR_ins, retwR_lst, setsR_lst, lstAt, lcF, bindP, bindPs, List.getD_cons_zero, List.getD_cons_succ, List.set_cons_zero, List.set_cons_succ, Option.map_some, Option.bind_some, if_true, if_false, Bool.false_eq_true, cmpD, eq_str, eq_int, in_chr, len_lst, len_tup, add_int, sub_int, int_int, int_bl, abs_int, newAt, isNewD, deref, partD, Option.bind_none, Option.map_none, Bool.not_true, Bool.not_false, ite_true, ite_false, reduceIte, Bool.and_true, Bool.true_and, idx_fs, idx_ks, join_any l.fs rfl (show fpl [32] l.fs ≤ 16777216 by omega), join_any l.ks rfl (show fpl [32] l.ks ≤ 16777216 by omega)]
  rw [add_str (by simp only [List.length_cons, List.length_nil]; omega), ofO_some, bind_ok]
  rw [add_str (by simp only [List.length_cons, List.length_nil]; omega)]
  simp only [list_lst, list_tup, tuple_lst, tuple_tup, x_v, x_b, x_non, x_bl, x_int, x_str, x_g, x_tup, x_lst, x_dct, x_bin, x_neg, x_not, x_cmp, x_cmp2, x_and, x_or, x_ite, x_call, x_mk, x_fld, x_prop, x_idx, x_sli, x_bf, x_bm, x_isi, x_rpeq, x_tix, x_tin, x_tups, x_lsts, x_slen, x_sidx, s_set, s_seto, s_par, s_aug, s_app, s_ext, s_insr, s_seti, s_setf, s_mv, s_ex, s_ite, s_ret, s_retn, s_appop, s_setw, s_retw, s_sets, sq_nil, sq_cons, es_nil, es_cons, ec_nil, ec_cons, bind_ok, ofO_some, boolR_bl, fin_rt, fin_nx, seqR_nx, seqR_rt, negR_int, cmp2R_t, cmp2R_f, mkR_some, fldR_ins, propR_ins, retwR_lst, setsR_lst, lstAt, lcF, bindP, bindPs, List.getD_cons_zero, List.getD_cons_succ, List.set_cons_zero, List.set_cons_succ, Option.map_some, Option.bind_some, if_true, if_false, Bool.false_eq_true, cmpD, eq_str, eq_int, in_chr, len_lst, len_tup, add_int, sub_int, int_int, int_bl, abs_int, newAt, isNewD, deref, partD, Option.bind_none, Option.map_none, Bool.not_true, Bool.not_false, ite_true, ite_false, reduceIte, Bool.and_true, Bool.true_and]
  rw [lc_map (xs := .lst (l.cs.map Cl.d)) l.cs Cl.d (fun c => .str (joinL [32] (c.words l))) (by simp only [list_lst, list_tup, tuple_lst, tuple_tup, x_v, x_b, x_non, x_bl, x_int, x_str, x_g, x_tup, x_lst, x_dct, x_bin, x_neg, x_not, x_cmp, x_cmp2, x_and, x_or, x_ite, x_call, x_mk, x_fld, x_prop, x_idx, x_sli, x_bf, x_bm, x_isi, x_rpeq, x_tix, x_tin, x_tups, x_lsts, x_slen, x_sidx, s_set, s_seto, s_par, s_aug, s_app, s_ext, s_insr, s_seti, s_setf, s_mv, s_ex, s_ite, s_ret, s_retn, s_appop, s_setw, s_retw, s_sets, sq_nil, sq_cons, es_nil, es_cons, ec_nil, ec_cons, bind_ok, ofO_some, boolR_bl, fin_rt, fin_nx, seqR_nx, seqR_rt, negR_int, cmp2R_t, cmp2R_f, mkR_some, fldR_ins, propR_ins, retwR_lst, setsR_lst, lstAt, lcF, bindP, bindPs, List.getD_cons_zero, List.getD_cons_succ, List.set_cons_zero, List.set_cons_succ, Option.map_some, Option.bind_some, if_true, if_false, Bool.false_eq_true, cmpD, eq_str, eq_int, in_chr, len_lst, len_tup, add_int, sub_int, int_int, int_bl, abs_int, newAt, isNewD, deref, partD, Option.bind_none, Option.map_none, Bool.not_true, Bool.not_false, ite_true, ite_false, reduceIte, Bool.and_true, Bool.true_and, idx_cs]) rfl fun c hc => ?_]
  · simp only [list_lst, list_tup, tuple_lst, tuple_tup, x_v, x_b, x_non, x_bl, x_int, x_str, x_g, x_tup, x_lst, x_dct, x_bin, x_neg, x_not, x_cmp, x_cmp2, x_and, x_or, x_ite, x_call, x_mk, x_fld, x_prop, x_idx, x_sli, x_bf, x_bm, x_isi, x_rpeq, x_tix, x_tin, x_tups, x_lsts, x_slen, x_sidx, s_set, s_seto, s_par, s_aug, s_app, s_ext, s_insr, s_seti, s_setf, s_mv, s_ex, s_ite, s_ret, s_retn, s_appop, s_setw, s_retw, s_sets, sq_nil, sq_cons, es_nil, es_cons, ec_nil, ec_cons, bind_ok, ofO_some, boolR_bl, fin_rt, fin_nx, seqR_nx, seqR_rt, negR_int, cmp2R_t, cmp2R_f, mkR_some, fldR_ins, propR_ins, retwR_lst, setsR_lst, lstAt, lcF, bindP, bindPs, List.getD_cons_zero, List.getD_cons_succ, List.set_cons_zero, List.set_cons_succ, Option.map_some, Option.bind_some, if_true, if_false, Bool.false_eq_true, cmpD, eq_str, eq_int, in_chr, len_lst, len_tup, add_int, sub_int, int_int, int_bl, abs_int, newAt, isNewD, deref, partD, Option.bind_none, Option.map_none, Bool.not_true, Bool.not_false, ite_true, ite_false, reduceIte, Bool.and_true, Bool.true_and]
    rw [add_lst (by simp only [List.length_cons, List.length_nil, List.length_map]; omega)]
    simp only [list_lst, list_tup, tuple_lst, tuple_tup, x_v, x_b, x_non, x_bl, x_int, x_str, x_g, x_tup, x_lst, x_dct, x_bin, x_neg, x_not, x_cmp, x_cmp2, x_and, x_or, x_ite, x_call, x_mk, x_fld, x_prop, x_idx, x_sli, x_bf, x_bm, x_isi, x_rpeq, x_tix, x_tin, x_tups, x_lsts, x_slen, x_sidx, s_set, s_seto, s_par, s_aug, s_app, s_ext, s_insr, s_seti, s_setf, s_mv, s_ex, s_ite, s_ret, s_retn, s_appop, s_setw, s_retw, s_sets, sq_nil, sq_cons, es_nil, es_cons, ec_nil, ec_cons, bind_ok, ofO_some, boolR_bl, fin_rt, fin_nx, seqR_nx, seqR_rt, negR_int, cmp2R_t, cmp2R_f, mkR_some, fldR_ins, propR_ins, retwR_lst, setsR_lst, lstAt, lcF, bindP, bindPs, List.getD_cons_zero, List.getD_cons_succ, List.set_cons_zero, List.set_cons_succ, Option.map_some, Option.bind_some, if_true, if_false, Bool.false_eq_true, cmpD, eq_str, eq_int, in_chr, len_lst, len_tup, add_int, sub_int, int_int, int_bl, abs_int, newAt, isNewD, deref, partD, Option.bind_none, Option.map_none, Bool.not_true, Bool.not_false, ite_true, ite_false, reduceIte, Bool.and_true, Bool.true_and]
    rw [join_any (l.rows.map (joinL [32])) ?_ (by have := l.fpl_rows g; omega)]
    · simp only [list_lst, list_tup, tuple_lst, tuple_tup, x_v, x_b, x_non, x_bl, x_int, x_str, x_g, x_tup, x_lst, x_dct, x_bin, x_neg, x_not, x_cmp, x_cmp2, x_and, x_or, x_ite, x_call, x_mk, x_fld, x_prop, x_idx, x_sli, x_bf, x_bm, x_isi, x_rpeq, x_tix, x_tin, x_tups, x_lsts, x_slen, x_sidx, s_set, s_seto, s_par, s_aug, s_app, s_ext, s_insr, s_seti, s_setf, s_mv, s_ex, s_ite, s_ret, s_retn, s_appop, s_setw, s_retw, s_sets, sq_nil, sq_cons, es_nil, es_cons, ec_nil, ec_cons, bind_ok, ofO_some, boolR_bl, fin_rt, fin_nx, seqR_nx, seqR_rt, negR_int, cmp2R_t, cmp2R_f, mkR_some, fldR_ins, propR_ins, retwR_lst, setsR_lst, lstAt, lcF, bindP, bindPs, List.getD_cons_zero, List.getD_cons_succ, List.set_cons_zero, List.set_cons_succ, Option.map_some, Option.bind_some, if_true, if_false, Bool.false_eq_true, cmpD, eq_str, eq_int, in_chr, len_lst, len_tup, add_int, sub_int, int_int, int_bl, abs_int, newAt, isNewD, deref, partD, Option.bind_none, Option.map_none, Bool.not_true, Bool.not_false, ite_true, ite_false, reduceIte, Bool.and_true, Bool.true_and]; rfl
    · unfold Lo.rows
      rw [List.map_cons, List.map_cons, List.map_cons, List.map_cons, joinL_cons (List.length_pos_iff.mp f0), joinL_cons (List.length_pos_iff.mp k0), List.map_map, List.map_map]
      rfl
  · simp only [list_lst, list_tup, tuple_lst, tuple_tup, x_v, x_b, x_non, x_bl, x_int, x_str, x_g, x_tup, x_lst, x_dct, x_bin, x_neg, x_not, x_cmp, x_cmp2, x_and, x_or, x_ite, x_call, x_mk, x_fld, x_prop, x_idx, x_sli, x_bf, x_bm, x_isi, x_rpeq, x_tix, x_tin, x_tups, x_lsts, x_slen, x_sidx, s_set, s_seto, s_par, s_aug, s_app, s_ext, s_insr, s_seti, s_setf, s_mv, s_ex, s_ite, s_ret, s_retn, s_appop, s_setw, s_retw, s_sets, sq_nil, sq_cons, es_nil, es_cons, ec_nil, ec_cons, bind_ok, ofO_some, boolR_bl, fin_rt, fin_nx, seqR_nx, seqR_rt, negR_int, cmp2R_t, cmp2R_f, mkR_some, fldR_ins, propR_ins, retwR_lst, setsR_lst, lstAt, lcF, bindP, bindPs, List.getD_cons_zero, List.getD_cons_succ, List.set_cons_zero, List.set_cons_succ, Option.map_some, Option.bind_some, if_true, if_false, Bool.false_eq_true, cmpD, eq_str, eq_int, in_chr, len_lst, len_tup, add_int, sub_int, int_int, int_bl, abs_int, newAt, isNewD, deref, partD, Option.bind_none, Option.map_none, Bool.not_true, Bool.not_false, ite_true, ite_false, reduceIte, Bool.and_true, Bool.true_and, e_line g (g.cg c hc)]
def B3 : List (List Nat) := [sS, sK, sW]
theorem w12_name : ∀ x ∈ W12, Nm x = true ∧ x ∉ B3 := by decide
theorem barred {x : List Nat} : inD w (.str x) (.tup [.str [115, 97, 109, 101], .str [107, 105, 110, 100, 115], .str [119, 105, 116, 104, 105, 110]]) = some (B3.any (· == x)) := in_tup (zs := B3)
theorem sli_from {w : Wd} {xs : List D} {k : Nat} (h : k ≤ xs.length) : sliD w (.lst xs) (some (some (k : Int))) (some none) = some (.lst (xs.drop k)) := by
  show some (D.lst ((xs.drop (clampI xs.length k)).take (xs.length - clampI xs.length k))) = _
  have e : clampI xs.length k = k := by
    unfold clampI
    rw [if_pos (by omega), Int.toNat_natCast, Nat.min_eq_left h]
  rw [e, List.take_of_length_le (by rw [List.length_drop]; omega)]
theorem e_names {a : List Nat} {xs : List (List Nat)} (h0 : 1 ≤ xs.length) (h3 : xs.length ≤ 3) (hn : xs.Nodup) (hw : ∀ x ∈ xs, x ∈ W12) : CC ns (n + 3) F_names_in [.lst ((a :: xs).map .str)] w = .ok (.lst (xs.map .str)) w := by
  rw [st_names_in, c_names_in]
  have e1 : sliD w (.lst ((a :: xs).map .str)) (some (some 1)) (some none) = some (.lst (xs.map .str)) := sli_from (xs := (a :: xs).map .str) (k := 1) (by simp)
  simp only [list_lst, list_tup, tuple_lst, tuple_tup, x_v, x_b, x_non, x_bl, x_int, x_str, x_g, x_tup, x_lst, x_dct, x_bin, x_neg, x_not, x_cmp, x_cmp2, x_and, x_or, x_ite, x_call, x_mk, x_fld, x_prop, x_idx, x_sli, x_bf, x_bm, x_isi, x_rpeq, x_tix, x_tin, x_tups, x_lsts, x_slen, x_sidx, s_set, s_seto, s_par, s_aug, s_app, s_ext, s_insr, s_seti, s_setf, s_mv, s_ex, s_ite, s_ret, s_retn, s_appop, s_setw, s_retw, s_sets, sq_nil, sq_cons, es_nil, es_cons, ec_nil, ec_cons, bind_ok, ofO_some, boolR_bl, fin_rt, fin_nx, seqR_nx, seqR_rt, negR_int, cmp2R_t, cmp2R_f, mkR_some, fldR_ins, propR_ins, retwR_lst, setsR_lst, lstAt, lcF, bindP, bindPs, List.getD_cons_zero, List.getD_cons_succ, List.set_cons_zero, List.set_cons_succ, Option.map_some, Option.bind_some, if_true, if_false, Bool.false_eq_true, cmpD, eq_str, eq_int, in_chr, len_lst, len_tup, add_int, sub_int, int_int, int_bl, abs_int, newAt, isNewD, deref, partD, Option.bind_none, Option.map_none, Bool.not_true, Bool.not_false, ite_true, ite_false, reduceIte, Bool.and_true, Bool.true_and, e1, g_10, List.length_map]
  rw [decide_eq_true (show (1 : Int) ≤ xs.length by omega)]
  simp only [list_lst, list_tup, tuple_lst, tuple_tup, x_v, x_b, x_non, x_bl, x_int, x_str, x_g, x_tup, x_lst, x_dct, x_bin, x_neg, x_not, x_cmp, x_cmp2, x_and, x_or, x_ite, x_call, x_mk, x_fld, x_prop, x_idx, x_sli, x_bf, x_bm, x_isi, x_rpeq, x_tix, x_tin, x_tups, x_lsts, x_slen, x_sidx, s_set, s_seto, s_par, s_aug, s_app, s_ext, s_insr, s_seti, s_setf, s_mv, s_ex, s_ite, s_ret, s_retn, s_appop, s_setw, s_retw, s_sets, sq_nil, sq_cons, es_nil, es_cons, ec_nil, ec_cons, bind_ok, ofO_some, boolR_bl, fin_rt, fin_nx, seqR_nx, seqR_rt, negR_int, cmp2R_t, cmp2R_f, mkR_some, fldR_ins, propR_ins, retwR_lst, setsR_lst, lstAt, lcF, bindP, bindPs, List.getD_cons_zero, List.getD_cons_succ, List.set_cons_zero, List.set_cons_succ, Option.map_some, Option.bind_some, if_true, if_false, Bool.false_eq_true, cmpD, eq_str, eq_int, in_chr, len_lst, len_tup, add_int, sub_int, int_int, int_bl, abs_int, newAt, isNewD, deref, partD, Option.bind_none, Option.map_none, Bool.not_true, Bool.not_false, ite_true, ite_false, reduceIte, Bool.and_true, Bool.true_and, g_10]
  rw [decide_eq_true (show (xs.length : Int) ≤ 3 by omega)]
  simp only [list_lst, list_tup, tuple_lst, tuple_tup, x_v, x_b, x_non, x_bl, x_int, x_str, x_g, x_tup, x_lst, x_dct, x_bin, x_neg, x_not, x_cmp, x_cmp2, x_and, x_or, x_ite, x_call, x_mk, x_fld, x_prop, x_idx, x_sli, x_bf, x_bm, x_isi, x_rpeq, x_tix, x_tin, x_tups, x_lsts, x_slen, x_sidx, s_set, s_seto, s_par, s_aug, s_app, s_ext, s_insr, s_seti, s_setf, s_mv, s_ex, s_ite, s_ret, s_retn, s_appop, s_setw, s_retw, s_sets, sq_nil, sq_cons, es_nil, es_cons, ec_nil, ec_cons, bind_ok, ofO_some, boolR_bl, fin_rt, fin_nx, seqR_nx, seqR_rt, negR_int, cmp2R_t, cmp2R_f, mkR_some, fldR_ins, propR_ins, retwR_lst, setsR_lst, lstAt, lcF, bindP, bindPs, List.getD_cons_zero, List.getD_cons_succ, List.set_cons_zero, List.set_cons_succ, Option.map_some, Option.bind_some, if_true, if_false, Bool.false_eq_true, cmpD, eq_str, eq_int, in_chr, len_lst, len_tup, add_int, sub_int, int_int, int_bl, abs_int, newAt, isNewD, deref, partD, Option.bind_none, Option.map_none, Bool.not_true, Bool.not_false, ite_true, ite_false, reduceIte, Bool.and_true, Bool.true_and]
  rw [lc_map xs .str (fun _ => .bl true) rfl rfl fun x hx => ?_]
  · simp only [list_lst, list_tup, tuple_lst, tuple_tup, x_v, x_b, x_non, x_bl, x_int, x_str, x_g, x_tup, x_lst, x_dct, x_bin, x_neg, x_not, x_cmp, x_cmp2, x_and, x_or, x_ite, x_call, x_mk, x_fld, x_prop, x_idx, x_sli, x_bf, x_bm, x_isi, x_rpeq, x_tix, x_tin, x_tups, x_lsts, x_slen, x_sidx, s_set, s_seto, s_par, s_aug, s_app, s_ext, s_insr, s_seti, s_setf, s_mv, s_ex, s_ite, s_ret, s_retn, s_appop, s_setw, s_retw, s_sets, sq_nil, sq_cons, es_nil, es_cons, ec_nil, ec_cons, bind_ok, ofO_some, boolR_bl, fin_rt, fin_nx, seqR_nx, seqR_rt, negR_int, cmp2R_t, cmp2R_f, mkR_some, fldR_ins, propR_ins, retwR_lst, setsR_lst, lstAt, lcF, bindP, bindPs, List.getD_cons_zero, List.getD_cons_succ, List.set_cons_zero, List.set_cons_succ, Option.map_some, Option.bind_some, if_true, if_false, Bool.false_eq_true, cmpD, eq_str, eq_int, in_chr, len_lst, len_tup, add_int, sub_int, int_int, int_bl, abs_int, newAt, isNewD, deref, partD, Option.bind_none, Option.map_none, Bool.not_true, Bool.not_false, ite_true, ite_false, reduceIte, Bool.and_true, Bool.true_and, all_true, lenset_strs (show xs.length < 4000 by omega) hn, beq_self_eq_true, List.length_map]
  · simp only [list_lst, list_tup, tuple_lst, tuple_tup, x_v, x_b, x_non, x_bl, x_int, x_str, x_g, x_tup, x_lst, x_dct, x_bin, x_neg, x_not, x_cmp, x_cmp2, x_and, x_or, x_ite, x_call, x_mk, x_fld, x_prop, x_idx, x_sli, x_bf, x_bm, x_isi, x_rpeq, x_tix, x_tin, x_tups, x_lsts, x_slen, x_sidx, s_set, s_seto, s_par, s_aug, s_app, s_ext, s_insr, s_seti, s_setf, s_mv, s_ex, s_ite, s_ret, s_retn, s_appop, s_setw, s_retw, s_sets, sq_nil, sq_cons, es_nil, es_cons, ec_nil, ec_cons, bind_ok, ofO_some, boolR_bl, fin_rt, fin_nx, seqR_nx, seqR_rt, negR_int, cmp2R_t, cmp2R_f, mkR_some, fldR_ins, propR_ins, retwR_lst, setsR_lst, lstAt, lcF, bindP, bindPs, List.getD_cons_zero, List.getD_cons_succ, List.set_cons_zero, List.set_cons_succ, Option.map_some, Option.bind_some, if_true, if_false, Bool.false_eq_true, cmpD, eq_str, eq_int, in_chr, len_lst, len_tup, add_int, sub_int, int_int, int_bl, abs_int, newAt, isNewD, deref, partD, Option.bind_none, Option.map_none, Bool.not_true, Bool.not_false, ite_true, ite_false, reduceIte, Bool.and_true, Bool.true_and, e_name (w12_name x (hw x hx)).1, g_9, barred, any_not (w12_name x (hw x hx)).2]
end
end MP.K01

set_option Elab.async false
set_option linter.all false
set_option maxRecDepth 100000
namespace MP.K01
open MP.C
section
variable {ns : List Int} {n : Nat} {w : Wd}
theorem zip_ints : ∀ xs ys : List Int, zipL (xs.map .int) (ys.map .int) = (xs.zip ys).map fun q => .tup [.int q.1, .int q.2]
  | [], _ => rfl
  | _ :: _, [] => rfl
  | x :: xs, y :: ys => by
    show D.tup [.int x, .int y] :: zipL (xs.map .int) (ys.map .int) = _
    rw [zip_ints xs ys]; rfl
theorem asc_zip : ∀ {ps : List Int}, ps.Pairwise (· < ·) → ∀ q ∈ ps.zip ps.tail, q.1 < q.2
  | [], _, q, h => by cases h
  | [_], _, q, h => by cases h
  | a :: b :: r, h, q, hq => by
    have h1 := List.pairwise_cons.mp h
    have hq' : q ∈ (a, b) :: (b :: r).zip (b :: r).tail := hq
    rcases List.mem_cons.mp hq' with rfl | hq
    · exact h1.1 b List.mem_cons_self
    · exact asc_zip h1.2 q hq
theorem e_ascend {ps : List Int} (h : ps.Pairwise (· < ·)) (h0 : ps ≠ []) : CC ns (n + 1) F_do_ascend [.lst (ps.map .int)] w = .ok (.bl true) w := by
  rw [st_do_ascend, c_do_ascend]
  have h1 := List.length_pos_iff.mpr h0
  have e1 : sliD w (.lst (ps.map D.int)) (some (some 1)) (some none) = some (.lst (ps.tail.map .int)) := by
    have := sli_from (w := w) (xs := ps.map D.int) (k := 1) (by rw [List.length_map]; omega)
    rw [List.drop_one, ← List.map_tail] at this
    exact this
  have ez : bfD w .zip [.lst (ps.map .int), .lst (ps.tail.map .int)] = some (.lst ((ps.zip ps.tail).map fun q => .tup [.int q.1, .int q.2])) := by
    show some (D.lst (zipL _ _)) = _
    rw [zip_ints]
  simp only [list_lst, list_tup, tuple_lst, tuple_tup, x_v, x_b, x_non, x_bl, x_int, x_str, x_g, x_tup, x_lst, x_dct, x_bin, x_neg, x_not, x_cmp, x_cmp2, x_and, x_or, x_ite, x_call, x_mk, x_fld, x_prop, x_idx, x_sli, x_bf, x_bm, x_isi, x_rpeq, x_tix, x_tin, x_tups, x_lsts, x_slen, x_sidx, s_set, s_seto, s_par, s_aug, s_app, s_ext, s_insr, s_seti, s_setf, s_mv, s_ex, s_ite, s_ret, s_retn, s_appop, s_setw, s_retw, s_sets, sq_nil, sq_cons, es_nil, es_cons, ec_nil, ec_cons, bind_ok, ofO_some, boolR_bl, fin_rt, fin_nx, seqR_nx, seqR_rt, negR_int, cmp2R_t, cmp2R_f, mkR_some, fldR_ins, propR_ins, retwR_lst, setsR_lst, lstAt, lcF, bindP, bindPs, List.getD_cons_zero, List.getD_cons_succ, List.set_cons_zero, List.set_cons_succ, Option.map_some, Option.bind_some, if_true, if_false, Bool.false_eq_true, cmpD, eq_str, eq_int, in_chr, len_lst, len_tup, add_int, sub_int, int_int, int_bl, abs_int, newAt, isNewD, deref, partD, Option.bind_none, Option.map_none, Bool.not_true, Bool.not_false, ite_true, ite_false, reduceIte, Bool.and_true, Bool.true_and]
  rw [lc_map (xs := .lst ((ps.zip ps.tail).map fun q => .tup [.int q.1, .int q.2])) (ps.zip ps.tail) (fun q => .tup [.int q.1, .int q.2]) (fun _ => .bl true) (by simp only [list_lst, list_tup, tuple_lst, tuple_tup, x_v, x_b, x_non, x_bl, x_int, x_str, x_g, x_tup, x_lst, x_dct, x_bin, x_neg, x_not, x_cmp, x_cmp2, x_and, x_or, x_ite, x_call, x_mk, x_fld, x_prop, x_idx, x_sli, x_bf, x_bm, x_isi, x_rpeq, x_tix, x_tin, x_tups, x_lsts, x_slen, x_sidx, s_set, s_seto, s_par, s_aug, s_app, s_ext, s_insr, s_seti, s_setf, s_mv, s_ex, s_ite, s_ret, s_retn, s_appop, s_setw, s_retw, s_sets, sq_nil, sq_cons, es_nil, es_cons, ec_nil, ec_cons, bind_ok, ofO_some, boolR_bl, fin_rt, fin_nx, seqR_nx, seqR_rt, negR_int, cmp2R_t, cmp2R_f, mkR_some, fldR_ins, propR_ins, retwR_lst, setsR_lst, lstAt, lcF, bindP, bindPs, List.getD_cons_zero, List.getD_cons_succ, List.set_cons_zero, List.set_cons_succ, Option.map_some, Option.bind_some, if_true, if_false, Bool.false_eq_true, cmpD, eq_str, eq_int, in_chr, len_lst, len_tup, add_int, sub_int, int_int, int_bl, abs_int, newAt, isNewD, deref, partD, Option.bind_none, Option.map_none, Bool.not_true, Bool.not_false, ite_true, ite_false, reduceIte, Bool.and_true, Bool.true_and, e1, ez]) rfl fun q hq => ?_]
  · simp only [list_lst, list_tup, tuple_lst, tuple_tup, x_v, x_b, x_non, x_bl, x_int, x_str, x_g, x_tup, x_lst, x_dct, x_bin, x_neg, x_not, x_cmp, x_cmp2, x_and, x_or, x_ite, x_call, x_mk, x_fld, x_prop, x_idx, x_sli, x_bf, x_bm, x_isi, x_rpeq, x_tix, x_tin, x_tups, x_lsts, x_slen, x_sidx, s_set, s_seto, s_par, s_aug, s_app, s_ext, s_insr, s_seti, s_setf, s_mv, s_ex, s_ite, s_ret, s_retn, s_appop, s_setw, s_retw, s_sets, sq_nil, sq_cons, es_nil, es_cons, ec_nil, ec_cons, bind_ok, ofO_some, boolR_bl, fin_rt, fin_nx, seqR_nx, seqR_rt, negR_int, cmp2R_t, cmp2R_f, mkR_some, fldR_ins, propR_ins, retwR_lst, setsR_lst, lstAt, lcF, bindP, bindPs, List.getD_cons_zero, List.getD_cons_succ, List.set_cons_zero, List.set_cons_succ, Option.map_some, Option.bind_some, if_true, if_false, Bool.false_eq_true, cmpD, eq_str, eq_int, in_chr, len_lst, len_tup, add_int, sub_int, int_int, int_bl, abs_int, newAt, isNewD, deref, partD, Option.bind_none, Option.map_none, Bool.not_true, Bool.not_false, ite_true, ite_false, reduceIte, Bool.and_true, Bool.true_and, all_true]
  · simp only [list_lst, list_tup, tuple_lst, tuple_tup, x_v, x_b, x_non, x_bl, x_int, x_str, x_g, x_tup, x_lst, x_dct, x_bin, x_neg, x_not, x_cmp, x_cmp2, x_and, x_or, x_ite, x_call, x_mk, x_fld, x_prop, x_idx, x_sli, x_bf, x_bm, x_isi, x_rpeq, x_tix, x_tin, x_tups, x_lsts, x_slen, x_sidx, s_set, s_seto, s_par, s_aug, s_app, s_ext, s_insr, s_seti, s_setf, s_mv, s_ex, s_ite, s_ret, s_retn, s_appop, s_setw, s_retw, s_sets, sq_nil, sq_cons, es_nil, es_cons, ec_nil, ec_cons, bind_ok, ofO_some, boolR_bl, fin_rt, fin_nx, seqR_nx, seqR_rt, negR_int, cmp2R_t, cmp2R_f, mkR_some, fldR_ins, propR_ins, retwR_lst, setsR_lst, lstAt, lcF, bindP, bindPs, List.getD_cons_zero, List.getD_cons_succ, List.set_cons_zero, List.set_cons_succ, Option.map_some, Option.bind_some, if_true, if_false, Bool.false_eq_true, cmpD, eq_str, eq_int, in_chr, len_lst, len_tup, add_int, sub_int, int_int, int_bl, abs_int, newAt, isNewD, deref, partD, Option.bind_none, Option.map_none, Bool.not_true, Bool.not_false, ite_true, ite_false, reduceIte, Bool.and_true, Bool.true_and, decide_eq_true (asc_zip h q hq)]
theorem e_are_some {l : Lo} (g : l.Good) {ps : List Int} (h : ps.Pairwise (· < ·)) (h0 : ps ≠ []) (hb : ∀ p ∈ ps, 0 ≤ p ∧ p < l.fs.length) : CC ns (n + 2) F_are_some [.tup (ps.map fun p => .str (l.fs.getD p.toNat [])), .lst (l.fs.map .str)] w = .ok (.bl true) w := by
  rw [st_are_some, c_are_some]
  simp only [list_lst, list_tup, tuple_lst, tuple_tup, x_v, x_b, x_non, x_bl, x_int, x_str, x_g, x_tup, x_lst, x_dct, x_bin, x_neg, x_not, x_cmp, x_cmp2, x_and, x_or, x_ite, x_call, x_mk, x_fld, x_prop, x_idx, x_sli, x_bf, x_bm, x_isi, x_rpeq, x_tix, x_tin, x_tups, x_lsts, x_slen, x_sidx, s_set, s_seto, s_par, s_aug, s_app, s_ext, s_insr, s_seti, s_setf, s_mv, s_ex, s_ite, s_ret, s_retn, s_appop, s_setw, s_retw, s_sets, sq_nil, sq_cons, es_nil, es_cons, ec_nil, ec_cons, bind_ok, ofO_some, boolR_bl, fin_rt, fin_nx, seqR_nx, seqR_rt, negR_int, cmp2R_t, cmp2R_f, mkR_some, fldR_ins, propR_ins, retwR_lst, setsR_lst, lstAt, lcF, bindP, bindPs, List.getD_cons_zero, List.getD_cons_succ, List.set_cons_zero, List.set_cons_succ, Option.map_some, Option.bind_some, if_true, if_false, Bool.false_eq_true, cmpD, eq_str, eq_int, in_chr, len_lst, len_tup, add_int, sub_int, int_int, int_bl, abs_int, newAt, isNewD, deref, partD, Option.bind_none, Option.map_none, Bool.not_true, Bool.not_false, ite_true, ite_false, reduceIte, Bool.and_true, Bool.true_and, isiD]
  rw [lc_map (xs := .tup (ps.map fun p => .str (l.fs.getD p.toNat []))) ps (fun p => .str (l.fs.getD p.toNat [])) (fun _ => .bl true) (by simp only [list_lst, list_tup, tuple_lst, tuple_tup, x_v, x_b, x_non, x_bl, x_int, x_str, x_g, x_tup, x_lst, x_dct, x_bin, x_neg, x_not, x_cmp, x_cmp2, x_and, x_or, x_ite, x_call, x_mk, x_fld, x_prop, x_idx, x_sli, x_bf, x_bm, x_isi, x_rpeq, x_tix, x_tin, x_tups, x_lsts, x_slen, x_sidx, s_set, s_seto, s_par, s_aug, s_app, s_ext, s_insr, s_seti, s_setf, s_mv, s_ex, s_ite, s_ret, s_retn, s_appop, s_setw, s_retw, s_sets, sq_nil, sq_cons, es_nil, es_cons, ec_nil, ec_cons, bind_ok, ofO_some, boolR_bl, fin_rt, fin_nx, seqR_nx, seqR_rt, negR_int, cmp2R_t, cmp2R_f, mkR_some, fldR_ins, propR_ins, retwR_lst, setsR_lst, lstAt, lcF, bindP, bindPs, List.getD_cons_zero, List.getD_cons_succ, List.set_cons_zero, List.set_cons_succ, Option.map_some, Option.bind_some, if_true, if_false, Bool.false_eq_true, cmpD, eq_str, eq_int, in_chr, len_lst, len_tup, add_int, sub_int, int_int, int_bl, abs_int, newAt, isNewD, deref, partD, Option.bind_none, Option.map_none, Bool.not_true, Bool.not_false, ite_true, ite_false, reduceIte, Bool.and_true, Bool.true_and]) rfl fun p hp => ?_]
  · simp only [list_lst, list_tup, tuple_lst, tuple_tup, x_v, x_b, x_non, x_bl, x_int, x_str, x_g, x_tup, x_lst, x_dct, x_bin, x_neg, x_not, x_cmp, x_cmp2, x_and, x_or, x_ite, x_call, x_mk, x_fld, x_prop, x_idx, x_sli, x_bf, x_bm, x_isi, x_rpeq, x_tix, x_tin, x_tups, x_lsts, x_slen, x_sidx, s_set, s_seto, s_par, s_aug, s_app, s_ext, s_insr, s_seti, s_setf, s_mv, s_ex, s_ite, s_ret, s_retn, s_appop, s_setw, s_retw, s_sets, sq_nil, sq_cons, es_nil, es_cons, ec_nil, ec_cons, bind_ok, ofO_some, boolR_bl, fin_rt, fin_nx, seqR_nx, seqR_rt, negR_int, cmp2R_t, cmp2R_f, mkR_some, fldR_ins, propR_ins, retwR_lst, setsR_lst, lstAt, lcF, bindP, bindPs, List.getD_cons_zero, List.getD_cons_succ, List.set_cons_zero, List.set_cons_succ, Option.map_some, Option.bind_some, if_true, if_false, Bool.false_eq_true, cmpD, eq_str, eq_int, in_chr, len_lst, len_tup, add_int, sub_int, int_int, int_bl, abs_int, newAt, isNewD, deref, partD, Option.bind_none, Option.map_none, Bool.not_true, Bool.not_false, ite_true, ite_false, reduceIte, Bool.and_true, Bool.true_and, all_true]
    rw [lc_map (xs := .tup (ps.map fun p => .str (l.fs.getD p.toNat []))) ps (fun p => .str (l.fs.getD p.toNat [])) .int (by simp only [list_lst, list_tup, tuple_lst, tuple_tup, x_v, x_b, x_non, x_bl, x_int, x_str, x_g, x_tup, x_lst, x_dct, x_bin, x_neg, x_not, x_cmp, x_cmp2, x_and, x_or, x_ite, x_call, x_mk, x_fld, x_prop, x_idx, x_sli, x_bf, x_bm, x_isi, x_rpeq, x_tix, x_tin, x_tups, x_lsts, x_slen, x_sidx, s_set, s_seto, s_par, s_aug, s_app, s_ext, s_insr, s_seti, s_setf, s_mv, s_ex, s_ite, s_ret, s_retn, s_appop, s_setw, s_retw, s_sets, sq_nil, sq_cons, es_nil, es_cons, ec_nil, ec_cons, bind_ok, ofO_some, boolR_bl, fin_rt, fin_nx, seqR_nx, seqR_rt, negR_int, cmp2R_t, cmp2R_f, mkR_some, fldR_ins, propR_ins, retwR_lst, setsR_lst, lstAt, lcF, bindP, bindPs, List.getD_cons_zero, List.getD_cons_succ, List.set_cons_zero, List.set_cons_succ, Option.map_some, Option.bind_some, if_true, if_false, Bool.false_eq_true, cmpD, eq_str, eq_int, in_chr, len_lst, len_tup, add_int, sub_int, int_int, int_bl, abs_int, newAt, isNewD, deref, partD, Option.bind_none, Option.map_none, Bool.not_true, Bool.not_false, ite_true, ite_false, reduceIte, Bool.and_true, Bool.true_and]) rfl fun p hp => ?_]
    · simp only [list_lst, list_tup, tuple_lst, tuple_tup, x_v, x_b, x_non, x_bl, x_int, x_str, x_g, x_tup, x_lst, x_dct, x_bin, x_neg, x_not, x_cmp, x_cmp2, x_and, x_or, x_ite, x_call, x_mk, x_fld, x_prop, x_idx, x_sli, x_bf, x_bm, x_isi, x_rpeq, x_tix, x_tin, x_tups, x_lsts, x_slen, x_sidx, s_set, s_seto, s_par, s_aug, s_app, s_ext, s_insr, s_seti, s_setf, s_mv, s_ex, s_ite, s_ret, s_retn, s_appop, s_setw, s_retw, s_sets, sq_nil, sq_cons, es_nil, es_cons, ec_nil, ec_cons, bind_ok, ofO_some, boolR_bl, fin_rt, fin_nx, seqR_nx, seqR_rt, negR_int, cmp2R_t, cmp2R_f, mkR_some, fldR_ins, propR_ins, retwR_lst, setsR_lst, lstAt, lcF, bindP, bindPs, List.getD_cons_zero, List.getD_cons_succ, List.set_cons_zero, List.set_cons_succ, Option.map_some, Option.bind_some, if_true, if_false, Bool.false_eq_true, cmpD, eq_str, eq_int, in_chr, len_lst, len_tup, add_int, sub_int, int_int, int_bl, abs_int, newAt, isNewD, deref, partD, Option.bind_none, Option.map_none, Bool.not_true, Bool.not_false, ite_true, ite_false, reduceIte, Bool.and_true, Bool.true_and, e_ascend h h0]
    · simp only [list_lst, list_tup, tuple_lst, tuple_tup, x_v, x_b, x_non, x_bl, x_int, x_str, x_g, x_tup, x_lst, x_dct, x_bin, x_neg, x_not, x_cmp, x_cmp2, x_and, x_or, x_ite, x_call, x_mk, x_fld, x_prop, x_idx, x_sli, x_bf, x_bm, x_isi, x_rpeq, x_tix, x_tin, x_tups, x_lsts, x_slen, x_sidx, s_set, s_seto, s_par, s_aug, s_app, s_ext, s_insr, s_seti, s_setf, s_mv, s_ex, s_ite, s_ret, s_retn, s_appop, s_setw, s_retw, s_sets, sq_nil, sq_cons, es_nil, es_cons, ec_nil, ec_cons, bind_ok, ofO_some, boolR_bl, fin_rt, fin_nx, seqR_nx, seqR_rt, negR_int, cmp2R_t, cmp2R_f, mkR_some, fldR_ins, propR_ins, retwR_lst, setsR_lst, lstAt, lcF, bindP, bindPs, List.getD_cons_zero, List.getD_cons_succ, List.set_cons_zero, List.set_cons_succ, Option.map_some, Option.bind_some, if_true, if_false, Bool.false_eq_true, cmpD, eq_str, eq_int, in_chr, len_lst, len_tup, add_int, sub_int, int_int, int_bl, abs_int, newAt, isNewD, deref, partD, Option.bind_none, Option.map_none, Bool.not_true, Bool.not_false, ite_true, ite_false, reduceIte, Bool.and_true, Bool.true_and, index_lst g.fn (getD_mem (hb p hp))]
      rw [show ((p.toNat : Nat) : Int) = p by have := hb p hp; omega]
  · simp only [list_lst, list_tup, tuple_lst, tuple_tup, x_v, x_b, x_non, x_bl, x_int, x_str, x_g, x_tup, x_lst, x_dct, x_bin, x_neg, x_not, x_cmp, x_cmp2, x_and, x_or, x_ite, x_call, x_mk, x_fld, x_prop, x_idx, x_sli, x_bf, x_bm, x_isi, x_rpeq, x_tix, x_tin, x_tups, x_lsts, x_slen, x_sidx, s_set, s_seto, s_par, s_aug, s_app, s_ext, s_insr, s_seti, s_setf, s_mv, s_ex, s_ite, s_ret, s_retn, s_appop, s_setw, s_retw, s_sets, sq_nil, sq_cons, es_nil, es_cons, ec_nil, ec_cons, bind_ok, ofO_some, boolR_bl, fin_rt, fin_nx, seqR_nx, seqR_rt, negR_int, cmp2R_t, cmp2R_f, mkR_some, fldR_ins, propR_ins, retwR_lst, setsR_lst, lstAt, lcF, bindP, bindPs, List.getD_cons_zero, List.getD_cons_succ, List.set_cons_zero, List.set_cons_succ, Option.map_some, Option.bind_some, if_true, if_false, Bool.false_eq_true, cmpD, eq_str, eq_int, in_chr, len_lst, len_tup, add_int, sub_int, int_int, int_bl, abs_int, newAt, isNewD, deref, partD, Option.bind_none, Option.map_none, Bool.not_true, Bool.not_false, ite_true, ite_false, reduceIte, Bool.and_true, Bool.true_and, isiD, in_lst, any_mem (mem_getD (hb p hp))]
theorem sli_mid {w : Wd} {xs : List D} {a b : Nat} (ha : a ≤ xs.length) (hb : b ≤ xs.length) : sliD w (.lst xs) (some (some (a : Int))) (some (some (b : Int))) = some (.lst ((xs.drop a).take (b - a))) := by
  show some (D.lst ((xs.drop (clampI xs.length a)).take (clampI xs.length b - clampI xs.length a))) = _
  have e : ∀ k : Nat, k ≤ xs.length → clampI xs.length k = k := fun k h => by
    unfold clampI
    rw [if_pos (by omega), Int.toNat_natCast, Nat.min_eq_left h]
  rw [e a ha, e b hb]
def cA : CS := c_clause_in.body.getD 2 .pas
def cB : CS := c_clause_in.body.getD 3 .pas
def cW : CS := c_clause_in.body.getD 4 .pas
theorem get_mid {xs R : List (List Nat)} {k : Nat} (h : k < xs.length) : ((sS :: xs ++ R).map D.str)[k + 1]? = some (.str xs[k]) := by
  rw [List.getElem?_map]
  show (((xs ++ R)[k]?).map _) = _
  rw [List.getElem?_append_left h, List.getElem?_eq_getElem h]; rfl
abbrev whC : CE := .and (.cmp .lt (.v 7) (.bf .len [.v 3])) (.cmp .notin (.idx (.v 3) (.v 7)) (.g 9))
abbrev whB : List CS := [.aug 7 .add (.int 1)]
theorem wh_loop {T : Tb} {C : CallF} (hg : T.glb 9 = some (.tup [.str [115, 97, 109, 101], .str [107, 105, 110, 100, 115], .str [119, 105, 116, 104, 105, 110]])) {xs R : List (List Nat)} (hn : ∀ x ∈ xs, x ∉ B3) (hR : ∀ r, R.head? = some r → r ∈ B3) {a b c d e f g h : Option D} : ∀ (m k M : Nat), k + m = xs.length → m < M →
    goW (fun ρ w => (ev T C whC ρ w).bind boolR) (fun ρ w => evSs T C whB ρ w) M [a, b, c, some (.lst ((sS :: xs ++ R).map .str)), d, e, f, some (.int ((k : Int) + 1)), g, h] w = .ok (.nx [a, b, c, some (.lst ((sS :: xs ++ R).map .str)), d, e, f, some (.int ((xs.length : Int) + 1)), g, h]) w
  | 0, k, M + 1, hk, _ => by
    obtain rfl : k = xs.length := by omega
    have hc : (ev T C whC [a, b, c, some (.lst ((sS :: xs ++ R).map .str)), d, e, f, some (.int ((xs.length : Int) + 1)), g, h] w).bind boolR = .ok false w := by
      simp only [list_lst, list_tup, tuple_lst, tuple_tup, x_v, x_b, x_non, x_bl, x_int, x_str, x_g, x_tup, x_lst, x_dct, x_bin, x_neg, x_not, x_cmp, x_cmp2, x_and, x_or, x_ite, x_call, x_mk, x_fld, x_prop, x_idx, x_sli, x_bf, x_bm, x_isi, x_rpeq, x_tix, x_tin, x_tups, x_lsts, x_slen, x_sidx, s_set, s_seto, s_par, s_aug, s_app, s_ext, s_insr, s_seti, s_setf, s_mv, s_ex, s_ite, s_ret, s_retn, s_appop, s_setw, s_retw, s_sets, sq_nil, sq_cons, es_nil, es_cons, ec_nil, ec_cons, bind_ok, ofO_some, boolR_bl, fin_rt, fin_nx, seqR_nx, seqR_rt, negR_int, cmp2R_t, cmp2R_f, mkR_some, fldR_ins, propR_ins, retwR_lst, setsR_lst, lstAt, lcF, bindP, bindPs, List.getD_cons_zero, List.getD_cons_succ, List.set_cons_zero, List.set_cons_succ, Option.map_some, Option.bind_some, if_true, if_false, Bool.false_eq_true, cmpD, eq_str, eq_int, in_chr, len_lst, len_tup, add_int, sub_int, int_int, int_bl, abs_int, newAt, isNewD, deref, partD, Option.bind_none, Option.map_none, Bool.not_true, Bool.not_false, ite_true, ite_false, reduceIte, Bool.and_true, Bool.true_and, List.length_map, List.length_cons, List.length_append]
      cases R with
      | nil =>
        rw [if_neg (by rw [decide_eq_true_eq]; simp only [List.length_nil]; omega)]
        simp only [list_lst, list_tup, tuple_lst, tuple_tup, x_v, x_b, x_non, x_bl, x_int, x_str, x_g, x_tup, x_lst, x_dct, x_bin, x_neg, x_not, x_cmp, x_cmp2, x_and, x_or, x_ite, x_call, x_mk, x_fld, x_prop, x_idx, x_sli, x_bf, x_bm, x_isi, x_rpeq, x_tix, x_tin, x_tups, x_lsts, x_slen, x_sidx, s_set, s_seto, s_par, s_aug, s_app, s_ext, s_insr, s_seti, s_setf, s_mv, s_ex, s_ite, s_ret, s_retn, s_appop, s_setw, s_retw, s_sets, sq_nil, sq_cons, es_nil, es_cons, ec_nil, ec_cons, bind_ok, ofO_some, boolR_bl, fin_rt, fin_nx, seqR_nx, seqR_rt, negR_int, cmp2R_t, cmp2R_f, mkR_some, fldR_ins, propR_ins, retwR_lst, setsR_lst, lstAt, lcF, bindP, bindPs, List.getD_cons_zero, List.getD_cons_succ, List.set_cons_zero, List.set_cons_succ, Option.map_some, Option.bind_some, if_true, if_false, Bool.false_eq_true, cmpD, eq_str, eq_int, in_chr, len_lst, len_tup, add_int, sub_int, int_int, int_bl, abs_int, newAt, isNewD, deref, partD, Option.bind_none, Option.map_none, Bool.not_true, Bool.not_false, ite_true, ite_false, reduceIte, Bool.and_true, Bool.true_and]
      | cons r R =>
        have e1 : idxD w (.lst ((sS :: xs ++ r :: R).map .str)) (.int ((xs.length : Int) + 1)) = some (.str r) := idx_lst (by omega) (by
          rw [show ((xs.length : Int) + 1).toNat = xs.length + 1 by omega, List.getElem?_map]
          show (((xs ++ r :: R)[xs.length]?).map _) = _
          rw [List.getElem?_append_right (Nat.le_refl _), Nat.sub_self]; rfl)
        rw [if_pos (by rw [decide_eq_true_eq]; simp only [List.length_cons]; omega)]
        simp only [list_lst, list_tup, tuple_lst, tuple_tup, x_v, x_b, x_non, x_bl, x_int, x_str, x_g, x_tup, x_lst, x_dct, x_bin, x_neg, x_not, x_cmp, x_cmp2, x_and, x_or, x_ite, x_call, x_mk, x_fld, x_prop, x_idx, x_sli, x_bf, x_bm, x_isi, x_rpeq, x_tix, x_tin, x_tups, x_lsts, x_slen, x_sidx, s_set, s_seto, s_par, s_aug, s_app, s_ext, s_insr, s_seti, s_setf, s_mv, s_ex, s_ite, s_ret, s_retn, s_appop, s_setw, s_retw, s_sets, sq_nil, sq_cons, es_nil, es_cons, ec_nil, ec_cons, bind_ok, ofO_some, boolR_bl, fin_rt, fin_nx, seqR_nx, seqR_rt, negR_int, cmp2R_t, cmp2R_f, mkR_some, fldR_ins, propR_ins, retwR_lst, setsR_lst, lstAt, lcF, bindP, bindPs, List.getD_cons_zero, List.getD_cons_succ, List.set_cons_zero, List.set_cons_succ, Option.map_some, Option.bind_some, if_true, if_false, Bool.false_eq_true, cmpD, eq_str, eq_int, in_chr, len_lst, len_tup, add_int, sub_int, int_int, int_bl, abs_int, newAt, isNewD, deref, partD, Option.bind_none, Option.map_none, Bool.not_true, Bool.not_false, ite_true, ite_false, reduceIte, Bool.and_true, Bool.true_and, e1, hg, barred, any_mem (hR r rfl)]
    rw [goW_s]
    refine (congrArg (fun r => MP.R.bind r _) hc).trans ?_
    rfl
  | m + 1, k, M + 1, hk, hM => by
    have hk' : k < xs.length := by omega
    have e1 : idxD w (.lst ((sS :: xs ++ R).map .str)) (.int ((k : Int) + 1)) = some (.str xs[k]) := idx_lst (by omega) (by
        rw [show ((k : Int) + 1).toNat = k + 1 by omega]; exact get_mid hk')
    have hc : (ev T C whC [a, b, c, some (.lst ((sS :: xs ++ R).map .str)), d, e, f, some (.int ((k : Int) + 1)), g, h] w).bind boolR = .ok true w := by
      simp only [list_lst, list_tup, tuple_lst, tuple_tup, x_v, x_b, x_non, x_bl, x_int, x_str, x_g, x_tup, x_lst, x_dct, x_bin, x_neg, x_not, x_cmp, x_cmp2, x_and, x_or, x_ite, x_call, x_mk, x_fld, x_prop, x_idx, x_sli, x_bf, x_bm, x_isi, x_rpeq, x_tix, x_tin, x_tups, x_lsts, x_slen, x_sidx, s_set, s_seto, s_par, s_aug, s_app, s_ext, s_insr, s_seti, s_setf, s_mv, s_ex, s_ite, s_ret, s_retn, s_appop, s_setw, s_retw, s_sets, sq_nil, sq_cons, es_nil, es_cons, ec_nil, ec_cons, bind_ok, ofO_some, boolR_bl, fin_rt, fin_nx, seqR_nx, seqR_rt, negR_int, cmp2R_t, cmp2R_f, mkR_some, fldR_ins, propR_ins, retwR_lst, setsR_lst, lstAt, lcF, bindP, bindPs, List.getD_cons_zero, List.getD_cons_succ, List.set_cons_zero, List.set_cons_succ, Option.map_some, Option.bind_some, if_true, if_false, Bool.false_eq_true, cmpD, eq_str, eq_int, in_chr, len_lst, len_tup, add_int, sub_int, int_int, int_bl, abs_int, newAt, isNewD, deref, partD, Option.bind_none, Option.map_none, Bool.not_true, Bool.not_false, ite_true, ite_false, reduceIte, Bool.and_true, Bool.true_and, List.length_map, List.length_cons, List.length_append]
      rw [if_pos (by rw [decide_eq_true_eq]; omega)]
      simp only [list_lst, list_tup, tuple_lst, tuple_tup, x_v, x_b, x_non, x_bl, x_int, x_str, x_g, x_tup, x_lst, x_dct, x_bin, x_neg, x_not, x_cmp, x_cmp2, x_and, x_or, x_ite, x_call, x_mk, x_fld, x_prop, x_idx, x_sli, x_bf, x_bm, x_isi, x_rpeq, x_tix, x_tin, x_tups, x_lsts, x_slen, x_sidx, s_set, s_seto, s_par, s_aug, s_app, s_ext, s_insr, s_seti, s_setf, s_mv, s_ex, s_ite, s_ret, s_retn, s_appop, s_setw, s_retw, s_sets, sq_nil, sq_cons, es_nil, es_cons, ec_nil, ec_cons, bind_ok, ofO_some, boolR_bl, fin_rt, fin_nx, seqR_nx, seqR_rt, negR_int, cmp2R_t, cmp2R_f, mkR_some, fldR_ins, propR_ins, retwR_lst, setsR_lst, lstAt, lcF, bindP, bindPs, List.getD_cons_zero, List.getD_cons_succ, List.set_cons_zero, List.set_cons_succ, Option.map_some, Option.bind_some, if_true, if_false, Bool.false_eq_true, cmpD, eq_str, eq_int, in_chr, len_lst, len_tup, add_int, sub_int, int_int, int_bl, abs_int, newAt, isNewD, deref, partD, Option.bind_none, Option.map_none, Bool.not_true, Bool.not_false, ite_true, ite_false, reduceIte, Bool.and_true, Bool.true_and, e1, hg, barred, any_not (hn _ (List.getElem_mem hk'))]
    have hb : evSs T C whB [a, b, c, some (.lst ((sS :: xs ++ R).map .str)), d, e, f, some (.int ((k : Int) + 1)), g, h] w = .ok (.nx [a, b, c, some (.lst ((sS :: xs ++ R).map .str)), d, e, f, some (.int ((k : Int) + 1 + 1)), g, h]) w := by
      simp only [list_lst, list_tup, tuple_lst, tuple_tup, x_v, x_b, x_non, x_bl, x_int, x_str, x_g, x_tup, x_lst, x_dct, x_bin, x_neg, x_not, x_cmp, x_cmp2, x_and, x_or, x_ite, x_call, x_mk, x_fld, x_prop, x_idx, x_sli, x_bf, x_bm, x_isi, x_rpeq, x_tix, x_tin, x_tups, x_lsts, x_slen, x_sidx, s_set, s_seto, s_par, s_aug, s_app, s_ext, s_insr, s_seti, s_setf, s_mv, s_ex, s_ite, s_ret, s_retn, s_appop, s_setw, s_retw, s_sets, sq_nil, sq_cons, es_nil, es_cons, ec_nil, ec_cons, bind_ok, ofO_some, boolR_bl, fin_rt, fin_nx, seqR_nx, seqR_rt, negR_int, cmp2R_t, cmp2R_f, mkR_some, fldR_ins, propR_ins, retwR_lst, setsR_lst, lstAt, lcF, bindP, bindPs, List.getD_cons_zero, List.getD_cons_succ, List.set_cons_zero, List.set_cons_succ, Option.map_some, Option.bind_some, if_true, if_false, Bool.false_eq_true, cmpD, eq_str, eq_int, in_chr, len_lst, len_tup, add_int, sub_int, int_int, int_bl, abs_int, newAt, isNewD, deref, partD, Option.bind_none, Option.map_none, Bool.not_true, Bool.not_false, ite_true, ite_false, reduceIte, Bool.and_true, Bool.true_and, augD]
    rw [goW_s]
    refine (congrArg (fun r => MP.R.bind r _) hc).trans ?_
    rw [bind_ok, if_pos rfl, hb, bind_ok, goWK_nx]
    have := wh_loop (T := T) (C := C) hg hn hR (a := a) (b := b) (c := c) (d := d) (e := e) (f := f) (g := g) (h := h) m (k + 1) M (by omega) (by omega)
    rw [Int.natCast_add] at this
    exact this
theorem stA0 {R : List (List Nat)} (hR : ∀ r, R.head? = some r → r ≠ sS) {a b c d e f g h i : Option D} : evS (TT ns) (CC ns n) cA [a, b, c, some (.lst (R.map .str)), d, e, f, g, h, i] w = .ok (.nx [a, b, c, some (.lst (R.map .str)), d, e, f, g, h, i]) w := by
  unfold cA c_clause_in
  simp only [list_lst, list_tup, tuple_lst, tuple_tup, x_v, x_b, x_non, x_bl, x_int, x_str, x_g, x_tup, x_lst, x_dct, x_bin, x_neg, x_not, x_cmp, x_cmp2, x_and, x_or, x_ite, x_call, x_mk, x_fld, x_prop, x_idx, x_sli, x_bf, x_bm, x_isi, x_rpeq, x_tix, x_tin, x_tups, x_lsts, x_slen, x_sidx, s_set, s_seto, s_par, s_aug, s_app, s_ext, s_insr, s_seti, s_setf, s_mv, s_ex, s_ite, s_ret, s_retn, s_appop, s_setw, s_retw, s_sets, sq_nil, sq_cons, es_nil, es_cons, ec_nil, ec_cons, bind_ok, ofO_some, boolR_bl, fin_rt, fin_nx, seqR_nx, seqR_rt, negR_int, cmp2R_t, cmp2R_f, mkR_some, fldR_ins, propR_ins, retwR_lst, setsR_lst, lstAt, lcF, bindP, bindPs, List.getD_cons_zero, List.getD_cons_succ, List.set_cons_zero, List.set_cons_succ, Option.map_some, Option.bind_some, if_true, if_false, Bool.false_eq_true, cmpD, eq_str, eq_int, in_chr, len_lst, len_tup, add_int, sub_int, int_int, int_bl, abs_int, newAt, isNewD, deref, partD, Option.bind_none, Option.map_none, Bool.not_true, Bool.not_false, ite_true, ite_false, reduceIte, Bool.and_true, Bool.true_and, List.getD_cons_zero, List.getD_cons_succ, eq_nilL]
  cases R with
  | nil => simp only [list_lst, list_tup, tuple_lst, tuple_tup, x_v, x_b, x_non, x_bl, x_int, x_str, x_g, x_tup, x_lst, x_dct, x_bin, x_neg, x_not, x_cmp, x_cmp2, x_and, x_or, x_ite, x_call, x_mk, x_fld, x_prop, x_idx, x_sli, x_bf, x_bm, x_isi, x_rpeq, x_tix, x_tin, x_tups, x_lsts, x_slen, x_sidx, s_set, s_seto, s_par, s_aug, s_app, s_ext, s_insr, s_seti, s_setf, s_mv, s_ex, s_ite, s_ret, s_retn, s_appop, s_setw, s_retw, s_sets, sq_nil, sq_cons, es_nil, es_cons, ec_nil, ec_cons, bind_ok, ofO_some, boolR_bl, fin_rt, fin_nx, seqR_nx, seqR_rt, negR_int, cmp2R_t, cmp2R_f, mkR_some, fldR_ins, propR_ins, retwR_lst, setsR_lst, lstAt, lcF, bindP, bindPs, List.getD_cons_zero, List.getD_cons_succ, List.set_cons_zero, List.set_cons_succ, Option.map_some, Option.bind_some, if_true, if_false, Bool.false_eq_true, cmpD, eq_str, eq_int, in_chr, len_lst, len_tup, add_int, sub_int, int_int, int_bl, abs_int, newAt, isNewD, deref, partD, Option.bind_none, Option.map_none, Bool.not_true, Bool.not_false, ite_true, ite_false, reduceIte, Bool.and_true, Bool.true_and, List.isEmpty_nil]
  | cons r R =>
    have e1 : idxD w (.lst ((r :: R).map .str)) (.int 0) = some (.str r) := idx_lst (Int.le_refl 0) rfl
    simp only [list_lst, list_tup, tuple_lst, tuple_tup, x_v, x_b, x_non, x_bl, x_int, x_str, x_g, x_tup, x_lst, x_dct, x_bin, x_neg, x_not, x_cmp, x_cmp2, x_and, x_or, x_ite, x_call, x_mk, x_fld, x_prop, x_idx, x_sli, x_bf, x_bm, x_isi, x_rpeq, x_tix, x_tin, x_tups, x_lsts, x_slen, x_sidx, s_set, s_seto, s_par, s_aug, s_app, s_ext, s_insr, s_seti, s_setf, s_mv, s_ex, s_ite, s_ret, s_retn, s_appop, s_setw, s_retw, s_sets, sq_nil, sq_cons, es_nil, es_cons, ec_nil, ec_cons, bind_ok, ofO_some, boolR_bl, fin_rt, fin_nx, seqR_nx, seqR_rt, negR_int, cmp2R_t, cmp2R_f, mkR_some, fldR_ins, propR_ins, retwR_lst, setsR_lst, lstAt, lcF, bindP, bindPs, List.getD_cons_zero, List.getD_cons_succ, List.set_cons_zero, List.set_cons_succ, Option.map_some, Option.bind_some, if_true, if_false, Bool.false_eq_true, cmpD, eq_str, eq_int, in_chr, len_lst, len_tup, add_int, sub_int, int_int, int_bl, abs_int, newAt, isNewD, deref, partD, Option.bind_none, Option.map_none, Bool.not_true, Bool.not_false, ite_true, ite_false, reduceIte, Bool.and_true, Bool.true_and, List.isEmpty_cons, e1, g_7, beq_eq_false_iff_ne.mpr (hR r rfl)]
theorem stA1 {l : Lo} (g : l.Good) {ps : List Int} (h : ps.Pairwise (· < ·)) (h0 : ps ≠ []) (hb : ∀ p ∈ ps, 0 ≤ p ∧ p < l.fs.length) {R : List (List Nat)} (hR : ∀ r, R.head? = some r → r ∈ B3) {a c d e f x y z : Option D} :
    evS (TT ns) (CC ns (n + 2)) cA [a, some (.lst (l.fs.map .str)), c, some (.lst ((sS :: (ps.map fun p => l.fs.getD p.toNat []) ++ R).map .str)), d, e, f, x, y, z] w = .ok (.nx [a, some (.lst (l.fs.map .str)), c, some (.lst (R.map .str)), some (.tup (ps.map fun p => .str (l.fs.getD p.toNat []))), e, f, some (.int ((ps.length : Int) + 1)), y, z]) w := by
  unfold cA c_clause_in
  simp only [list_lst, list_tup, tuple_lst, tuple_tup, x_v, x_b, x_non, x_bl, x_int, x_str, x_g, x_tup, x_lst, x_dct, x_bin, x_neg, x_not, x_cmp, x_cmp2, x_and, x_or, x_ite, x_call, x_mk, x_fld, x_prop, x_idx, x_sli, x_bf, x_bm, x_isi, x_rpeq, x_tix, x_tin, x_tups, x_lsts, x_slen, x_sidx, s_set, s_seto, s_par, s_aug, s_app, s_ext, s_insr, s_seti, s_setf, s_mv, s_ex, s_ite, s_ret, s_retn, s_appop, s_setw, s_retw, s_sets, sq_nil, sq_cons, es_nil, es_cons, ec_nil, ec_cons, bind_ok, ofO_some, boolR_bl, fin_rt, fin_nx, seqR_nx, seqR_rt, negR_int, cmp2R_t, cmp2R_f, mkR_some, fldR_ins, propR_ins, retwR_lst, setsR_lst, lstAt, lcF, bindP, bindPs, List.getD_cons_zero, List.getD_cons_succ, List.set_cons_zero, List.set_cons_succ, Option.map_some, Option.bind_some, if_true, if_false, Bool.false_eq_true, cmpD, eq_str, eq_int, in_chr, len_lst, len_tup, add_int, sub_int, int_int, int_bl, abs_int, newAt, isNewD, deref, partD, Option.bind_none, Option.map_none, Bool.not_true, Bool.not_false, ite_true, ite_false, reduceIte, Bool.and_true, Bool.true_and, List.getD_cons_zero, List.getD_cons_succ, eq_nilL]
  have hxs : ∀ x ∈ ps.map (fun p => l.fs.getD p.toNat []), x ∉ B3 := fun x hx => by
    obtain ⟨p, hp, rfl⟩ := List.mem_map.mp hx
    exact (w12_name _ (g.fw _ (mem_getD (hb p hp)))).2
  have e1 : idxD w (.lst ((sS :: (ps.map fun p => l.fs.getD p.toNat []) ++ R).map .str)) (.int 0) = some (.str sS) := idx_lst (Int.le_refl 0) rfl
  have hlen := asc_len h hb
  have f3 := g.f3
  have wl := wh_loop (T := TT ns) (C := CC ns (n + 2)) (w := w) (hg := g_9) hxs hR (a := a) (b := some (.lst (l.fs.map .str))) (c := c) (d := d) (e := e) (f := f) (g := y) (h := z) (ps.length) 0 whileMost (by rw [List.length_map, Nat.zero_add]) (by unfold whileMost; omega)
  rw [List.length_map] at wl
  have e2 : sliD w (.lst ((sS :: (ps.map fun p => l.fs.getD p.toNat []) ++ R).map .str)) (some (some 1)) (some (some ((ps.length : Int) + 1))) = some (.lst (ps.map fun p => .str (l.fs.getD p.toNat []))) := by
    have := sli_mid (w := w) (xs := (sS :: (ps.map fun p => l.fs.getD p.toNat []) ++ R).map .str) (a := 1) (b := ps.length + 1) (by simp) (by simp)
    rw [Int.natCast_add] at this
    refine this.trans ?_
    simp [List.take_left']
  have e3 : sliD w (.lst ((sS :: (ps.map fun p => l.fs.getD p.toNat []) ++ R).map .str)) (some (some ((ps.length : Int) + 1))) (some none) = some (.lst (R.map .str)) := by
    have := sli_from (w := w) (xs := (sS :: (ps.map fun p => l.fs.getD p.toNat []) ++ R).map .str) (k := ps.length + 1) (by simp)
    rw [Int.natCast_add] at this
    refine this.trans ?_
    simp
  have e4 : eqD (.tup (ps.map fun p => .str (l.fs.getD p.toNat []))) (.tup []) = some false := by
    have := eq_nilT (zs := ps.map fun p => l.fs.getD p.toNat [])
    rw [List.map_map] at this
    refine this.trans ?_
    cases ps with
    | nil => exact absurd rfl h0
    | cons => rfl
  have hw : evS (TT ns) (CC ns (n + 2)) (.whl whC whB) [a, some (.lst (l.fs.map .str)), c, some (.lst ((sS :: (ps.map fun p => l.fs.getD p.toNat []) ++ R).map .str)), d, e, f, some (.int 1), y, z] w = _ := wl
  have hem : (sS :: (ps.map fun p => l.fs.getD p.toNat []) ++ R).isEmpty = false := rfl
  simp only [list_lst, list_tup, tuple_lst, tuple_tup, x_v, x_b, x_non, x_bl, x_int, x_str, x_g, x_tup, x_lst, x_dct, x_bin, x_neg, x_not, x_cmp, x_cmp2, x_and, x_or, x_ite, x_call, x_mk, x_fld, x_prop, x_idx, x_sli, x_bf, x_bm, x_isi, x_rpeq, x_tix, x_tin, x_tups, x_lsts, x_slen, x_sidx, s_set, s_seto, s_par, s_aug, s_app, s_ext, s_insr, s_seti, s_setf, s_mv, s_ex, s_ite, s_ret, s_retn, s_appop, s_setw, s_retw, s_sets, sq_nil, sq_cons, es_nil, es_cons, ec_nil, ec_cons, bind_ok, ofO_some, boolR_bl, fin_rt, fin_nx, seqR_nx, seqR_rt, negR_int, cmp2R_t, cmp2R_f, mkR_some, fldR_ins, propR_ins, retwR_lst, setsR_lst, lstAt, lcF, bindP, bindPs, List.getD_cons_zero, List.getD_cons_succ, List.set_cons_zero, List.set_cons_succ, Option.map_some, Option.bind_some, if_true, if_false, Bool.false_eq_true, cmpD, eq_str, eq_int, in_chr, len_lst, len_tup, add_int, sub_int, int_int, int_bl, abs_int, newAt, isNewD, deref, partD, Option.bind_none, Option.map_none, Bool.not_true, Bool.not_false, ite_true, ite_false, reduceIte, Bool.and_true, Bool.true_and, hem, e1, g_7, beq_self_eq_true, hw, e2, e3, e4, e_are_some g h h0 hb]
end
end MP.K01

set_option Elab.async false
set_option linter.all false
set_option maxRecDepth 100000
namespace MP.K01
open MP.C
section
variable {ns : List Int} {n : Nat} {w : Wd}
theorem stB0 {R : List (List Nat)} (hR : ∀ r, R.head? = some r → r ≠ sK) {a b c d e f g h i : Option D} : evS (TT ns) (CC ns n) cB [a, b, c, some (.lst (R.map .str)), d, e, f, g, h, i] w = .ok (.nx [a, b, c, some (.lst (R.map .str)), d, e, f, g, h, i]) w := by
  unfold cB c_clause_in
  simp only [list_lst, list_tup, tuple_lst, tuple_tup, x_v, x_b, x_non, x_bl, x_int, x_str, x_g, x_tup, x_lst, x_dct, x_bin, x_neg, x_not, x_cmp, x_cmp2, x_and, x_or, x_ite, x_call, x_mk, x_fld, x_prop, x_idx, x_sli, x_bf, x_bm, x_isi, x_rpeq, x_tix, x_tin, x_tups, x_lsts, x_slen, x_sidx, s_set, s_seto, s_par, s_aug, s_app, s_ext, s_insr, s_seti, s_setf, s_mv, s_ex, s_ite, s_ret, s_retn, s_appop, s_setw, s_retw, s_sets, sq_nil, sq_cons, es_nil, es_cons, ec_nil, ec_cons, bind_ok, ofO_some, boolR_bl, fin_rt, fin_nx, seqR_nx, seqR_rt, negR_int, cmp2R_t, cmp2R_f, mkR_some, fldR_ins, propR_ins, retwR_lst, setsR_lst, lstAt, lcF, bindP, bindPs, List.getD_cons_zero, List.getD_cons_succ, List.set_cons_zero, List.set_cons_succ, Option.map_some, Option.bind_some, if_true, if_false, Bool.false_eq_true, cmpD, eq_str, eq_int, in_chr, len_lst, len_tup, add_int, sub_int, int_int, int_bl, abs_int, newAt, isNewD, deref, partD, Option.bind_none, Option.map_none, Bool.not_true, Bool.not_false, ite_true, ite_false, reduceIte, Bool.and_true, Bool.true_and, List.getD_cons_zero, List.getD_cons_succ, eq_nilL]
  cases R with
  | nil => simp only [list_lst, list_tup, tuple_lst, tuple_tup, x_v, x_b, x_non, x_bl, x_int, x_str, x_g, x_tup, x_lst, x_dct, x_bin, x_neg, x_not, x_cmp, x_cmp2, x_and, x_or, x_ite, x_call, x_mk, x_fld, x_prop, x_idx, x_sli, x_bf, x_bm, x_isi, x_rpeq, x_tix, x_tin, x_tups, x_lsts, x_slen, x_sidx, s_set, s_seto, s_par, s_aug, s_app, s_ext, s_insr, s_seti, s_setf, s_mv, s_ex, s_ite, s_ret, s_retn, s_appop, s_setw, s_retw, s_sets, sq_nil, sq_cons, es_nil, es_cons, ec_nil, ec_cons, bind_ok, ofO_some, boolR_bl, fin_rt, fin_nx, seqR_nx, seqR_rt, negR_int, cmp2R_t, cmp2R_f, mkR_some, fldR_ins, propR_ins, retwR_lst, setsR_lst, lstAt, lcF, bindP, bindPs, List.getD_cons_zero, List.getD_cons_succ, List.set_cons_zero, List.set_cons_succ, Option.map_some, Option.bind_some, if_true, if_false, Bool.false_eq_true, cmpD, eq_str, eq_int, in_chr, len_lst, len_tup, add_int, sub_int, int_int, int_bl, abs_int, newAt, isNewD, deref, partD, Option.bind_none, Option.map_none, Bool.not_true, Bool.not_false, ite_true, ite_false, reduceIte, Bool.and_true, Bool.true_and, List.isEmpty_nil]
  | cons r R =>
    have e1 : idxD w (.lst ((r :: R).map .str)) (.int 0) = some (.str r) := idx_lst (Int.le_refl 0) rfl
    simp only [list_lst, list_tup, tuple_lst, tuple_tup, x_v, x_b, x_non, x_bl, x_int, x_str, x_g, x_tup, x_lst, x_dct, x_bin, x_neg, x_not, x_cmp, x_cmp2, x_and, x_or, x_ite, x_call, x_mk, x_fld, x_prop, x_idx, x_sli, x_bf, x_bm, x_isi, x_rpeq, x_tix, x_tin, x_tups, x_lsts, x_slen, x_sidx, s_set, s_seto, s_par, s_aug, s_app, s_ext, s_insr, s_seti, s_setf, s_mv, s_ex, s_ite, s_ret, s_retn, s_appop, s_setw, s_retw, s_sets, sq_nil, sq_cons, es_nil, es_cons, ec_nil, ec_cons, bind_ok, ofO_some, boolR_bl, fin_rt, fin_nx, seqR_nx, seqR_rt, negR_int, cmp2R_t, cmp2R_f, mkR_some, fldR_ins, propR_ins, retwR_lst, setsR_lst, lstAt, lcF, bindP, bindPs, List.getD_cons_zero, List.getD_cons_succ, List.set_cons_zero, List.set_cons_succ, Option.map_some, Option.bind_some, if_true, if_false, Bool.false_eq_true, cmpD, eq_str, eq_int, in_chr, len_lst, len_tup, add_int, sub_int, int_int, int_bl, abs_int, newAt, isNewD, deref, partD, Option.bind_none, Option.map_none, Bool.not_true, Bool.not_false, ite_true, ite_false, reduceIte, Bool.and_true, Bool.true_and, List.isEmpty_cons, e1, g_5, beq_eq_false_iff_ne.mpr (hR r rfl)]
theorem stB1 {l : Lo} (g : l.Good) {p q : Int} (h0 : 0 ≤ p) (h1 : p ≤ q) (h2 : q < l.ks.length) {R : List (List Nat)} {a b d e f x y z : Option D} :
    evS (TT ns) (CC ns n) cB [a, b, some (.lst (l.ks.map .str)), some (.lst ((sK :: l.ks.getD p.toNat [] :: l.ks.getD q.toNat [] :: R).map .str)), d, e, f, x, y, z] w = .ok (.nx [a, b, some (.lst (l.ks.map .str)), some (.lst (R.map .str)), d, some (.tup [.str (l.ks.getD p.toNat []), .str (l.ks.getD q.toNat [])]), f, x, y, z]) w := by
  unfold cB c_clause_in
  have hp : 0 ≤ p ∧ p < l.ks.length := ⟨h0, by omega⟩
  have hq : 0 ≤ q ∧ q < l.ks.length := ⟨by omega, h2⟩
  have e1 : idxD w (.lst ((sK :: l.ks.getD p.toNat [] :: l.ks.getD q.toNat [] :: R).map .str)) (.int 0) = some (.str sK) := idx_lst (Int.le_refl 0) rfl
  have e2 : sliD w (.lst ((sK :: l.ks.getD p.toNat [] :: l.ks.getD q.toNat [] :: R).map .str)) (some (some 1)) (some (some 3)) = some (.lst [.str (l.ks.getD p.toNat []), .str (l.ks.getD q.toNat [])]) := 
    sli_mid (xs := (sK :: l.ks.getD p.toNat [] :: l.ks.getD q.toNat [] :: R).map .str) (a := 1) (b := 3) (by simp) (by simp)
  have e3 : sliD w (.lst ((sK :: l.ks.getD p.toNat [] :: l.ks.getD q.toNat [] :: R).map .str)) (some (some 3)) (some none) = some (.lst (R.map .str)) := 
    sli_from (xs := (sK :: l.ks.getD p.toNat [] :: l.ks.getD q.toNat [] :: R).map .str) (k := 3) (by simp)
  have e4 : idxD w (.tup [.str (l.ks.getD p.toNat []), .str (l.ks.getD q.toNat [])]) (.int 0) = some (.str (l.ks.getD p.toNat [])) := rfl
  have e5 : idxD w (.tup [.str (l.ks.getD p.toNat []), .str (l.ks.getD q.toNat [])]) (.int 1) = some (.str (l.ks.getD q.toNat [])) := rfl
  have hem : (sK :: l.ks.getD p.toNat [] :: l.ks.getD q.toNat [] :: R).isEmpty = false := rfl
  have e6 : (((List.length [D.str (l.ks.getD p.toNat []), .str (l.ks.getD q.toNat [])] : Nat) : Int) == 2) = true := rfl
  simp only [list_lst, list_tup, tuple_lst, tuple_tup, x_v, x_b, x_non, x_bl, x_int, x_str, x_g, x_tup, x_lst, x_dct, x_bin, x_neg, x_not, x_cmp, x_cmp2, x_and, x_or, x_ite, x_call, x_mk, x_fld, x_prop, x_idx, x_sli, x_bf, x_bm, x_isi, x_rpeq, x_tix, x_tin, x_tups, x_lsts, x_slen, x_sidx, s_set, s_seto, s_par, s_aug, s_app, s_ext, s_insr, s_seti, s_setf, s_mv, s_ex, s_ite, s_ret, s_retn, s_appop, s_setw, s_retw, s_sets, sq_nil, sq_cons, es_nil, es_cons, ec_nil, ec_cons, bind_ok, ofO_some, boolR_bl, fin_rt, fin_nx, seqR_nx, seqR_rt, negR_int, cmp2R_t, cmp2R_f, mkR_some, fldR_ins, propR_ins, retwR_lst, setsR_lst, lstAt, lcF, bindP, bindPs, List.getD_cons_zero, List.getD_cons_succ, List.set_cons_zero, List.set_cons_succ, Option.map_some, Option.bind_some, if_true, if_false, Bool.false_eq_true, cmpD, eq_str, eq_int, in_chr, len_lst, len_tup, add_int, sub_int, int_int, int_bl, abs_int, newAt, isNewD, deref, partD, Option.bind_none, Option.map_none, Bool.not_true, Bool.not_false, ite_true, ite_false, reduceIte, Bool.and_true, Bool.true_and, List.getD_cons_zero, List.getD_cons_succ, eq_nilL, hem, e1, g_5, beq_self_eq_true, g_13, e2, e3, show (3 - 1 : Int) = 2 from rfl, e6]
  rw [lc_map (xs := .tup [.str (l.ks.getD p.toNat []), .str (l.ks.getD q.toNat [])]) [l.ks.getD p.toNat [], l.ks.getD q.toNat []] .str (fun _ => .bl true) (by simp only [list_lst, list_tup, tuple_lst, tuple_tup, x_v, x_b, x_non, x_bl, x_int, x_str, x_g, x_tup, x_lst, x_dct, x_bin, x_neg, x_not, x_cmp, x_cmp2, x_and, x_or, x_ite, x_call, x_mk, x_fld, x_prop, x_idx, x_sli, x_bf, x_bm, x_isi, x_rpeq, x_tix, x_tin, x_tups, x_lsts, x_slen, x_sidx, s_set, s_seto, s_par, s_aug, s_app, s_ext, s_insr, s_seti, s_setf, s_mv, s_ex, s_ite, s_ret, s_retn, s_appop, s_setw, s_retw, s_sets, sq_nil, sq_cons, es_nil, es_cons, ec_nil, ec_cons, bind_ok, ofO_some, boolR_bl, fin_rt, fin_nx, seqR_nx, seqR_rt, negR_int, cmp2R_t, cmp2R_f, mkR_some, fldR_ins, propR_ins, retwR_lst, setsR_lst, lstAt, lcF, bindP, bindPs, List.getD_cons_zero, List.getD_cons_succ, List.set_cons_zero, List.set_cons_succ, Option.map_some, Option.bind_some, if_true, if_false, Bool.false_eq_true, cmpD, eq_str, eq_int, in_chr, len_lst, len_tup, add_int, sub_int, int_int, int_bl, abs_int, newAt, isNewD, deref, partD, Option.bind_none, Option.map_none, Bool.not_true, Bool.not_false, ite_true, ite_false, reduceIte, Bool.and_true, Bool.true_and]) rfl fun x hx => ?_]
  · simp only [list_lst, list_tup, tuple_lst, tuple_tup, x_v, x_b, x_non, x_bl, x_int, x_str, x_g, x_tup, x_lst, x_dct, x_bin, x_neg, x_not, x_cmp, x_cmp2, x_and, x_or, x_ite, x_call, x_mk, x_fld, x_prop, x_idx, x_sli, x_bf, x_bm, x_isi, x_rpeq, x_tix, x_tin, x_tups, x_lsts, x_slen, x_sidx, s_set, s_seto, s_par, s_aug, s_app, s_ext, s_insr, s_seti, s_setf, s_mv, s_ex, s_ite, s_ret, s_retn, s_appop, s_setw, s_retw, s_sets, sq_nil, sq_cons, es_nil, es_cons, ec_nil, ec_cons, bind_ok, ofO_some, boolR_bl, fin_rt, fin_nx, seqR_nx, seqR_rt, negR_int, cmp2R_t, cmp2R_f, mkR_some, fldR_ins, propR_ins, retwR_lst, setsR_lst, lstAt, lcF, bindP, bindPs, List.getD_cons_zero, List.getD_cons_succ, List.set_cons_zero, List.set_cons_succ, Option.map_some, Option.bind_some, if_true, if_false, Bool.false_eq_true, cmpD, eq_str, eq_int, in_chr, len_lst, len_tup, add_int, sub_int, int_int, int_bl, abs_int, newAt, isNewD, deref, partD, Option.bind_none, Option.map_none, Bool.not_true, Bool.not_false, ite_true, ite_false, reduceIte, Bool.and_true, Bool.true_and, all_true, e4, e5, index_lst g.kn (getD_mem hp), index_lst g.kn (getD_mem hq)]
    rw [if_neg (by rw [decide_eq_true_eq]; omega)]
    simp only [list_lst, list_tup, tuple_lst, tuple_tup, x_v, x_b, x_non, x_bl, x_int, x_str, x_g, x_tup, x_lst, x_dct, x_bin, x_neg, x_not, x_cmp, x_cmp2, x_and, x_or, x_ite, x_call, x_mk, x_fld, x_prop, x_idx, x_sli, x_bf, x_bm, x_isi, x_rpeq, x_tix, x_tin, x_tups, x_lsts, x_slen, x_sidx, s_set, s_seto, s_par, s_aug, s_app, s_ext, s_insr, s_seti, s_setf, s_mv, s_ex, s_ite, s_ret, s_retn, s_appop, s_setw, s_retw, s_sets, sq_nil, sq_cons, es_nil, es_cons, ec_nil, ec_cons, bind_ok, ofO_some, boolR_bl, fin_rt, fin_nx, seqR_nx, seqR_rt, negR_int, cmp2R_t, cmp2R_f, mkR_some, fldR_ins, propR_ins, retwR_lst, setsR_lst, lstAt, lcF, bindP, bindPs, List.getD_cons_zero, List.getD_cons_succ, List.set_cons_zero, List.set_cons_succ, Option.map_some, Option.bind_some, if_true, if_false, Bool.false_eq_true, cmpD, eq_str, eq_int, in_chr, len_lst, len_tup, add_int, sub_int, int_int, int_bl, abs_int, newAt, isNewD, deref, partD, Option.bind_none, Option.map_none, Bool.not_true, Bool.not_false, ite_true, ite_false, reduceIte, Bool.and_true, Bool.true_and]
  · have hx' : x ∈ l.ks := by
      simp only [List.mem_cons, List.not_mem_nil, or_false] at hx
      rcases hx with rfl | rfl
      · exact mem_getD hp
      · exact mem_getD hq
    simp only [list_lst, list_tup, tuple_lst, tuple_tup, x_v, x_b, x_non, x_bl, x_int, x_str, x_g, x_tup, x_lst, x_dct, x_bin, x_neg, x_not, x_cmp, x_cmp2, x_and, x_or, x_ite, x_call, x_mk, x_fld, x_prop, x_idx, x_sli, x_bf, x_bm, x_isi, x_rpeq, x_tix, x_tin, x_tups, x_lsts, x_slen, x_sidx, s_set, s_seto, s_par, s_aug, s_app, s_ext, s_insr, s_seti, s_setf, s_mv, s_ex, s_ite, s_ret, s_retn, s_appop, s_setw, s_retw, s_sets, sq_nil, sq_cons, es_nil, es_cons, ec_nil, ec_cons, bind_ok, ofO_some, boolR_bl, fin_rt, fin_nx, seqR_nx, seqR_rt, negR_int, cmp2R_t, cmp2R_f, mkR_some, fldR_ins, propR_ins, retwR_lst, setsR_lst, lstAt, lcF, bindP, bindPs, List.getD_cons_zero, List.getD_cons_succ, List.set_cons_zero, List.set_cons_succ, Option.map_some, Option.bind_some, if_true, if_false, Bool.false_eq_true, cmpD, eq_str, eq_int, in_chr, len_lst, len_tup, add_int, sub_int, int_int, int_bl, abs_int, newAt, isNewD, deref, partD, Option.bind_none, Option.map_none, Bool.not_true, Bool.not_false, ite_true, ite_false, reduceIte, Bool.and_true, Bool.true_and, in_lst, any_mem hx']
theorem g_tab : (TT ns).tab 0 = some [([48], .int 0), ([49], .int 1), ([50], .int 2), ([51], .int 3), ([52], .int 4)] := rfl
theorem stW {c : Cl} (hw : ∀ v, c.win = some v → 0 ≤ v ∧ v ≤ 4) {a b d e f x y z : Option D} :
    evS (TT ns) (CC ns n) cW [a, b, f, some (.lst (c.w3.map .str)), d, e, some .non, x, y, z] w = .ok (.nx [a, b, f, some (.lst []), d, e, some c.wD, x, y, z]) w := by
  unfold cW c_clause_in Cl.w3 Cl.wD
  cases hv : c.win with
  | none =>
    simp only [list_lst, list_tup, tuple_lst, tuple_tup, x_v, x_b, x_non, x_bl, x_int, x_str, x_g, x_tup, x_lst, x_dct, x_bin, x_neg, x_not, x_cmp, x_cmp2, x_and, x_or, x_ite, x_call, x_mk, x_fld, x_prop, x_idx, x_sli, x_bf, x_bm, x_isi, x_rpeq, x_tix, x_tin, x_tups, x_lsts, x_slen, x_sidx, s_set, s_seto, s_par, s_aug, s_app, s_ext, s_insr, s_seti, s_setf, s_mv, s_ex, s_ite, s_ret, s_retn, s_appop, s_setw, s_retw, s_sets, sq_nil, sq_cons, es_nil, es_cons, ec_nil, ec_cons, bind_ok, ofO_some, boolR_bl, fin_rt, fin_nx, seqR_nx, seqR_rt, negR_int, cmp2R_t, cmp2R_f, mkR_some, fldR_ins, propR_ins, retwR_lst, setsR_lst, lstAt, lcF, bindP, bindPs, List.getD_cons_zero, List.getD_cons_succ, List.set_cons_zero, List.set_cons_succ, Option.map_some, Option.bind_some, if_true, if_false, Bool.false_eq_true, cmpD, eq_str, eq_int, in_chr, len_lst, len_tup, add_int, sub_int, int_int, int_bl, abs_int, newAt, isNewD, deref, partD, Option.bind_none, Option.map_none, Bool.not_true, Bool.not_false, ite_true, ite_false, reduceIte, Bool.and_true, Bool.true_and, List.getD_cons_zero, List.getD_cons_succ, g_14, List.map_nil, List.length_nil, show (((0 : Nat) : Int) == 2) = false from rfl]
  | some v =>
    have hv' := hw v hv
    have e1 : idxD w (.lst ([sW, strI v].map .str)) (.int 0) = some (.str sW) := rfl
    have e2 : idxD w (.lst ([sW, strI v].map .str)) (.int 1) = some (.str (strI v)) := rfl
    have e3 : tinD (some [([48], D.int 0), ([49], .int 1), ([50], .int 2), ([51], .int 3), ([52], .int 4)]) false (.str (strI v)) = some (.bl true) ∧ tixD (some [([48], D.int 0), ([49], .int 1), ([50], .int 2), ([51], .int 3), ([52], .int 4)]) (.str (strI v)) = some (.int v) := by
      have : v = 0 ∨ v = 1 ∨ v = 2 ∨ v = 3 ∨ v = 4 := by omega
      rcases this with rfl | rfl | rfl | rfl | rfl <;> exact ⟨rfl, rfl⟩
    have e4 : (((List.length ([sW, strI v].map D.str) : Nat) : Int) == 2) = true := rfl
    simp only [list_lst, list_tup, tuple_lst, tuple_tup, x_v, x_b, x_non, x_bl, x_int, x_str, x_g, x_tup, x_lst, x_dct, x_bin, x_neg, x_not, x_cmp, x_cmp2, x_and, x_or, x_ite, x_call, x_mk, x_fld, x_prop, x_idx, x_sli, x_bf, x_bm, x_isi, x_rpeq, x_tix, x_tin, x_tups, x_lsts, x_slen, x_sidx, s_set, s_seto, s_par, s_aug, s_app, s_ext, s_insr, s_seti, s_setf, s_mv, s_ex, s_ite, s_ret, s_retn, s_appop, s_setw, s_retw, s_sets, sq_nil, sq_cons, es_nil, es_cons, ec_nil, ec_cons, bind_ok, ofO_some, boolR_bl, fin_rt, fin_nx, seqR_nx, seqR_rt, negR_int, cmp2R_t, cmp2R_f, mkR_some, fldR_ins, propR_ins, retwR_lst, setsR_lst, lstAt, lcF, bindP, bindPs, List.getD_cons_zero, List.getD_cons_succ, List.set_cons_zero, List.set_cons_succ, Option.map_some, Option.bind_some, if_true, if_false, Bool.false_eq_true, cmpD, eq_str, eq_int, in_chr, len_lst, len_tup, add_int, sub_int, int_int, int_bl, abs_int, newAt, isNewD, deref, partD, Option.bind_none, Option.map_none, Bool.not_true, Bool.not_false, ite_true, ite_false, reduceIte, Bool.and_true, Bool.true_and, List.getD_cons_zero, List.getD_cons_succ, g_14, e4, e1, e2, g_8, beq_self_eq_true, g_tab, e3.1, e3.2]
def Cl.pW (l : Lo) (c : Cl) : D := match c.pair with
  | none => .non
  | some (a, b) => .tup [.str (l.ks.getD a.toNat []), .str (l.ks.getD b.toNat [])]
def Cl.ins (l : Lo) (c : Cl) : D := .ins 0 [.tup ((c.same l).map .str), .tup (c.ps.map .int), c.pW l, c.wD]
theorem e_cinit {a b c d : D} : CC ns (n + 1) F_Clause_init [a, b, c, d] w = .ok (.ins 0 [a, b, c, d]) w := rfl
theorem g_ini0 : (TT ns).ini 0 = some F_Clause_init := rfl
theorem Cl.w3_head {c : Cl} : ∀ r, c.w3.head? = some r → r = sW := by
  intro r h
  unfold Cl.w3 at h
  split at h
  · cases h
  · cases h; rfl
theorem Cl.w23_head {l : Lo} {c : Cl} : ∀ r, (c.w2 l ++ c.w3).head? = some r → r = sK ∨ r = sW := by
  intro r h
  unfold Cl.w2 at h
  split at h
  · exact .inr (Cl.w3_head r h)
  · cases h; exact .inl rfl
theorem e_clause_in {l : Lo} (g : l.Good) {c : Cl} (cg : c.Good l.fs.length l.ks.length) : CC ns (n + 3) F_clause_in [.lst ((c.words l).map .str), .lst (l.fs.map .str), .lst (l.ks.map .str)] w = .ok (c.ins l) w := by
  rw [st_clause_in]
  rw [show c_clause_in.body = [.ite (.cmp .ne (.idx (.v 0) (.int 0)) (.g 6)) [.ret .non] [], .par [.n 3, .n 4, .n 5, .n 6] [false, false, false, false] [.sli (.v 0) (.int 1) .non, .tup [], .non, .non], cA, cB, cW, .ret (.ite (.cmp .eq (.v 3) (.lst [])) (.mk 0 [.v 4, .bf .tuple [.lc (.n 8) (.v 4) [] (.bm .index (.v 1) [.v 8])], .v 5, .v 6]) .non)] from rfl]
  have e0 : idxD w (.lst ((c.words l).map .str)) (.int 0) = some (.str sL) := idx_lst (Int.le_refl 0) rfl
  have e1 : sliD w (.lst ((c.words l).map .str)) (some (some 1)) (some none) = some (.lst ((c.w1 l ++ (c.w2 l ++ c.w3)).map .str)) := by
    rw [← List.append_assoc]
    exact sli_from (xs := (c.words l).map .str) (k := 1) (by simp [Cl.words])
  have hA : ∃ x7 : Option D, evS (TT ns) (CC ns (n + 2)) cA [some (.lst ((c.words l).map .str)), some (.lst (l.fs.map .str)), some (.lst (l.ks.map .str)), some (.lst ((c.w1 l ++ (c.w2 l ++ c.w3)).map .str)), some (.tup []), some .non, some .non, none, none, none] w = .ok (.nx [some (.lst ((c.words l).map .str)), some (.lst (l.fs.map .str)), some (.lst (l.ks.map .str)), some (.lst ((c.w2 l ++ c.w3).map .str)), some (.tup ((c.same l).map .str)), some .non, some .non, x7, none, none]) w := by
    unfold Cl.w1
    by_cases hp : c.ps = []
    · rw [if_pos hp]
      refine ⟨none, ?_⟩
      rw [show (c.same l).map D.str = [] by unfold Cl.same; rw [hp]; rfl]
      exact stA0 fun r hr => by rcases Cl.w23_head r hr with rfl | rfl <;> decide
    · rw [if_neg hp]
      refine ⟨some (.int ((c.ps.length : Int) + 1)), ?_⟩
      have := stA1 (ns := ns) (n := n) (w := w) g cg.up hp cg.ps (R := c.w2 l ++ c.w3) (fun r hr => by rcases Cl.w23_head r hr with rfl | rfl <;> decide) (a := some (.lst ((c.words l).map .str))) (c := some (.lst (l.ks.map .str))) (d := some (.tup [])) (e := some .non) (f := some .non) (x := none) (y := none) (z := none)
      refine this.trans ?_
      unfold Cl.same
      rw [List.map_map]; rfl
  obtain ⟨x7, hA⟩ := hA
  have hB : evS (TT ns) (CC ns (n + 2)) cB [some (.lst ((c.words l).map .str)), some (.lst (l.fs.map .str)), some (.lst (l.ks.map .str)), some (.lst ((c.w2 l ++ c.w3).map .str)), some (.tup ((c.same l).map .str)), some .non, some .non, x7, none, none] w = .ok (.nx [some (.lst ((c.words l).map .str)), some (.lst (l.fs.map .str)), some (.lst (l.ks.map .str)), some (.lst (c.w3.map .str)), some (.tup ((c.same l).map .str)), some (c.pW l), some .non, x7, none, none]) w := by
    unfold Cl.w2 Cl.pW
    cases hp : c.pair with
    | none => exact stB0 fun r hr => by rw [Cl.w3_head r hr]; decide
    | some q =>
      obtain ⟨a, b⟩ := q
      have := cg.pair a b hp
      exact stB1 g this.1 this.2.1 this.2.2
  rw [sq_cons]
  rw [show evS (TT ns) (CC ns (n + 2)) (.ite (.cmp .ne (.idx (.v 0) (.int 0)) (.g 6)) [.ret .non] []) [some (.lst ((c.words l).map .str)), some (.lst (l.fs.map .str)), some (.lst (l.ks.map .str)), none, none, none, none, none, none, none] w = .ok (.nx [some (.lst ((c.words l).map .str)), some (.lst (l.fs.map .str)), some (.lst (l.ks.map .str)), none, none, none, none, none, none, none]) w by
    simp only [list_lst, list_tup, tuple_lst, tuple_tup, x_v, x_b, x_non, x_bl, x_int, x_str, x_g, x_tup, x_lst, x_dct, x_bin, x_neg, x_not, x_cmp, x_cmp2, x_and, x_or, x_ite, x_call, x_mk, x_fld, x_prop, x_idx, x_sli, x_bf, x_bm, x_isi, x_rpeq, x_tix, x_tin, x_tups, x_lsts, x_slen, x_sidx, s_set, s_seto, s_par, s_aug, s_app, s_ext, s_insr, s_seti, s_setf, s_mv, s_ex, s_ite, s_ret, s_retn, s_appop, s_setw, s_retw, s_sets, sq_nil, sq_cons, es_nil, es_cons, ec_nil, ec_cons, bind_ok, ofO_some, boolR_bl, fin_rt, fin_nx, seqR_nx, seqR_rt, negR_int, cmp2R_t, cmp2R_f, mkR_some, fldR_ins, propR_ins, retwR_lst, setsR_lst, lstAt, lcF, bindP, bindPs, List.getD_cons_zero, List.getD_cons_succ, List.set_cons_zero, List.set_cons_succ, Option.map_some, Option.bind_some, if_true, if_false, Bool.false_eq_true, cmpD, eq_str, eq_int, in_chr, len_lst, len_tup, add_int, sub_int, int_int, int_bl, abs_int, newAt, isNewD, deref, partD, Option.bind_none, Option.map_none, Bool.not_true, Bool.not_false, ite_true, ite_false, reduceIte, Bool.and_true, Bool.true_and, e0, g_6, beq_self_eq_true]]
  rw [bind_ok, seqR_nx, sq_cons]
  rw [show evS (TT ns) (CC ns (n + 2)) (.par [.n 3, .n 4, .n 5, .n 6] [false, false, false, false] [.sli (.v 0) (.int 1) .non, .tup [], .non, .non]) [some (.lst ((c.words l).map .str)), some (.lst (l.fs.map .str)), some (.lst (l.ks.map .str)), none, none, none, none, none, none, none] w = .ok (.nx [some (.lst ((c.words l).map .str)), some (.lst (l.fs.map .str)), some (.lst (l.ks.map .str)), some (.lst ((c.w1 l ++ (c.w2 l ++ c.w3)).map .str)), some (.tup []), some .non, some .non, none, none, none]) w by
    simp only [list_lst, list_tup, tuple_lst, tuple_tup, x_v, x_b, x_non, x_bl, x_int, x_str, x_g, x_tup, x_lst, x_dct, x_bin, x_neg, x_not, x_cmp, x_cmp2, x_and, x_or, x_ite, x_call, x_mk, x_fld, x_prop, x_idx, x_sli, x_bf, x_bm, x_isi, x_rpeq, x_tix, x_tin, x_tups, x_lsts, x_slen, x_sidx, s_set, s_seto, s_par, s_aug, s_app, s_ext, s_insr, s_seti, s_setf, s_mv, s_ex, s_ite, s_ret, s_retn, s_appop, s_setw, s_retw, s_sets, sq_nil, sq_cons, es_nil, es_cons, ec_nil, ec_cons, bind_ok, ofO_some, boolR_bl, fin_rt, fin_nx, seqR_nx, seqR_rt, negR_int, cmp2R_t, cmp2R_f, mkR_some, fldR_ins, propR_ins, retwR_lst, setsR_lst, lstAt, lcF, bindP, bindPs, List.getD_cons_zero, List.getD_cons_succ, List.set_cons_zero, List.set_cons_succ, Option.map_some, Option.bind_some, if_true, if_false, Bool.false_eq_true, cmpD, eq_str, eq_int, in_chr, len_lst, len_tup, add_int, sub_int, int_int, int_bl, abs_int, newAt, isNewD, deref, partD, Option.bind_none, Option.map_none, Bool.not_true, Bool.not_false, ite_true, ite_false, reduceIte, Bool.and_true, Bool.true_and, e1]]
  rw [bind_ok, seqR_nx, sq_cons, hA, bind_ok, seqR_nx, sq_cons, hB, bind_ok, seqR_nx, sq_cons, stW cg.win, bind_ok, seqR_nx]
  have e9 : eqD (.lst []) (.lst []) = some true := rfl
  simp only [list_lst, list_tup, tuple_lst, tuple_tup, x_v, x_b, x_non, x_bl, x_int, x_str, x_g, x_tup, x_lst, x_dct, x_bin, x_neg, x_not, x_cmp, x_cmp2, x_and, x_or, x_ite, x_call, x_mk, x_fld, x_prop, x_idx, x_sli, x_bf, x_bm, x_isi, x_rpeq, x_tix, x_tin, x_tups, x_lsts, x_slen, x_sidx, s_set, s_seto, s_par, s_aug, s_app, s_ext, s_insr, s_seti, s_setf, s_mv, s_ex, s_ite, s_ret, s_retn, s_appop, s_setw, s_retw, s_sets, sq_nil, sq_cons, es_nil, es_cons, ec_nil, ec_cons, bind_ok, ofO_some, boolR_bl, fin_rt, fin_nx, seqR_nx, seqR_rt, negR_int, cmp2R_t, cmp2R_f, mkR_some, fldR_ins, propR_ins, retwR_lst, setsR_lst, lstAt, lcF, bindP, bindPs, List.getD_cons_zero, List.getD_cons_succ, List.set_cons_zero, List.set_cons_succ, Option.map_some, Option.bind_some, if_true, if_false, Bool.false_eq_true, cmpD, eq_str, eq_int, in_chr, len_lst, len_tup, add_int, sub_int, int_int, int_bl, abs_int, newAt, isNewD, deref, partD, Option.bind_none, Option.map_none, Bool.not_true, Bool.not_false, ite_true, ite_false, reduceIte, Bool.and_true, Bool.true_and, e9]
  rw [lc_map (xs := .tup ((c.same l).map .str)) c.ps (fun p => .str (l.fs.getD p.toNat [])) .int (by simp only [list_lst, list_tup, tuple_lst, tuple_tup, x_v, x_b, x_non, x_bl, x_int, x_str, x_g, x_tup, x_lst, x_dct, x_bin, x_neg, x_not, x_cmp, x_cmp2, x_and, x_or, x_ite, x_call, x_mk, x_fld, x_prop, x_idx, x_sli, x_bf, x_bm, x_isi, x_rpeq, x_tix, x_tin, x_tups, x_lsts, x_slen, x_sidx, s_set, s_seto, s_par, s_aug, s_app, s_ext, s_insr, s_seti, s_setf, s_mv, s_ex, s_ite, s_ret, s_retn, s_appop, s_setw, s_retw, s_sets, sq_nil, sq_cons, es_nil, es_cons, ec_nil, ec_cons, bind_ok, ofO_some, boolR_bl, fin_rt, fin_nx, seqR_nx, seqR_rt, negR_int, cmp2R_t, cmp2R_f, mkR_some, fldR_ins, propR_ins, retwR_lst, setsR_lst, lstAt, lcF, bindP, bindPs, List.getD_cons_zero, List.getD_cons_succ, List.set_cons_zero, List.set_cons_succ, Option.map_some, Option.bind_some, if_true, if_false, Bool.false_eq_true, cmpD, eq_str, eq_int, in_chr, len_lst, len_tup, add_int, sub_int, int_int, int_bl, abs_int, newAt, isNewD, deref, partD, Option.bind_none, Option.map_none, Bool.not_true, Bool.not_false, ite_true, ite_false, reduceIte, Bool.and_true, Bool.true_and]) (by unfold Cl.same; rw [List.map_map]; rfl) fun p hp => ?_]
  · simp only [list_lst, list_tup, tuple_lst, tuple_tup, x_v, x_b, x_non, x_bl, x_int, x_str, x_g, x_tup, x_lst, x_dct, x_bin, x_neg, x_not, x_cmp, x_cmp2, x_and, x_or, x_ite, x_call, x_mk, x_fld, x_prop, x_idx, x_sli, x_bf, x_bm, x_isi, x_rpeq, x_tix, x_tin, x_tups, x_lsts, x_slen, x_sidx, s_set, s_seto, s_par, s_aug, s_app, s_ext, s_insr, s_seti, s_setf, s_mv, s_ex, s_ite, s_ret, s_retn, s_appop, s_setw, s_retw, s_sets, sq_nil, sq_cons, es_nil, es_cons, ec_nil, ec_cons, bind_ok, ofO_some, boolR_bl, fin_rt, fin_nx, seqR_nx, seqR_rt, negR_int, cmp2R_t, cmp2R_f, mkR_some, fldR_ins, propR_ins, retwR_lst, setsR_lst, lstAt, lcF, bindP, bindPs, List.getD_cons_zero, List.getD_cons_succ, List.set_cons_zero, List.set_cons_succ, Option.map_some, Option.bind_some, if_true, if_false, Bool.false_eq_true, cmpD, eq_str, eq_int, in_chr, len_lst, len_tup, add_int, sub_int, int_int, int_bl, abs_int, newAt, isNewD, deref, partD, Option.bind_none, Option.map_none, Bool.not_true, Bool.not_false, ite_true, ite_false, reduceIte, Bool.and_true, Bool.true_and, g_ini0, e_cinit]; rfl
  · simp only [list_lst, list_tup, tuple_lst, tuple_tup, x_v, x_b, x_non, x_bl, x_int, x_str, x_g, x_tup, x_lst, x_dct, x_bin, x_neg, x_not, x_cmp, x_cmp2, x_and, x_or, x_ite, x_call, x_mk, x_fld, x_prop, x_idx, x_sli, x_bf, x_bm, x_isi, x_rpeq, x_tix, x_tin, x_tups, x_lsts, x_slen, x_sidx, s_set, s_seto, s_par, s_aug, s_app, s_ext, s_insr, s_seti, s_setf, s_mv, s_ex, s_ite, s_ret, s_retn, s_appop, s_setw, s_retw, s_sets, sq_nil, sq_cons, es_nil, es_cons, ec_nil, ec_cons, bind_ok, ofO_some, boolR_bl, fin_rt, fin_nx, seqR_nx, seqR_rt, negR_int, cmp2R_t, cmp2R_f, mkR_some, fldR_ins, propR_ins, retwR_lst, setsR_lst, lstAt, lcF, bindP, bindPs, List.getD_cons_zero, List.getD_cons_succ, List.set_cons_zero, List.set_cons_succ, Option.map_some, Option.bind_some, if_true, if_false, Bool.false_eq_true, cmpD, eq_str, eq_int, in_chr, len_lst, len_tup, add_int, sub_int, int_int, int_bl, abs_int, newAt, isNewD, deref, partD, Option.bind_none, Option.map_none, Bool.not_true, Bool.not_false, ite_true, ite_false, reduceIte, Bool.and_true, Bool.true_and, index_lst g.fn (getD_mem (cg.ps p hp))]
    rw [show ((p.toNat : Nat) : Int) = p by have := cg.ps p hp; omega]
end
end MP.K01

set_option Elab.async false
set_option linter.all false
set_option maxRecDepth 100000
namespace MP.K01
open MP.C
section
variable {ns : List Int} {n : Nat} {w : Wd}
theorem e_line0 {l : Lo} (g : l.Good) {a b : D} : CC ns (n + 4) F_line_of [.lst ((sF :: l.fs).map .str), .int 0, a, b] w = .ok (.lst (l.fs.map .str)) w := by
  rw [st_line_of, c_line_of]
  have e0 : idxD w (.lst ((sF :: l.fs).map .str)) (.int 0) = some (.str sF) := idx_lst (Int.le_refl 0) rfl
  simp only [list_lst, list_tup, tuple_lst, tuple_tup, x_v, x_b, x_non, x_bl, x_int, x_str, x_g, x_tup, x_lst, x_dct, x_bin, x_neg, x_not, x_cmp, x_cmp2, x_and, x_or, x_ite, x_call, x_mk, x_fld, x_prop, x_idx, x_sli, x_bf, x_bm, x_isi, x_rpeq, x_tix, x_tin, x_tups, x_lsts, x_slen, x_sidx, s_set, s_seto, s_par, s_aug, s_app, s_ext, s_insr, s_seti, s_setf, s_mv, s_ex, s_ite, s_ret, s_retn, s_appop, s_setw, s_retw, s_sets, sq_nil, sq_cons, es_nil, es_cons, ec_nil, ec_cons, bind_ok, ofO_some, boolR_bl, fin_rt, fin_nx, seqR_nx, seqR_rt, negR_int, cmp2R_t, cmp2R_f, mkR_some, fldR_ins, propR_ins, retwR_lst, setsR_lst, lstAt, lcF, bindP, bindPs, List.getD_cons_zero, List.getD_cons_succ, List.set_cons_zero, List.set_cons_succ, Option.map_some, Option.bind_some, if_true, if_false, Bool.false_eq_true, cmpD, eq_str, eq_int, in_chr, len_lst, len_tup, add_int, sub_int, int_int, int_bl, abs_int, newAt, isNewD, deref, partD, Option.bind_none, Option.map_none, Bool.not_true, Bool.not_false, ite_true, ite_false, reduceIte, Bool.and_true, Bool.true_and, beq_self_eq_true, e0, g_4, e_names g.f0 g.f3 g.fn g.fw]
theorem e_line1 {l : Lo} (g : l.Good) {a b : D} : CC ns (n + 4) F_line_of [.lst ((sK :: l.ks).map .str), .int 1, a, b] w = .ok (.lst (l.ks.map .str)) w := by
  rw [st_line_of, c_line_of]
  have e0 : idxD w (.lst ((sK :: l.ks).map .str)) (.int 0) = some (.str sK) := idx_lst (Int.le_refl 0) rfl
  have e1 : ((1 : Int) == 0) = false := rfl
  simp only [list_lst, list_tup, tuple_lst, tuple_tup, x_v, x_b, x_non, x_bl, x_int, x_str, x_g, x_tup, x_lst, x_dct, x_bin, x_neg, x_not, x_cmp, x_cmp2, x_and, x_or, x_ite, x_call, x_mk, x_fld, x_prop, x_idx, x_sli, x_bf, x_bm, x_isi, x_rpeq, x_tix, x_tin, x_tups, x_lsts, x_slen, x_sidx, s_set, s_seto, s_par, s_aug, s_app, s_ext, s_insr, s_seti, s_setf, s_mv, s_ex, s_ite, s_ret, s_retn, s_appop, s_setw, s_retw, s_sets, sq_nil, sq_cons, es_nil, es_cons, ec_nil, ec_cons, bind_ok, ofO_some, boolR_bl, fin_rt, fin_nx, seqR_nx, seqR_rt, negR_int, cmp2R_t, cmp2R_f, mkR_some, fldR_ins, propR_ins, retwR_lst, setsR_lst, lstAt, lcF, bindP, bindPs, List.getD_cons_zero, List.getD_cons_succ, List.set_cons_zero, List.set_cons_succ, Option.map_some, Option.bind_some, if_true, if_false, Bool.false_eq_true, cmpD, eq_str, eq_int, in_chr, len_lst, len_tup, add_int, sub_int, int_int, int_bl, abs_int, newAt, isNewD, deref, partD, Option.bind_none, Option.map_none, Bool.not_true, Bool.not_false, ite_true, ite_false, reduceIte, Bool.and_true, Bool.true_and, beq_self_eq_true, e0, e1, g_5, e_names g.k0 g.k3 g.kn g.kw]
theorem e_line2 {l : Lo} (g : l.Good) {c : Cl} (cg : c.Good l.fs.length l.ks.length) {k : Int} (h2 : 2 ≤ k) (h6 : k < 6) : CC ns (n + 4) F_line_of [.lst ((c.words l).map .str), .int k, .lst (l.fs.map .str), .lst (l.ks.map .str)] w = .ok (c.ins l) w := by
  rw [st_line_of, c_line_of]
  simp only [list_lst, list_tup, tuple_lst, tuple_tup, x_v, x_b, x_non, x_bl, x_int, x_str, x_g, x_tup, x_lst, x_dct, x_bin, x_neg, x_not, x_cmp, x_cmp2, x_and, x_or, x_ite, x_call, x_mk, x_fld, x_prop, x_idx, x_sli, x_bf, x_bm, x_isi, x_rpeq, x_tix, x_tin, x_tups, x_lsts, x_slen, x_sidx, s_set, s_seto, s_par, s_aug, s_app, s_ext, s_insr, s_seti, s_setf, s_mv, s_ex, s_ite, s_ret, s_retn, s_appop, s_setw, s_retw, s_sets, sq_nil, sq_cons, es_nil, es_cons, ec_nil, ec_cons, bind_ok, ofO_some, boolR_bl, fin_rt, fin_nx, seqR_nx, seqR_rt, negR_int, cmp2R_t, cmp2R_f, mkR_some, fldR_ins, propR_ins, retwR_lst, setsR_lst, lstAt, lcF, bindP, bindPs, List.getD_cons_zero, List.getD_cons_succ, List.set_cons_zero, List.set_cons_succ, Option.map_some, Option.bind_some, if_true, if_false, Bool.false_eq_true, cmpD, eq_str, eq_int, in_chr, len_lst, len_tup, add_int, sub_int, int_int, int_bl, abs_int, newAt, isNewD, deref, partD, Option.bind_none, Option.map_none, Bool.not_true, Bool.not_false, ite_true, ite_false, reduceIte, Bool.and_true, Bool.true_and, beq_eq_false_iff_ne.mpr (show k ≠ 0 by omega), beq_eq_false_iff_ne.mpr (show k ≠ 1 by omega), g_11, show (4 + 2 : Int) = 6 from rfl, decide_eq_true h6, e_clause_in g cg]
def Lo.told (l : Lo) : List D := .lst (l.fs.map .str) :: .lst (l.ks.map .str) :: l.cs.map (Cl.ins l)
def rowD (r : List (List Nat)) : D := .lst (r.map .str)
def Lo.rule (l : Lo) : D := .ins 1 [.str l.text, .tup (l.fs.map .str), .tup (l.ks.map .str), .tup (l.cs.map (Cl.ins l))]
theorem Lo.split_text {l : Lo} (g : l.Good) : splitL 10 l.text = l.rows.map (joinL [32]) := by
  refine split_join (by unfold Lo.rows; simp) fun x hx => ?_
  obtain ⟨r, hr, rfl⟩ := List.mem_map.mp hx
  exact not_mem_joinL (by decide) fun y hy => ((l.rows_ok g r hr).1 y hy).2.2
theorem Lo.split_row {l : Lo} (g : l.Good) : ∀ r ∈ l.rows, splitL 32 (joinL [32] r) = r := fun r hr =>
  split_join (l.rows_ok g r hr).2.2 fun y hy => ((l.rows_ok g r hr).1 y hy).2.1
abbrev rlB : List CS := [.set (.n 6) (.call 10 [.v 5, .v 4, .ite (.cmp .gt (.v 4) (.int 1)) (.idx (.b 3) (.int 0)) (.lst []), .ite (.cmp .gt (.v 4) (.int 1)) (.idx (.b 3) (.int 1)) (.lst [])]), .ite (.cmp .is (.v 6) .non) [.never] [], .app 3 (.v 6)]
theorem rl_lap {l : Lo} (g : l.Good) {k : Nat} {d : D} {x4 x5 x6 x7 x0 x1 x2 : Option D} (hd : (enumL 0 (l.rows.map rowD))[k]? = some d) : ∃ y4 y5 y6, forF (TT ns) (CC ns (n + 4)) (.t [.n 4, .n 5]) rlB d [x0, x1, x2, some (.lst (l.told.take k)), x4, x5, x6, x7] w = .ok (.nx [x0, x1, x2, some (.lst (l.told.take (k + 1))), y4, y5, y6, x7]) w := by
  obtain ⟨x, h1, rfl⟩ := enum_get hd
  rw [Nat.zero_add]
  rw [List.getElem?_map] at h1
  obtain ⟨r, hr, rfl⟩ := Option.map_eq_some_iff.mp h1
  have hlen := l.rows_len g
  have hk : k < l.rows.length := (List.getElem?_eq_some_iff.mp hr).1
  unfold rowD forF
  match k, hr with
  | 0, hr =>
    cases hr
    refine ⟨some (.int 0), some (.lst ((sF :: l.fs).map .str)), some (.lst (l.fs.map .str)), ?_⟩
    simp only [list_lst, list_tup, tuple_lst, tuple_tup, x_v, x_b, x_non, x_bl, x_int, x_str, x_g, x_tup, x_lst, x_dct, x_bin, x_neg, x_not, x_cmp, x_cmp2, x_and, x_or, x_ite, x_call, x_mk, x_fld, x_prop, x_idx, x_sli, x_bf, x_bm, x_isi, x_rpeq, x_tix, x_tin, x_tups, x_lsts, x_slen, x_sidx, s_set, s_seto, s_par, s_aug, s_app, s_ext, s_insr, s_seti, s_setf, s_mv, s_ex, s_ite, s_ret, s_retn, s_appop, s_setw, s_retw, s_sets, sq_nil, sq_cons, es_nil, es_cons, ec_nil, ec_cons, bind_ok, ofO_some, boolR_bl, fin_rt, fin_nx, seqR_nx, seqR_rt, negR_int, cmp2R_t, cmp2R_f, mkR_some, fldR_ins, propR_ins, retwR_lst, setsR_lst, lstAt, lcF, bindP, bindPs, List.getD_cons_zero, List.getD_cons_succ, List.set_cons_zero, List.set_cons_succ, Option.map_some, Option.bind_some, if_true, if_false, Bool.false_eq_true, cmpD, eq_str, eq_int, in_chr, len_lst, len_tup, add_int, sub_int, int_int, int_bl, abs_int, newAt, isNewD, deref, partD, Option.bind_none, Option.map_none, Bool.not_true, Bool.not_false, ite_true, ite_false, reduceIte, Bool.and_true, Bool.true_and, Int.natCast_zero, Int.cast_ofNat_Int, show decide ((1 : Int) < 0) = false from rfl, e_line0 g, List.take_zero]
    rw [appR_some (show ([] : List D).length < bigN by decide)]
    simp only [list_lst, list_tup, tuple_lst, tuple_tup, x_v, x_b, x_non, x_bl, x_int, x_str, x_g, x_tup, x_lst, x_dct, x_bin, x_neg, x_not, x_cmp, x_cmp2, x_and, x_or, x_ite, x_call, x_mk, x_fld, x_prop, x_idx, x_sli, x_bf, x_bm, x_isi, x_rpeq, x_tix, x_tin, x_tups, x_lsts, x_slen, x_sidx, s_set, s_seto, s_par, s_aug, s_app, s_ext, s_insr, s_seti, s_setf, s_mv, s_ex, s_ite, s_ret, s_retn, s_appop, s_setw, s_retw, s_sets, sq_nil, sq_cons, es_nil, es_cons, ec_nil, ec_cons, bind_ok, ofO_some, boolR_bl, fin_rt, fin_nx, seqR_nx, seqR_rt, negR_int, cmp2R_t, cmp2R_f, mkR_some, fldR_ins, propR_ins, retwR_lst, setsR_lst, lstAt, lcF, bindP, bindPs, List.getD_cons_zero, List.getD_cons_succ, List.set_cons_zero, List.set_cons_succ, Option.map_some, Option.bind_some, if_true, if_false, Bool.false_eq_true, cmpD, eq_str, eq_int, in_chr, len_lst, len_tup, add_int, sub_int, int_int, int_bl, abs_int, newAt, isNewD, deref, partD, Option.bind_none, Option.map_none, Bool.not_true, Bool.not_false, ite_true, ite_false, reduceIte, Bool.and_true, Bool.true_and, List.nil_append]
    rfl
  | 1, hr =>
    cases hr
    refine ⟨some (.int 1), some (.lst ((sK :: l.ks).map .str)), some (.lst (l.ks.map .str)), ?_⟩
    simp only [list_lst, list_tup, tuple_lst, tuple_tup, x_v, x_b, x_non, x_bl, x_int, x_str, x_g, x_tup, x_lst, x_dct, x_bin, x_neg, x_not, x_cmp, x_cmp2, x_and, x_or, x_ite, x_call, x_mk, x_fld, x_prop, x_idx, x_sli, x_bf, x_bm, x_isi, x_rpeq, x_tix, x_tin, x_tups, x_lsts, x_slen, x_sidx, s_set, s_seto, s_par, s_aug, s_app, s_ext, s_insr, s_seti, s_setf, s_mv, s_ex, s_ite, s_ret, s_retn, s_appop, s_setw, s_retw, s_sets, sq_nil, sq_cons, es_nil, es_cons, ec_nil, ec_cons, bind_ok, ofO_some, boolR_bl, fin_rt, fin_nx, seqR_nx, seqR_rt, negR_int, cmp2R_t, cmp2R_f, mkR_some, fldR_ins, propR_ins, retwR_lst, setsR_lst, lstAt, lcF, bindP, bindPs, List.getD_cons_zero, List.getD_cons_succ, List.set_cons_zero, List.set_cons_succ, Option.map_some, Option.bind_some, if_true, if_false, Bool.false_eq_true, cmpD, eq_str, eq_int, in_chr, len_lst, len_tup, add_int, sub_int, int_int, int_bl, abs_int, newAt, isNewD, deref, partD, Option.bind_none, Option.map_none, Bool.not_true, Bool.not_false, ite_true, ite_false, reduceIte, Bool.and_true, Bool.true_and, Int.natCast_one, Int.cast_ofNat_Int, show decide ((1 : Int) < 1) = false from rfl, e_line1 g]
    rw [appR_some (show (l.told.take 1).length < bigN by show 1 < bigN; decide)]
    simp only [list_lst, list_tup, tuple_lst, tuple_tup, x_v, x_b, x_non, x_bl, x_int, x_str, x_g, x_tup, x_lst, x_dct, x_bin, x_neg, x_not, x_cmp, x_cmp2, x_and, x_or, x_ite, x_call, x_mk, x_fld, x_prop, x_idx, x_sli, x_bf, x_bm, x_isi, x_rpeq, x_tix, x_tin, x_tups, x_lsts, x_slen, x_sidx, s_set, s_seto, s_par, s_aug, s_app, s_ext, s_insr, s_seti, s_setf, s_mv, s_ex, s_ite, s_ret, s_retn, s_appop, s_setw, s_retw, s_sets, sq_nil, sq_cons, es_nil, es_cons, ec_nil, ec_cons, bind_ok, ofO_some, boolR_bl, fin_rt, fin_nx, seqR_nx, seqR_rt, negR_int, cmp2R_t, cmp2R_f, mkR_some, fldR_ins, propR_ins, retwR_lst, setsR_lst, lstAt, lcF, bindP, bindPs, List.getD_cons_zero, List.getD_cons_succ, List.set_cons_zero, List.set_cons_succ, Option.map_some, Option.bind_some, if_true, if_false, Bool.false_eq_true, cmpD, eq_str, eq_int, in_chr, len_lst, len_tup, add_int, sub_int, int_int, int_bl, abs_int, newAt, isNewD, deref, partD, Option.bind_none, Option.map_none, Bool.not_true, Bool.not_false, ite_true, ite_false, reduceIte, Bool.and_true, Bool.true_and]
    rfl
  | k + 2, hr =>
    have hr' : (l.cs.map fun c => c.words l)[k]? = some r := hr
    rw [List.getElem?_map] at hr'
    obtain ⟨c, hc, rfl⟩ := Option.map_eq_some_iff.mp hr'
    refine ⟨some (.int ((k + 2 : Nat) : Int)), some (.lst ((c.words l).map .str)), some (c.ins l), ?_⟩
    have e2 := e_line2 (ns := ns) (n := n) (w := w) g (g.cg c (List.mem_of_getElem? hc)) (k := ((k + 2 : Nat) : Int)) (by omega) (by omega)
    have e3 : l.told.take (k + 2 + 1) = l.told.take (k + 2) ++ [c.ins l] := by
      rw [List.take_succ]
      show _ ++ ((l.cs.map (Cl.ins l))[k]?).toList = _
      rw [List.getElem?_map, hc]; rfl
    have i0 : idxD w (.lst (l.told.take (k + 2))) (.int 0) = some (.lst (l.fs.map .str)) := idx_lst (Int.le_refl 0) rfl
    have i1 : idxD w (.lst (l.told.take (k + 2))) (.int 1) = some (.lst (l.ks.map .str)) := idx_lst (by decide) rfl
    have ln : (l.told.take (k + 2)).length < bigN := by
      rw [List.length_take]; unfold bigN; omega
    rw [e3]
    obtain ⟨q, hq⟩ : ∃ q, c.ins l = .ins 0 q := ⟨_, rfl⟩
    rw [hq] at e2 ⊢
    simp only [list_lst, list_tup, tuple_lst, tuple_tup, x_v, x_b, x_non, x_bl, x_int, x_str, x_g, x_tup, x_lst, x_dct, x_bin, x_neg, x_not, x_cmp, x_cmp2, x_and, x_or, x_ite, x_call, x_mk, x_fld, x_prop, x_idx, x_sli, x_bf, x_bm, x_isi, x_rpeq, x_tix, x_tin, x_tups, x_lsts, x_slen, x_sidx, s_set, s_seto, s_par, s_aug, s_app, s_ext, s_insr, s_seti, s_setf, s_mv, s_ex, s_ite, s_ret, s_retn, s_appop, s_setw, s_retw, s_sets, sq_nil, sq_cons, es_nil, es_cons, ec_nil, ec_cons, bind_ok, ofO_some, boolR_bl, fin_rt, fin_nx, seqR_nx, seqR_rt, negR_int, cmp2R_t, cmp2R_f, mkR_some, fldR_ins, propR_ins, retwR_lst, setsR_lst, lstAt, lcF, bindP, bindPs, List.getD_cons_zero, List.getD_cons_succ, List.set_cons_zero, List.set_cons_succ, Option.map_some, Option.bind_some, if_true, if_false, Bool.false_eq_true, cmpD, eq_str, eq_int, in_chr, len_lst, len_tup, add_int, sub_int, int_int, int_bl, abs_int, newAt, isNewD, deref, partD, Option.bind_none, Option.map_none, Bool.not_true, Bool.not_false, ite_true, ite_false, reduceIte, Bool.and_true, Bool.true_and, decide_eq_true (show (1 : Int) < ((k + 2 : Nat) : Int) by omega), i0, i1, e2, appR_some ln]
theorem e_rule {l : Lo} (g : l.Good) : CC ns (n + 5) F_Rule_init [.str l.text] w = .ok l.rule w := by
  rw [st_Rule_init, c_Rule_init]
  have tl := l.text_len g
  have c0 := g.c0
  have c4 := g.c4
  have hs : bmD w .split (.str l.text) [.str [10]] = some (.lst (l.rows.map fun r => .str (joinL [32] r))) := by
    rw [split_str (by omega) (by decide), l.split_text g, List.map_map]; rfl
  have hlc : ev (TT ns) (CC ns (n + 4)) (.lc (.n 7) (.bm .split (.v 1) [.g 2]) [] (.bm .split (.v 7) [.g 3])) [some (.ins 1 []), some (.str l.text), none, none, none, none, none, none] w = .ok (.lst (l.rows.map rowD)) w := by
    rw [lc_map (xs := .lst (l.rows.map fun r => .str (joinL [32] r))) l.rows (fun r => .str (joinL [32] r)) rowD (by simp only [list_lst, list_tup, tuple_lst, tuple_tup, x_v, x_b, x_non, x_bl, x_int, x_str, x_g, x_tup, x_lst, x_dct, x_bin, x_neg, x_not, x_cmp, x_cmp2, x_and, x_or, x_ite, x_call, x_mk, x_fld, x_prop, x_idx, x_sli, x_bf, x_bm, x_isi, x_rpeq, x_tix, x_tin, x_tups, x_lsts, x_slen, x_sidx, s_set, s_seto, s_par, s_aug, s_app, s_ext, s_insr, s_seti, s_setf, s_mv, s_ex, s_ite, s_ret, s_retn, s_appop, s_setw, s_retw, s_sets, sq_nil, sq_cons, es_nil, es_cons, ec_nil, ec_cons, bind_ok, ofO_some, boolR_bl, fin_rt, fin_nx, seqR_nx, seqR_rt, negR_int, cmp2R_t, cmp2R_f, mkR_some, fldR_ins, propR_ins, retwR_lst, setsR_lst, lstAt, lcF, bindP, bindPs, List.getD_cons_zero, List.getD_cons_succ, List.set_cons_zero, List.set_cons_succ, Option.map_some, Option.bind_some, if_true, if_false, Bool.false_eq_true, cmpD, eq_str, eq_int, in_chr, len_lst, len_tup, add_int, sub_int, int_int, int_bl, abs_int, newAt, isNewD, deref, partD, Option.bind_none, Option.map_none, Bool.not_true, Bool.not_false, ite_true, ite_false, reduceIte, Bool.and_true, Bool.true_and, g_2, hs]) rfl fun r hr => ?_]
    simp only [list_lst, list_tup, tuple_lst, tuple_tup, x_v, x_b, x_non, x_bl, x_int, x_str, x_g, x_tup, x_lst, x_dct, x_bin, x_neg, x_not, x_cmp, x_cmp2, x_and, x_or, x_ite, x_call, x_mk, x_fld, x_prop, x_idx, x_sli, x_bf, x_bm, x_isi, x_rpeq, x_tix, x_tin, x_tups, x_lsts, x_slen, x_sidx, s_set, s_seto, s_par, s_aug, s_app, s_ext, s_insr, s_seti, s_setf, s_mv, s_ex, s_ite, s_ret, s_retn, s_appop, s_setw, s_retw, s_sets, sq_nil, sq_cons, es_nil, es_cons, ec_nil, ec_cons, bind_ok, ofO_some, boolR_bl, fin_rt, fin_nx, seqR_nx, seqR_rt, negR_int, cmp2R_t, cmp2R_f, mkR_some, fldR_ins, propR_ins, retwR_lst, setsR_lst, lstAt, lcF, bindP, bindPs, List.getD_cons_zero, List.getD_cons_succ, List.set_cons_zero, List.set_cons_succ, Option.map_some, Option.bind_some, if_true, if_false, Bool.false_eq_true, cmpD, eq_str, eq_int, in_chr, len_lst, len_tup, add_int, sub_int, int_int, int_bl, abs_int, newAt, isNewD, deref, partD, Option.bind_none, Option.map_none, Bool.not_true, Bool.not_false, ite_true, ite_false, reduceIte, Bool.and_true, Bool.true_and, g_3, split_str (show (joinL [32] r).length ≤ 1000000 by have := l.line_len g r hr; omega) (show 32 < 256 by decide), l.split_row g r hr, rowD]
  have hfor : ∃ y4 y5 y6, evS (TT ns) (CC ns (n + 4)) (.for_ (.t [.n 4, .n 5]) (.bf .enum [.v 2]) rlB) [some (.ins 1 []), some (.str l.text), some (.lst (l.rows.map rowD)), some (.lst []), none, none, none, none] w = .ok (.nx [some (.ins 1 []), some (.str l.text), some (.lst (l.rows.map rowD)), some (.lst l.told), y4, y5, y6, none]) w := by
    rw [s_for]
    simp only [list_lst, list_tup, tuple_lst, tuple_tup, x_v, x_b, x_non, x_bl, x_int, x_str, x_g, x_tup, x_lst, x_dct, x_bin, x_neg, x_not, x_cmp, x_cmp2, x_and, x_or, x_ite, x_call, x_mk, x_fld, x_prop, x_idx, x_sli, x_bf, x_bm, x_isi, x_rpeq, x_tix, x_tin, x_tups, x_lsts, x_slen, x_sidx, s_set, s_seto, s_par, s_aug, s_app, s_ext, s_insr, s_seti, s_setf, s_mv, s_ex, s_ite, s_ret, s_retn, s_appop, s_setw, s_retw, s_sets, sq_nil, sq_cons, es_nil, es_cons, ec_nil, ec_cons, bind_ok, ofO_some, boolR_bl, fin_rt, fin_nx, seqR_nx, seqR_rt, negR_int, cmp2R_t, cmp2R_f, mkR_some, fldR_ins, propR_ins, retwR_lst, setsR_lst, lstAt, lcF, bindP, bindPs, List.getD_cons_zero, List.getD_cons_succ, List.set_cons_zero, List.set_cons_succ, Option.map_some, Option.bind_some, if_true, if_false, Bool.false_eq_true, cmpD, eq_str, eq_int, in_chr, len_lst, len_tup, add_int, sub_int, int_int, int_bl, abs_int, newAt, isNewD, deref, partD, Option.bind_none, Option.map_none, Bool.not_true, Bool.not_false, ite_true, ite_false, reduceIte, Bool.and_true, Bool.true_and, enum_lst, iter_lst]
    have := goF_ok (f := forF (TT ns) (CC ns (n + 4)) (.t [.n 4, .n 5]) rlB) (J := fun k ρ w' => w' = w ∧ ∃ x4 x5 x6, ρ = [some (.ins 1 []), some (.str l.text), some (.lst (l.rows.map rowD)), some (.lst (l.told.take k)), x4, x5, x6, none]) (enumL 0 (l.rows.map rowD)) 0 [some (.ins 1 []), some (.str l.text), some (.lst (l.rows.map rowD)), some (.lst []), none, none, none, none] w ⟨rfl, none, none, none, rfl⟩ ?_
    · obtain ⟨r, w1, e, ρ', rfl, rfl, x4, x5, x6, rfl⟩ := this.ex
      rw [e, enum_len, List.length_map, List.take_of_length_le (by unfold Lo.told Lo.rows; simp)]
      exact ⟨_, _, _, rfl⟩
    · rintro k d - hd _ _ ⟨rfl, x4, x5, x6, rfl⟩
      obtain ⟨y4, y5, y6, e⟩ := rl_lap (ns := ns) (n := n) g (x0 := some (.ins 1 [])) (x1 := some (.str l.text)) (x2 := some (.lst (l.rows.map rowD))) (x4 := x4) (x5 := x5) (x6 := x6) (x7 := none) hd
      exact ok_of e ⟨_, rfl, rfl, _, _, _, rfl⟩
  obtain ⟨y4, y5, y6, hfor⟩ := hfor
  have i0 : idxD w (.lst l.told) (.int 0) = some (.lst (l.fs.map .str)) := idx_lst (Int.le_refl 0) rfl
  have i1 : idxD w (.lst l.told) (.int 1) = some (.lst (l.ks.map .str)) := idx_lst (by decide) rfl
  have i2 : sliD w (.lst l.told) (some (some 2)) (some none) = some (.lst (l.cs.map (Cl.ins l))) := sli_from (xs := l.told) (k := 2) (by unfold Lo.told; simp)
  have hl : l.told.length = l.cs.length + 2 := by unfold Lo.told; simp
  have f4 : (TT ns).fpos 4 1 = some 0 := rfl
  have f5 : (TT ns).fpos 5 1 = some 1 := rfl
  have f6 : (TT ns).fpos 6 1 = some 2 := rfl
  have f7 : (TT ns).fpos 7 1 = some 3 := rfl
  simp only [list_lst, list_tup, tuple_lst, tuple_tup, x_v, x_b, x_non, x_bl, x_int, x_str, x_g, x_tup, x_lst, x_dct, x_bin, x_neg, x_not, x_cmp, x_cmp2, x_and, x_or, x_ite, x_call, x_mk, x_fld, x_prop, x_idx, x_sli, x_bf, x_bm, x_isi, x_rpeq, x_tix, x_tin, x_tups, x_lsts, x_slen, x_sidx, s_set, s_seto, s_par, s_aug, s_app, s_ext, s_insr, s_seti, s_setf, s_mv, s_ex, s_ite, s_ret, s_retn, s_appop, s_setw, s_retw, s_sets, sq_nil, sq_cons, es_nil, es_cons, ec_nil, ec_cons, bind_ok, ofO_some, boolR_bl, fin_rt, fin_nx, seqR_nx, seqR_rt, negR_int, cmp2R_t, cmp2R_f, mkR_some, fldR_ins, propR_ins, retwR_lst, setsR_lst, lstAt, lcF, bindP, bindPs, List.getD_cons_zero, List.getD_cons_succ, List.set_cons_zero, List.set_cons_succ, Option.map_some, Option.bind_some, if_true, if_false, Bool.false_eq_true, cmpD, eq_str, eq_int, in_chr, len_lst, len_tup, add_int, sub_int, int_int, int_bl, abs_int, newAt, isNewD, deref, partD, Option.bind_none, Option.map_none, Bool.not_true, Bool.not_false, ite_true, ite_false, reduceIte, Bool.and_true, Bool.true_and, isiD, hlc, hfor, hl, g_12]
  rw [decide_eq_false (show ¬ ((l.cs.length + 2 : Nat) : Int) < 3 by omega)]
  simp only [list_lst, list_tup, tuple_lst, tuple_tup, x_v, x_b, x_non, x_bl, x_int, x_str, x_g, x_tup, x_lst, x_dct, x_bin, x_neg, x_not, x_cmp, x_cmp2, x_and, x_or, x_ite, x_call, x_mk, x_fld, x_prop, x_idx, x_sli, x_bf, x_bm, x_isi, x_rpeq, x_tix, x_tin, x_tups, x_lsts, x_slen, x_sidx, s_set, s_seto, s_par, s_aug, s_app, s_ext, s_insr, s_seti, s_setf, s_mv, s_ex, s_ite, s_ret, s_retn, s_appop, s_setw, s_retw, s_sets, sq_nil, sq_cons, es_nil, es_cons, ec_nil, ec_cons, bind_ok, ofO_some, boolR_bl, fin_rt, fin_nx, seqR_nx, seqR_rt, negR_int, cmp2R_t, cmp2R_f, mkR_some, fldR_ins, propR_ins, retwR_lst, setsR_lst, lstAt, lcF, bindP, bindPs, List.getD_cons_zero, List.getD_cons_succ, List.set_cons_zero, List.set_cons_succ, Option.map_some, Option.bind_some, if_true, if_false, Bool.false_eq_true, cmpD, eq_str, eq_int, in_chr, len_lst, len_tup, add_int, sub_int, int_int, int_bl, abs_int, newAt, isNewD, deref, partD, Option.bind_none, Option.map_none, Bool.not_true, Bool.not_false, ite_true, ite_false, reduceIte, Bool.and_true, Bool.true_and, i0, i1, i2, setfR_ins f4 (show setFld 0 (D.str l.text) [] = some [.str l.text] from rfl)]
  rw [setfR_ins f5 (show setFld 1 _ [D.str l.text] = some [.str l.text, .tup (l.fs.map .str)] from rfl)]
  simp only [list_lst, list_tup, tuple_lst, tuple_tup, x_v, x_b, x_non, x_bl, x_int, x_str, x_g, x_tup, x_lst, x_dct, x_bin, x_neg, x_not, x_cmp, x_cmp2, x_and, x_or, x_ite, x_call, x_mk, x_fld, x_prop, x_idx, x_sli, x_bf, x_bm, x_isi, x_rpeq, x_tix, x_tin, x_tups, x_lsts, x_slen, x_sidx, s_set, s_seto, s_par, s_aug, s_app, s_ext, s_insr, s_seti, s_setf, s_mv, s_ex, s_ite, s_ret, s_retn, s_appop, s_setw, s_retw, s_sets, sq_nil, sq_cons, es_nil, es_cons, ec_nil, ec_cons, bind_ok, ofO_some, boolR_bl, fin_rt, fin_nx, seqR_nx, seqR_rt, negR_int, cmp2R_t, cmp2R_f, mkR_some, fldR_ins, propR_ins, retwR_lst, setsR_lst, lstAt, lcF, bindP, bindPs, List.getD_cons_zero, List.getD_cons_succ, List.set_cons_zero, List.set_cons_succ, Option.map_some, Option.bind_some, if_true, if_false, Bool.false_eq_true, cmpD, eq_str, eq_int, in_chr, len_lst, len_tup, add_int, sub_int, int_int, int_bl, abs_int, newAt, isNewD, deref, partD, Option.bind_none, Option.map_none, Bool.not_true, Bool.not_false, ite_true, ite_false, reduceIte, Bool.and_true, Bool.true_and, i0, i1, i2]
  rw [setfR_ins f6 (show setFld 2 _ _ = some [.str l.text, .tup (l.fs.map .str), .tup (l.ks.map .str)] from rfl)]
  simp only [list_lst, list_tup, tuple_lst, tuple_tup, x_v, x_b, x_non, x_bl, x_int, x_str, x_g, x_tup, x_lst, x_dct, x_bin, x_neg, x_not, x_cmp, x_cmp2, x_and, x_or, x_ite, x_call, x_mk, x_fld, x_prop, x_idx, x_sli, x_bf, x_bm, x_isi, x_rpeq, x_tix, x_tin, x_tups, x_lsts, x_slen, x_sidx, s_set, s_seto, s_par, s_aug, s_app, s_ext, s_insr, s_seti, s_setf, s_mv, s_ex, s_ite, s_ret, s_retn, s_appop, s_setw, s_retw, s_sets, sq_nil, sq_cons, es_nil, es_cons, ec_nil, ec_cons, bind_ok, ofO_some, boolR_bl, fin_rt, fin_nx, seqR_nx, seqR_rt, negR_int, cmp2R_t, cmp2R_f, mkR_some, fldR_ins, propR_ins, retwR_lst, setsR_lst, lstAt, lcF, bindP, bindPs, List.getD_cons_zero, List.getD_cons_succ, List.set_cons_zero, List.set_cons_succ, Option.map_some, Option.bind_some, if_true, if_false, Bool.false_eq_true, cmpD, eq_str, eq_int, in_chr, len_lst, len_tup, add_int, sub_int, int_int, int_bl, abs_int, newAt, isNewD, deref, partD, Option.bind_none, Option.map_none, Bool.not_true, Bool.not_false, ite_true, ite_false, reduceIte, Bool.and_true, Bool.true_and, i0, i1, i2]
  rw [setfR_ins f7 (show setFld 3 _ _ = some [.str l.text, .tup (l.fs.map .str), .tup (l.ks.map .str), .tup (l.cs.map (Cl.ins l))] from rfl)]
  simp only [list_lst, list_tup, tuple_lst, tuple_tup, x_v, x_b, x_non, x_bl, x_int, x_str, x_g, x_tup, x_lst, x_dct, x_bin, x_neg, x_not, x_cmp, x_cmp2, x_and, x_or, x_ite, x_call, x_mk, x_fld, x_prop, x_idx, x_sli, x_bf, x_bm, x_isi, x_rpeq, x_tix, x_tin, x_tups, x_lsts, x_slen, x_sidx, s_set, s_seto, s_par, s_aug, s_app, s_ext, s_insr, s_seti, s_setf, s_mv, s_ex, s_ite, s_ret, s_retn, s_appop, s_setw, s_retw, s_sets, sq_nil, sq_cons, es_nil, es_cons, ec_nil, ec_cons, bind_ok, ofO_some, boolR_bl, fin_rt, fin_nx, seqR_nx, seqR_rt, negR_int, cmp2R_t, cmp2R_f, mkR_some, fldR_ins, propR_ins, retwR_lst, setsR_lst, lstAt, lcF, bindP, bindPs, List.getD_cons_zero, List.getD_cons_succ, List.set_cons_zero, List.set_cons_succ, Option.map_some, Option.bind_some, if_true, if_false, Bool.false_eq_true, cmpD, eq_str, eq_int, in_chr, len_lst, len_tup, add_int, sub_int, int_int, int_bl, abs_int, newAt, isNewD, deref, partD, Option.bind_none, Option.map_none, Bool.not_true, Bool.not_false, ite_true, ite_false, reduceIte, Bool.and_true, Bool.true_and]
  rfl
end
end MP.K01

set_option Elab.async false
set_option linter.all false
set_option maxRecDepth 100000
namespace MP.K01
open MP.C
section
variable {ns : List Int} {n : Nat} {w : Wd}
theorem powB {a b : Int} (h1 : ¬ b ≤ 8) (h : 0 ≤ b ∧ b ≤ 1000000 ∧ a.natAbs < 2 ^ 64) : binD .pow (.int a) (.int b) = some (.int (a ^ b.toNat)) := by
  show (if 0 ≤ b ∧ b ≤ 8 ∧ a.natAbs < 2 ^ 4096 then some (D.int (a ^ b.toNat)) else if 0 ≤ b ∧ b ≤ 1000000 ∧ a.natAbs < 2 ^ 64 then some (D.int (a ^ b.toNat)) else none) = _
  rw [if_neg (fun k => h1 k.2.1), if_pos h]
def ten18 : Int := 10 ^ 18
def ten60 : Int := 10 ^ 60
def big : Int := ten60 ^ 5
theorem pow1 : binD .pow (.int 10) (.int 60) = some (.int ten60) := powB (by decide) ⟨by decide, by decide, by decide⟩
theorem pow3 : binD .pow (.int 10) (.int 18) = some (.int ten18) := powB (by decide) ⟨by decide, by decide, by decide⟩
theorem pow2 : binD .pow (.int ten60) (.int 5) = some (.int big) :=
  pow_int ⟨by decide, by decide, Nat.lt_of_lt_of_le (show Int.natAbs ten60 < 2 ^ 200 by decide) (Nat.pow_le_pow_right (by decide) (by decide))⟩
theorem big_pos : 0 < big := Int.pow_pos (by decide)
theorem pows : ∃ A B C : Int, binD .pow (.int 10) (.int 60) = some (.int A) ∧ binD .pow (.int A) (.int 5) = some (.int B) ∧ 0 < B ∧ binD .pow (.int 10) (.int 18) = some (.int C) :=
  ⟨ten60, big, ten18, pow1, pow2, big_pos, pow3⟩
theorem pot_new {a b : Int} (h1 : 0 ≤ a) (h3 : 0 ≤ b) (h4 : b < 4611686018427387904) : Pot w.length 0 (w ++ [.lst [.int a, .int b, .int 0]]) :=
  ⟨a, b, 0, by rw [List.getElem?_append_right (Nat.le_refl _), Nat.sub_self]; rfl, h1, h3, h4, Int.le_refl 0, Int.le_refl 0⟩
theorem flag_nn (b : Bool) : (0 : Int) ≤ if b = true then 1 else 0 := by cases b <;> decide
theorem pot_s1 {qa qb : CE} {T : Tb} {C : CallF} {B E c : Int} (hp : ∀ ρ w, ev T C qa ρ w = .ok (.int B) w) (hp2 : ∀ ρ w, ev T C qb ρ w = .ok (.int E) w) (hB : 0 < B) {x0 x1 x3 x4 : Option D} : ∃ a : Int, 0 ≤ a ∧
    evS T C (.set (.n 3) (.bin .mul (.bin .mod (.bf .int [.bf .abs [.v 2]]) qa) (.bf .int [.cmp .ge (.bf .abs [.v 2]) qb]))) [x0, x1, some (.int c), x3, x4] w = .ok (.nx [x0, x1, some (.int c), some (.int a), x4]) w := by
  have hsb : ∀ b : Bool, smallI (if b = true then 1 else 0) = true := by decide
  refine ⟨_, Int.mul_nonneg (Int.emod_nonneg (if c < 0 then -c else c) (Int.ne_of_gt hB)) (flag_nn (decide (E ≤ if c < 0 then -c else c))), ?_⟩
  simp only [list_lst, list_tup, tuple_lst, tuple_tup, x_v, x_b, x_non, x_bl, x_int, x_str, x_g, x_tup, x_lst, x_dct, x_bin, x_neg, x_not, x_cmp, x_cmp2, x_and, x_or, x_ite, x_call, x_mk, x_fld, x_prop, x_idx, x_sli, x_bf, x_bm, x_isi, x_rpeq, x_tix, x_tin, x_tups, x_lsts, x_slen, x_sidx, s_set, s_seto, s_par, s_aug, s_app, s_ext, s_insr, s_seti, s_setf, s_mv, s_ex, s_ite, s_ret, s_retn, s_appop, s_setw, s_retw, s_sets, sq_nil, sq_cons, es_nil, es_cons, ec_nil, ec_cons, bind_ok, ofO_some, boolR_bl, fin_rt, fin_nx, seqR_nx, seqR_rt, negR_int, cmp2R_t, cmp2R_f, mkR_some, fldR_ins, propR_ins, retwR_lst, setsR_lst, lstAt, lcF, bindP, bindPs, List.getD_cons_zero, List.getD_cons_succ, List.set_cons_zero, List.set_cons_succ, Option.map_some, Option.bind_some, if_true, if_false, Bool.false_eq_true, cmpD, eq_str, eq_int, in_chr, len_lst, len_tup, add_int, sub_int, int_int, int_bl, abs_int, newAt, isNewD, deref, partD, Option.bind_none, Option.map_none, Bool.not_true, Bool.not_false, ite_true, ite_false, reduceIte, Bool.and_true, Bool.true_and, hp, hp2, mod_int hB, mul_r (hsb _)]
theorem pot_s2 {T : Tb} {C : CallF} {c : Int} {x0 x1 x3 x4 : Option D} : evS T C (.set (.n 4) (.bin .mod (.bf .int [.v 2]) (.int 2305843009213693951))) [x0, x1, some (.int c), x3, x4] w = .ok (.nx [x0, x1, some (.int c), x3, some (.int (c % 2305843009213693951))]) w := by
  simp only [list_lst, list_tup, tuple_lst, tuple_tup, x_v, x_b, x_non, x_bl, x_int, x_str, x_g, x_tup, x_lst, x_dct, x_bin, x_neg, x_not, x_cmp, x_cmp2, x_and, x_or, x_ite, x_call, x_mk, x_fld, x_prop, x_idx, x_sli, x_bf, x_bm, x_isi, x_rpeq, x_tix, x_tin, x_tups, x_lsts, x_slen, x_sidx, s_set, s_seto, s_par, s_aug, s_app, s_ext, s_insr, s_seti, s_setf, s_mv, s_ex, s_ite, s_ret, s_retn, s_appop, s_setw, s_retw, s_sets, sq_nil, sq_cons, es_nil, es_cons, ec_nil, ec_cons, bind_ok, ofO_some, boolR_bl, fin_rt, fin_nx, seqR_nx, seqR_rt, negR_int, cmp2R_t, cmp2R_f, mkR_some, fldR_ins, propR_ins, retwR_lst, setsR_lst, lstAt, lcF, bindP, bindPs, List.getD_cons_zero, List.getD_cons_succ, List.set_cons_zero, List.set_cons_succ, Option.map_some, Option.bind_some, if_true, if_false, Bool.false_eq_true, cmpD, eq_str, eq_int, in_chr, len_lst, len_tup, add_int, sub_int, int_int, int_bl, abs_int, newAt, isNewD, deref, partD, Option.bind_none, Option.map_none, Bool.not_true, Bool.not_false, ite_true, ite_false, reduceIte, Bool.and_true, Bool.true_and, mod_int (show (0 : Int) < 2305843009213693951 by decide)]
theorem pot_s3 {T : Tb} {C : CallF} {a d q r s M : Int} {k : Nat} (hk : k < 64) (hq : smallI q = true) (hr : smallI r = true) (hM : 0 < M) (hM2 : M < 4611686018427387904) {x0 x2 : Option D} : ∃ b : Int, 0 ≤ b ∧ b < 4611686018427387904 ∧ evS T C (.retw (.lst [.v 3, .bin .mod (.bf .int [.bin .add (.bin .add (.bin .mul (.v 4) (.int q)) (.bin .mul (.bin .mul (.int r) (.v 1)) (.v 1))) (.int s)]) (.int M), .int 0])) [x0, some (.int k), x2, some (.int a), some (.int d)] w = .ok (.rt (.obj w.length)) (w ++ [.lst [.int a, .int b, .int 0]]) := by
  refine ⟨(d * q + r * k * k + s) % M, Int.emod_nonneg _ (Int.ne_of_gt hM), Int.lt_trans (Int.emod_lt_of_pos _ hM) hM2, ?_⟩
  simp only [list_lst, list_tup, tuple_lst, tuple_tup, x_v, x_b, x_non, x_bl, x_int, x_str, x_g, x_tup, x_lst, x_dct, x_bin, x_neg, x_not, x_cmp, x_cmp2, x_and, x_or, x_ite, x_call, x_mk, x_fld, x_prop, x_idx, x_sli, x_bf, x_bm, x_isi, x_rpeq, x_tix, x_tin, x_tups, x_lsts, x_slen, x_sidx, s_set, s_seto, s_par, s_aug, s_app, s_ext, s_insr, s_seti, s_setf, s_mv, s_ex, s_ite, s_ret, s_retn, s_appop, s_setw, s_retw, s_sets, sq_nil, sq_cons, es_nil, es_cons, ec_nil, ec_cons, bind_ok, ofO_some, boolR_bl, fin_rt, fin_nx, seqR_nx, seqR_rt, negR_int, cmp2R_t, cmp2R_f, mkR_some, fldR_ins, propR_ins, retwR_lst, setsR_lst, lstAt, lcF, bindP, bindPs, List.getD_cons_zero, List.getD_cons_succ, List.set_cons_zero, List.set_cons_succ, Option.map_some, Option.bind_some, if_true, if_false, Bool.false_eq_true, cmpD, eq_str, eq_int, in_chr, len_lst, len_tup, add_int, sub_int, int_int, int_bl, abs_int, newAt, isNewD, deref, partD, Option.bind_none, Option.map_none, Bool.not_true, Bool.not_false, ite_true, ite_false, reduceIte, Bool.and_true, Bool.true_and, mul_r hq, mul_l hr, mul_r (small_of (a := (k : Int)) (by omega) (by omega)), mod_int hM]
theorem e_pot {k : Nat} (hk : k < 64) : Ok (CC ns (n + 1) F_law_pot [.ext 0, .int k] w) fun r w' => ∃ i, r = .obj i ∧ Pot i 0 w' := by
  obtain ⟨A, B, E, pow1, pow2, big_pos, pow3⟩ := pows
  have hp : ∀ ρ w, ev (TT ns) (CC ns n) (.bin .pow (.bin .pow (.int 10) (.int 60)) (.int 5)) ρ w = .ok (.int B) w := fun ρ w => by
    simp only [x_bin, x_int, bind_ok, pow1, ofO_some, pow2]
  have hp2 : ∀ ρ w, ev (TT ns) (CC ns n) (.bin .pow (.int 10) (.int 18)) ρ w = .ok (.int E) w := fun ρ w => by
    simp only [x_bin, x_int, bind_ok, pow3, ofO_some]
  have hc : ∃ c : Int, ev (TT ns) (CC ns n) (.ite (.cmp .lt (.v 1) (.slen (.v 0))) (.sidx (.v 0) (.v 1)) (.bin .add (.bin .mul (.int 41) (.v 1)) (.int 23))) [some (.ext 0), some (.int k), none, none, none] w = .ok (.int c) w := by
    by_cases h : (k : Int) < ns.length
    · have h' : k < ns.length := by omega
      refine ⟨ns[k], ?_⟩
      have e : sidxD ns (.ext 0) (.int k) = some (.int ns[k]) := by
        show (ixD ns.length k).bind _ = _
        rw [ixD_nat h']
        show (ns[k]?).map D.int = _
        rw [List.getElem?_eq_getElem h']; rfl
      simp only [list_lst, list_tup, tuple_lst, tuple_tup, x_v, x_b, x_non, x_bl, x_int, x_str, x_g, x_tup, x_lst, x_dct, x_bin, x_neg, x_not, x_cmp, x_cmp2, x_and, x_or, x_ite, x_call, x_mk, x_fld, x_prop, x_idx, x_sli, x_bf, x_bm, x_isi, x_rpeq, x_tix, x_tin, x_tups, x_lsts, x_slen, x_sidx, s_set, s_seto, s_par, s_aug, s_app, s_ext, s_insr, s_seti, s_setf, s_mv, s_ex, s_ite, s_ret, s_retn, s_appop, s_setw, s_retw, s_sets, sq_nil, sq_cons, es_nil, es_cons, ec_nil, ec_cons, bind_ok, ofO_some, boolR_bl, fin_rt, fin_nx, seqR_nx, seqR_rt, negR_int, cmp2R_t, cmp2R_f, mkR_some, fldR_ins, propR_ins, retwR_lst, setsR_lst, lstAt, lcF, bindP, bindPs, List.getD_cons_zero, List.getD_cons_succ, List.set_cons_zero, List.set_cons_succ, Option.map_some, Option.bind_some, if_true, if_false, Bool.false_eq_true, cmpD, eq_str, eq_int, in_chr, len_lst, len_tup, add_int, sub_int, int_int, int_bl, abs_int, newAt, isNewD, deref, partD, Option.bind_none, Option.map_none, Bool.not_true, Bool.not_false, ite_true, ite_false, reduceIte, Bool.and_true, Bool.true_and, gscr, slenD, decide_eq_true h, e]
    · refine ⟨41 * k + 23, ?_⟩
      simp only [list_lst, list_tup, tuple_lst, tuple_tup, x_v, x_b, x_non, x_bl, x_int, x_str, x_g, x_tup, x_lst, x_dct, x_bin, x_neg, x_not, x_cmp, x_cmp2, x_and, x_or, x_ite, x_call, x_mk, x_fld, x_prop, x_idx, x_sli, x_bf, x_bm, x_isi, x_rpeq, x_tix, x_tin, x_tups, x_lsts, x_slen, x_sidx, s_set, s_seto, s_par, s_aug, s_app, s_ext, s_insr, s_seti, s_setf, s_mv, s_ex, s_ite, s_ret, s_retn, s_appop, s_setw, s_retw, s_sets, sq_nil, sq_cons, es_nil, es_cons, ec_nil, ec_cons, bind_ok, ofO_some, boolR_bl, fin_rt, fin_nx, seqR_nx, seqR_rt, negR_int, cmp2R_t, cmp2R_f, mkR_some, fldR_ins, propR_ins, retwR_lst, setsR_lst, lstAt, lcF, bindP, bindPs, List.getD_cons_zero, List.getD_cons_succ, List.set_cons_zero, List.set_cons_succ, Option.map_some, Option.bind_some, if_true, if_false, Bool.false_eq_true, cmpD, eq_str, eq_int, in_chr, len_lst, len_tup, add_int, sub_int, int_int, int_bl, abs_int, newAt, isNewD, deref, partD, Option.bind_none, Option.map_none, Bool.not_true, Bool.not_false, ite_true, ite_false, reduceIte, Bool.and_true, Bool.true_and, gscr, slenD, decide_eq_false h, mul_l (show smallI 41 = true by decide)]
  obtain ⟨c, hc⟩ := hc
  obtain ⟨a, a1, h1⟩ := pot_s1 (w := w) (c := c) (x0 := some (.ext 0)) (x1 := some (.int k)) (x3 := none) (x4 := none) hp hp2 big_pos
  obtain ⟨b, b1, b2, h3⟩ := pot_s3 (w := w) (T := TT ns) (C := CC ns n) (a := a) (d := c % 2305843009213693951) (q := 60719) (r := 8087) (s := 97) (M := 2305843009213693921) hk (by decide) (by decide) (by decide) (by decide) (x0 := some (.ext 0)) (x2 := some (.int c))
  rw [st_law_pot, c_law_pot, sq_cons, s_set, hc, bind_ok, show bindP (.n 2) [some (.ext 0), some (.int k), none, none, none] (.int c) = some [some (.ext 0), some (.int k), some (.int c), none, none] from rfl, ofO_some, bind_ok, bind_ok, seqR_nx, sq_cons, h1, bind_ok, seqR_nx, sq_cons, pot_s2, bind_ok, seqR_nx, sq_cons, h3, bind_ok, seqR_rt, fin_rt, ok_ok]
  exact ⟨_, rfl, pot_new a1 b1 b2⟩
theorem e_cells {M : Int} (hM : 1 ≤ M) (hM2 : M ≤ 60) : ∃ m : Int, 1 ≤ m ∧ m ≤ M ∧ CC ns (n + 1) F_law_cells [.ext 0, .int M] w = .ok (.lst (rngL 0 m)) w := by
  refine ⟨if (if (ns.length : Int) < M then (ns.length : Int) else M) > 1 then (if (ns.length : Int) < M then (ns.length : Int) else M) else 1, ?_, ?_, ?_⟩
  · split <;> omega
  · split <;> split <;> omega
  · rw [st_law_cells, c_law_cells]
    have e1 : ∀ a b : Int, bfD w .min2 [.int a, .int b] = some (.int (if b < a then b else a)) := fun _ _ => rfl
    have e2 : ∀ a b : Int, bfD w .max2 [.int a, .int b] = some (.int (if b > a then b else a)) := fun _ _ => rfl
    simp only [list_lst, list_tup, tuple_lst, tuple_tup, x_v, x_b, x_non, x_bl, x_int, x_str, x_g, x_tup, x_lst, x_dct, x_bin, x_neg, x_not, x_cmp, x_cmp2, x_and, x_or, x_ite, x_call, x_mk, x_fld, x_prop, x_idx, x_sli, x_bf, x_bm, x_isi, x_rpeq, x_tix, x_tin, x_tups, x_lsts, x_slen, x_sidx, s_set, s_seto, s_par, s_aug, s_app, s_ext, s_insr, s_seti, s_setf, s_mv, s_ex, s_ite, s_ret, s_retn, s_appop, s_setw, s_retw, s_sets, sq_nil, sq_cons, es_nil, es_cons, ec_nil, ec_cons, bind_ok, ofO_some, boolR_bl, fin_rt, fin_nx, seqR_nx, seqR_rt, negR_int, cmp2R_t, cmp2R_f, mkR_some, fldR_ins, propR_ins, retwR_lst, setsR_lst, lstAt, lcF, bindP, bindPs, List.getD_cons_zero, List.getD_cons_succ, List.set_cons_zero, List.set_cons_succ, Option.map_some, Option.bind_some, if_true, if_false, Bool.false_eq_true, cmpD, eq_str, eq_int, in_chr, len_lst, len_tup, add_int, sub_int, int_int, int_bl, abs_int, newAt, isNewD, deref, partD, Option.bind_none, Option.map_none, Bool.not_true, Bool.not_false, ite_true, ite_false, reduceIte, Bool.and_true, Bool.true_and, gscr, slenD, e1, e2]
    rw [rng_int (by split <;> omega) (by split <;> split <;> omega)]
    simp only [list_lst, list_tup, tuple_lst, tuple_tup, x_v, x_b, x_non, x_bl, x_int, x_str, x_g, x_tup, x_lst, x_dct, x_bin, x_neg, x_not, x_cmp, x_cmp2, x_and, x_or, x_ite, x_call, x_mk, x_fld, x_prop, x_idx, x_sli, x_bf, x_bm, x_isi, x_rpeq, x_tix, x_tin, x_tups, x_lsts, x_slen, x_sidx, s_set, s_seto, s_par, s_aug, s_app, s_ext, s_insr, s_seti, s_setf, s_mv, s_ex, s_ite, s_ret, s_retn, s_appop, s_setw, s_retw, s_sets, sq_nil, sq_cons, es_nil, es_cons, ec_nil, ec_cons, bind_ok, ofO_some, boolR_bl, fin_rt, fin_nx, seqR_nx, seqR_rt, negR_int, cmp2R_t, cmp2R_f, mkR_some, fldR_ins, propR_ins, retwR_lst, setsR_lst, lstAt, lcF, bindP, bindPs, List.getD_cons_zero, List.getD_cons_succ, List.set_cons_zero, List.set_cons_succ, Option.map_some, Option.bind_some, if_true, if_false, Bool.false_eq_true, cmpD, eq_str, eq_int, in_chr, len_lst, len_tup, add_int, sub_int, int_int, int_bl, abs_int, newAt, isNewD, deref, partD, Option.bind_none, Option.map_none, Bool.not_true, Bool.not_false, ite_true, ite_false, reduceIte, Bool.and_true, Bool.true_and]
end
end MP.K01

set_option Elab.async false
set_option linter.all false
set_option maxRecDepth 100000
namespace MP.K01
open MP.C
section
variable {ns : List Int} {n : Nat} {w : Wd}
theorem x_meq {T : Tb} {C : CallF} {ρ : En} {neg : Bool} {m : Nat} {x y : CE} : ev T C (.meq neg m x y) ρ w = (((ev T C x ρ w).bind fun a w => (ev T C y ρ w).bind fun b w => meqR T C m a b w).bind boolR).bind fun r w => .ok (.bl (r != neg)) w := rfl
theorem x_mlen {T : Tb} {C : CallF} {ρ : En} {m : Nat} {x : CE} : ev T C (.mlen m x) ρ w = ((ev T C x ρ w).bind fun d w => callI T C m d [] w).bind lenR := rfl
theorem fp0 : (TT ns).fpos 0 0 = some 0 := rfl
theorem fp2 : (TT ns).fpos 2 0 = some 2 := rfl
theorem fp3 : (TT ns).fpos 3 0 = some 3 := rfl
theorem fp4 : (TT ns).fpos 4 1 = some 0 := rfl
theorem fp7 : (TT ns).fpos 7 1 = some 3 := rfl
theorem pr0 : (TT ns).prp 0 1 = some F_Rule_text := rfl
theorem pr1 : (TT ns).prp 1 1 = some F_Rule_fields := rfl
theorem pr2 : (TT ns).prp 2 1 = some F_Rule_kinds := rfl
theorem pr3 : (TT ns).prp 3 1 = some F_Rule_clauses := rfl
theorem mtq : (TT ns).mth 4 1 = some F_Rule_eq := rfl
theorem mtl : (TT ns).mth 3 1 = some F_Rule_len := rfl
theorem e_ptext {a b c d : D} : CC ns (n + 1) F_Rule_text [.ins 1 [a, b, c, d]] w = .ok a w := rfl
theorem e_pfields {a b c d : D} : CC ns (n + 1) F_Rule_fields [.ins 1 [a, b, c, d]] w = .ok b w := rfl
theorem e_pkinds {a b c d : D} : CC ns (n + 1) F_Rule_kinds [.ins 1 [a, b, c, d]] w = .ok c w := rfl
def Cl.told (l : Lo) (c : Cl) : D := .tup [.tup ((c.same l).map .str), c.pW l, c.wD]
theorem e_clauses {l : Lo} {a b c : D} : CC ns (n + 1) F_Rule_clauses [.ins 1 [a, b, c, .tup (l.cs.map (Cl.ins l))]] w = .ok (.tup (l.cs.map (Cl.told l))) w := by
  rw [st_Rule_clauses, c_Rule_clauses]
  have e1 : [a, b, c, D.tup (l.cs.map (Cl.ins l))][3]? = some (.tup (l.cs.map (Cl.ins l))) := rfl
  rw [show (CE.fld (.v 0) 7) = .fld (.v 0) 7 from rfl]
  simp only [list_lst, list_tup, tuple_lst, tuple_tup, x_v, x_b, x_non, x_bl, x_int, x_str, x_g, x_tup, x_lst, x_dct, x_bin, x_neg, x_not, x_cmp, x_cmp2, x_and, x_or, x_ite, x_call, x_mk, x_fld, x_prop, x_idx, x_sli, x_bf, x_bm, x_isi, x_rpeq, x_tix, x_tin, x_tups, x_lsts, x_slen, x_sidx, s_set, s_seto, s_par, s_aug, s_app, s_ext, s_insr, s_seti, s_setf, s_mv, s_ex, s_ite, s_ret, s_retn, s_appop, s_setw, s_retw, s_sets, sq_nil, sq_cons, es_nil, es_cons, ec_nil, ec_cons, bind_ok, ofO_some, boolR_bl, fin_rt, fin_nx, seqR_nx, seqR_rt, negR_int, cmp2R_t, cmp2R_f, mkR_some, fldR_ins, propR_ins, retwR_lst, setsR_lst, lstAt, lcF, bindP, bindPs, List.getD_cons_zero, List.getD_cons_succ, List.set_cons_zero, List.set_cons_succ, Option.map_some, Option.bind_some, if_true, if_false, Bool.false_eq_true, cmpD, eq_str, eq_int, in_chr, len_lst, len_tup, add_int, sub_int, int_int, int_bl, abs_int, newAt, isNewD, deref, partD, Option.bind_none, Option.map_none, Bool.not_true, Bool.not_false, ite_true, ite_false, reduceIte, Bool.and_true, Bool.true_and]
  rw [lc_map (xs := .tup (l.cs.map (Cl.ins l))) l.cs (Cl.ins l) (Cl.told l) (by simp only [list_lst, list_tup, tuple_lst, tuple_tup, x_v, x_b, x_non, x_bl, x_int, x_str, x_g, x_tup, x_lst, x_dct, x_bin, x_neg, x_not, x_cmp, x_cmp2, x_and, x_or, x_ite, x_call, x_mk, x_fld, x_prop, x_idx, x_sli, x_bf, x_bm, x_isi, x_rpeq, x_tix, x_tin, x_tups, x_lsts, x_slen, x_sidx, s_set, s_seto, s_par, s_aug, s_app, s_ext, s_insr, s_seti, s_setf, s_mv, s_ex, s_ite, s_ret, s_retn, s_appop, s_setw, s_retw, s_sets, sq_nil, sq_cons, es_nil, es_cons, ec_nil, ec_cons, bind_ok, ofO_some, boolR_bl, fin_rt, fin_nx, seqR_nx, seqR_rt, negR_int, cmp2R_t, cmp2R_f, mkR_some, fldR_ins, propR_ins, retwR_lst, setsR_lst, lstAt, lcF, bindP, bindPs, List.getD_cons_zero, List.getD_cons_succ, List.set_cons_zero, List.set_cons_succ, Option.map_some, Option.bind_some, if_true, if_false, Bool.false_eq_true, cmpD, eq_str, eq_int, in_chr, len_lst, len_tup, add_int, sub_int, int_int, int_bl, abs_int, newAt, isNewD, deref, partD, Option.bind_none, Option.map_none, Bool.not_true, Bool.not_false, ite_true, ite_false, reduceIte, Bool.and_true, Bool.true_and, fp7, e1]) rfl fun c _ => ?_]
  · simp only [list_lst, list_tup, tuple_lst, tuple_tup, x_v, x_b, x_non, x_bl, x_int, x_str, x_g, x_tup, x_lst, x_dct, x_bin, x_neg, x_not, x_cmp, x_cmp2, x_and, x_or, x_ite, x_call, x_mk, x_fld, x_prop, x_idx, x_sli, x_bf, x_bm, x_isi, x_rpeq, x_tix, x_tin, x_tups, x_lsts, x_slen, x_sidx, s_set, s_seto, s_par, s_aug, s_app, s_ext, s_insr, s_seti, s_setf, s_mv, s_ex, s_ite, s_ret, s_retn, s_appop, s_setw, s_retw, s_sets, sq_nil, sq_cons, es_nil, es_cons, ec_nil, ec_cons, bind_ok, ofO_some, boolR_bl, fin_rt, fin_nx, seqR_nx, seqR_rt, negR_int, cmp2R_t, cmp2R_f, mkR_some, fldR_ins, propR_ins, retwR_lst, setsR_lst, lstAt, lcF, bindP, bindPs, List.getD_cons_zero, List.getD_cons_succ, List.set_cons_zero, List.set_cons_succ, Option.map_some, Option.bind_some, if_true, if_false, Bool.false_eq_true, cmpD, eq_str, eq_int, in_chr, len_lst, len_tup, add_int, sub_int, int_int, int_bl, abs_int, newAt, isNewD, deref, partD, Option.bind_none, Option.map_none, Bool.not_true, Bool.not_false, ite_true, ite_false, reduceIte, Bool.and_true, Bool.true_and]
  · have g0 : [D.tup ((c.same l).map .str), .tup (c.ps.map .int), c.pW l, c.wD][0]? = some (.tup ((c.same l).map .str)) := rfl
    have g2 : [D.tup ((c.same l).map .str), .tup (c.ps.map .int), c.pW l, c.wD][2]? = some (c.pW l) := rfl
    have g3 : [D.tup ((c.same l).map .str), .tup (c.ps.map .int), c.pW l, c.wD][3]? = some c.wD := rfl
    simp only [list_lst, list_tup, tuple_lst, tuple_tup, x_v, x_b, x_non, x_bl, x_int, x_str, x_g, x_tup, x_lst, x_dct, x_bin, x_neg, x_not, x_cmp, x_cmp2, x_and, x_or, x_ite, x_call, x_mk, x_fld, x_prop, x_idx, x_sli, x_bf, x_bm, x_isi, x_rpeq, x_tix, x_tin, x_tups, x_lsts, x_slen, x_sidx, s_set, s_seto, s_par, s_aug, s_app, s_ext, s_insr, s_seti, s_setf, s_mv, s_ex, s_ite, s_ret, s_retn, s_appop, s_setw, s_retw, s_sets, sq_nil, sq_cons, es_nil, es_cons, ec_nil, ec_cons, bind_ok, ofO_some, boolR_bl, fin_rt, fin_nx, seqR_nx, seqR_rt, negR_int, cmp2R_t, cmp2R_f, mkR_some, fldR_ins, propR_ins, retwR_lst, setsR_lst, lstAt, lcF, bindP, bindPs, List.getD_cons_zero, List.getD_cons_succ, List.set_cons_zero, List.set_cons_succ, Option.map_some, Option.bind_some, if_true, if_false, Bool.false_eq_true, cmpD, eq_str, eq_int, in_chr, len_lst, len_tup, add_int, sub_int, int_int, int_bl, abs_int, newAt, isNewD, deref, partD, Option.bind_none, Option.map_none, Bool.not_true, Bool.not_false, ite_true, ite_false, reduceIte, Bool.and_true, Bool.true_and, Cl.ins, fp0, fp2, fp3, g0, g2, g3, Cl.told]
theorem e_rlen {a b c : D} {xs : List D} : CC ns (n + 1) F_Rule_len [.ins 1 [a, b, c, .tup xs]] w = .ok (.int xs.length) w := by
  rw [st_Rule_len, c_Rule_len]
  have e1 : [a, b, c, D.tup xs][3]? = some (.tup xs) := rfl
  simp only [list_lst, list_tup, tuple_lst, tuple_tup, x_v, x_b, x_non, x_bl, x_int, x_str, x_g, x_tup, x_lst, x_dct, x_bin, x_neg, x_not, x_cmp, x_cmp2, x_and, x_or, x_ite, x_call, x_mk, x_fld, x_prop, x_idx, x_sli, x_bf, x_bm, x_isi, x_rpeq, x_tix, x_tin, x_tups, x_lsts, x_slen, x_sidx, s_set, s_seto, s_par, s_aug, s_app, s_ext, s_insr, s_seti, s_setf, s_mv, s_ex, s_ite, s_ret, s_retn, s_appop, s_setw, s_retw, s_sets, sq_nil, sq_cons, es_nil, es_cons, ec_nil, ec_cons, bind_ok, ofO_some, boolR_bl, fin_rt, fin_nx, seqR_nx, seqR_rt, negR_int, cmp2R_t, cmp2R_f, mkR_some, fldR_ins, propR_ins, retwR_lst, setsR_lst, lstAt, lcF, bindP, bindPs, List.getD_cons_zero, List.getD_cons_succ, List.set_cons_zero, List.set_cons_succ, Option.map_some, Option.bind_some, if_true, if_false, Bool.false_eq_true, cmpD, eq_str, eq_int, in_chr, len_lst, len_tup, add_int, sub_int, int_int, int_bl, abs_int, newAt, isNewD, deref, partD, Option.bind_none, Option.map_none, Bool.not_true, Bool.not_false, ite_true, ite_false, reduceIte, Bool.and_true, Bool.true_and, fp7, e1]
theorem e_req {s t : List Nat} {a b c d e f : D} : CC ns (n + 1) F_Rule_eq [.ins 1 [.str s, a, b, c], .ins 1 [.str t, d, e, f]] w = .ok (.bl (s == t)) w := by
  rw [st_Rule_eq, c_Rule_eq]
  have e1 : [D.str s, a, b, c][0]? = some (.str s) := rfl
  have e2 : [D.str t, d, e, f][0]? = some (.str t) := rfl
  have e3 : isiD (TT ns).nc (.ins 1 [.str t, d, e, f]) (.cls 1) = some true := rfl
  simp only [list_lst, list_tup, tuple_lst, tuple_tup, x_v, x_b, x_non, x_bl, x_int, x_str, x_g, x_tup, x_lst, x_dct, x_bin, x_neg, x_not, x_cmp, x_cmp2, x_and, x_or, x_ite, x_call, x_mk, x_fld, x_prop, x_idx, x_sli, x_bf, x_bm, x_isi, x_rpeq, x_tix, x_tin, x_tups, x_lsts, x_slen, x_sidx, s_set, s_seto, s_par, s_aug, s_app, s_ext, s_insr, s_seti, s_setf, s_mv, s_ex, s_ite, s_ret, s_retn, s_appop, s_setw, s_retw, s_sets, sq_nil, sq_cons, es_nil, es_cons, ec_nil, ec_cons, bind_ok, ofO_some, boolR_bl, fin_rt, fin_nx, seqR_nx, seqR_rt, negR_int, cmp2R_t, cmp2R_f, mkR_some, fldR_ins, propR_ins, retwR_lst, setsR_lst, lstAt, lcF, bindP, bindPs, List.getD_cons_zero, List.getD_cons_succ, List.set_cons_zero, List.set_cons_succ, Option.map_some, Option.bind_some, if_true, if_false, Bool.false_eq_true, cmpD, eq_str, eq_int, in_chr, len_lst, len_tup, add_int, sub_int, int_int, int_bl, abs_int, newAt, isNewD, deref, partD, Option.bind_none, Option.map_none, Bool.not_true, Bool.not_false, ite_true, ite_false, reduceIte, Bool.and_true, Bool.true_and, e3, fp4, e1, e2]
theorem e_rne {x y : D} (h : isiD (TT ns).nc y (.cls 1) = some false) : CC ns (n + 1) F_Rule_eq [x, y] w = .ok (.bl false) w := by
  rw [st_Rule_eq, c_Rule_eq]
  simp only [list_lst, list_tup, tuple_lst, tuple_tup, x_v, x_b, x_non, x_bl, x_int, x_str, x_g, x_tup, x_lst, x_dct, x_bin, x_neg, x_not, x_cmp, x_cmp2, x_and, x_or, x_ite, x_call, x_mk, x_fld, x_prop, x_idx, x_sli, x_bf, x_bm, x_isi, x_rpeq, x_tix, x_tin, x_tups, x_lsts, x_slen, x_sidx, s_set, s_seto, s_par, s_aug, s_app, s_ext, s_insr, s_seti, s_setf, s_mv, s_ex, s_ite, s_ret, s_retn, s_appop, s_setw, s_retw, s_sets, sq_nil, sq_cons, es_nil, es_cons, ec_nil, ec_cons, bind_ok, ofO_some, boolR_bl, fin_rt, fin_nx, seqR_nx, seqR_rt, negR_int, cmp2R_t, cmp2R_f, mkR_some, fldR_ins, propR_ins, retwR_lst, setsR_lst, lstAt, lcF, bindP, bindPs, List.getD_cons_zero, List.getD_cons_succ, List.set_cons_zero, List.set_cons_succ, Option.map_some, Option.bind_some, if_true, if_false, Bool.false_eq_true, cmpD, eq_str, eq_int, in_chr, len_lst, len_tup, add_int, sub_int, int_int, int_bl, abs_int, newAt, isNewD, deref, partD, Option.bind_none, Option.map_none, Bool.not_true, Bool.not_false, ite_true, ite_false, reduceIte, Bool.and_true, Bool.true_and, h]
theorem e_told {l : Lo} (g : l.Good) {c : Cl} (cg : c.Good l.fs.length l.ks.length) : CC ns (n + 1) F_law_told_clause [l.d, c.d] w = .ok (c.told l) w := by
  rw [st_law_told_clause, c_law_told_clause]
  have hlc : ∀ (x2 x6 : Option D), ev (TT ns) (CC ns n) (.lc (.n 6) (.v 3) [] (.idx (.idx (.v 0) (.str [102, 105, 101, 108, 100, 115])) (.v 6))) [some l.d, some c.d, x2, some (.tup (c.ps.map .int)), some c.pD, some c.wD, x6] w = .ok (.lst ((c.same l).map .str)) w := fun x2 x6 => by
    rw [lc_map (xs := .tup (c.ps.map .int)) c.ps .int (fun p => .str (l.fs.getD p.toNat [])) (by simp only [list_lst, list_tup, tuple_lst, tuple_tup, x_v, x_b, x_non, x_bl, x_int, x_str, x_g, x_tup, x_lst, x_dct, x_bin, x_neg, x_not, x_cmp, x_cmp2, x_and, x_or, x_ite, x_call, x_mk, x_fld, x_prop, x_idx, x_sli, x_bf, x_bm, x_isi, x_rpeq, x_tix, x_tin, x_tups, x_lsts, x_slen, x_sidx, s_set, s_seto, s_par, s_aug, s_app, s_ext, s_insr, s_seti, s_setf, s_mv, s_ex, s_ite, s_ret, s_retn, s_appop, s_setw, s_retw, s_sets, sq_nil, sq_cons, es_nil, es_cons, ec_nil, ec_cons, bind_ok, ofO_some, boolR_bl, fin_rt, fin_nx, seqR_nx, seqR_rt, negR_int, cmp2R_t, cmp2R_f, mkR_some, fldR_ins, propR_ins, retwR_lst, setsR_lst, lstAt, lcF, bindP, bindPs, List.getD_cons_zero, List.getD_cons_succ, List.set_cons_zero, List.set_cons_succ, Option.map_some, Option.bind_some, if_true, if_false, Bool.false_eq_true, cmpD, eq_str, eq_int, in_chr, len_lst, len_tup, add_int, sub_int, int_int, int_bl, abs_int, newAt, isNewD, deref, partD, Option.bind_none, Option.map_none, Bool.not_true, Bool.not_false, ite_true, ite_false, reduceIte, Bool.and_true, Bool.true_and]) rfl fun p hp => ?_]
    · unfold Cl.same; rw [List.map_map]; rfl
    · simp only [list_lst, list_tup, tuple_lst, tuple_tup, x_v, x_b, x_non, x_bl, x_int, x_str, x_g, x_tup, x_lst, x_dct, x_bin, x_neg, x_not, x_cmp, x_cmp2, x_and, x_or, x_ite, x_call, x_mk, x_fld, x_prop, x_idx, x_sli, x_bf, x_bm, x_isi, x_rpeq, x_tix, x_tin, x_tups, x_lsts, x_slen, x_sidx, s_set, s_seto, s_par, s_aug, s_app, s_ext, s_insr, s_seti, s_setf, s_mv, s_ex, s_ite, s_ret, s_retn, s_appop, s_setw, s_retw, s_sets, sq_nil, sq_cons, es_nil, es_cons, ec_nil, ec_cons, bind_ok, ofO_some, boolR_bl, fin_rt, fin_nx, seqR_nx, seqR_rt, negR_int, cmp2R_t, cmp2R_f, mkR_some, fldR_ins, propR_ins, retwR_lst, setsR_lst, lstAt, lcF, bindP, bindPs, List.getD_cons_zero, List.getD_cons_succ, List.set_cons_zero, List.set_cons_succ, Option.map_some, Option.bind_some, if_true, if_false, Bool.false_eq_true, cmpD, eq_str, eq_int, in_chr, len_lst, len_tup, add_int, sub_int, int_int, int_bl, abs_int, newAt, isNewD, deref, partD, Option.bind_none, Option.map_none, Bool.not_true, Bool.not_false, ite_true, ite_false, reduceIte, Bool.and_true, Bool.true_and, idx_fs]
      rw [idx_lst (cg.ps p hp).1 (y := .str (l.fs.getD p.toNat [])) (by rw [List.getElem?_map, getD_mem (cg.ps p hp)]; rfl)]
      simp only [list_lst, list_tup, tuple_lst, tuple_tup, x_v, x_b, x_non, x_bl, x_int, x_str, x_g, x_tup, x_lst, x_dct, x_bin, x_neg, x_not, x_cmp, x_cmp2, x_and, x_or, x_ite, x_call, x_mk, x_fld, x_prop, x_idx, x_sli, x_bf, x_bm, x_isi, x_rpeq, x_tix, x_tin, x_tups, x_lsts, x_slen, x_sidx, s_set, s_seto, s_par, s_aug, s_app, s_ext, s_insr, s_seti, s_setf, s_mv, s_ex, s_ite, s_ret, s_retn, s_appop, s_setw, s_retw, s_sets, sq_nil, sq_cons, es_nil, es_cons, ec_nil, ec_cons, bind_ok, ofO_some, boolR_bl, fin_rt, fin_nx, seqR_nx, seqR_rt, negR_int, cmp2R_t, cmp2R_f, mkR_some, fldR_ins, propR_ins, retwR_lst, setsR_lst, lstAt, lcF, bindP, bindPs, List.getD_cons_zero, List.getD_cons_succ, List.set_cons_zero, List.set_cons_succ, Option.map_some, Option.bind_some, if_true, if_false, Bool.false_eq_true, cmpD, eq_str, eq_int, in_chr, len_lst, len_tup, add_int, sub_int, int_int, int_bl, abs_int, newAt, isNewD, deref, partD, Option.bind_none, Option.map_none, Bool.not_true, Bool.not_false, ite_true, ite_false, reduceIte, Bool.and_true, Bool.true_and]
  have hpw : ev (TT ns) (CC ns n) (.ite (.cmp .is (.v 4) .non) .non (.tup [.idx (.idx (.v 0) (.str [107, 105, 110, 100, 115])) (.idx (.v 4) (.int 0)), .idx (.idx (.v 0) (.str [107, 105, 110, 100, 115])) (.idx (.v 4) (.int 1))])) [some l.d, some c.d, none, some (.tup (c.ps.map .int)), some c.pD, some c.wD, none] w = .ok (c.pW l) w := by
    unfold Cl.pD Cl.pW
    cases hp : c.pair with
    | none => simp only [list_lst, list_tup, tuple_lst, tuple_tup, x_v, x_b, x_non, x_bl, x_int, x_str, x_g, x_tup, x_lst, x_dct, x_bin, x_neg, x_not, x_cmp, x_cmp2, x_and, x_or, x_ite, x_call, x_mk, x_fld, x_prop, x_idx, x_sli, x_bf, x_bm, x_isi, x_rpeq, x_tix, x_tin, x_tups, x_lsts, x_slen, x_sidx, s_set, s_seto, s_par, s_aug, s_app, s_ext, s_insr, s_seti, s_setf, s_mv, s_ex, s_ite, s_ret, s_retn, s_appop, s_setw, s_retw, s_sets, sq_nil, sq_cons, es_nil, es_cons, ec_nil, ec_cons, bind_ok, ofO_some, boolR_bl, fin_rt, fin_nx, seqR_nx, seqR_rt, negR_int, cmp2R_t, cmp2R_f, mkR_some, fldR_ins, propR_ins, retwR_lst, setsR_lst, lstAt, lcF, bindP, bindPs, List.getD_cons_zero, List.getD_cons_succ, List.set_cons_zero, List.set_cons_succ, Option.map_some, Option.bind_some, if_true, if_false, Bool.false_eq_true, cmpD, eq_str, eq_int, in_chr, len_lst, len_tup, add_int, sub_int, int_int, int_bl, abs_int, newAt, isNewD, deref, partD, Option.bind_none, Option.map_none, Bool.not_true, Bool.not_false, ite_true, ite_false, reduceIte, Bool.and_true, Bool.true_and]
    | some q =>
      obtain ⟨a, b⟩ := q
      have h := cg.pair a b hp
      have i0 : idxD w (.tup [.int a, .int b]) (.int 0) = some (.int a) := rfl
      have i1 : idxD w (.tup [.int a, .int b]) (.int 1) = some (.int b) := rfl
      have ha : 0 ≤ a ∧ a < l.ks.length := ⟨h.1, by omega⟩
      have hb : 0 ≤ b ∧ b < l.ks.length := ⟨by omega, h.2.2⟩
      simp only [list_lst, list_tup, tuple_lst, tuple_tup, x_v, x_b, x_non, x_bl, x_int, x_str, x_g, x_tup, x_lst, x_dct, x_bin, x_neg, x_not, x_cmp, x_cmp2, x_and, x_or, x_ite, x_call, x_mk, x_fld, x_prop, x_idx, x_sli, x_bf, x_bm, x_isi, x_rpeq, x_tix, x_tin, x_tups, x_lsts, x_slen, x_sidx, s_set, s_seto, s_par, s_aug, s_app, s_ext, s_insr, s_seti, s_setf, s_mv, s_ex, s_ite, s_ret, s_retn, s_appop, s_setw, s_retw, s_sets, sq_nil, sq_cons, es_nil, es_cons, ec_nil, ec_cons, bind_ok, ofO_some, boolR_bl, fin_rt, fin_nx, seqR_nx, seqR_rt, negR_int, cmp2R_t, cmp2R_f, mkR_some, fldR_ins, propR_ins, retwR_lst, setsR_lst, lstAt, lcF, bindP, bindPs, List.getD_cons_zero, List.getD_cons_succ, List.set_cons_zero, List.set_cons_succ, Option.map_some, Option.bind_some, if_true, if_false, Bool.false_eq_true, cmpD, eq_str, eq_int, in_chr, len_lst, len_tup, add_int, sub_int, int_int, int_bl, abs_int, newAt, isNewD, deref, partD, Option.bind_none, Option.map_none, Bool.not_true, Bool.not_false, ite_true, ite_false, reduceIte, Bool.and_true, Bool.true_and, i0, i1, idx_ks]
      rw [idx_lst ha.1 (y := .str (l.ks.getD a.toNat [])) (by rw [List.getElem?_map, getD_mem ha]; rfl)]
      simp only [list_lst, list_tup, tuple_lst, tuple_tup, x_v, x_b, x_non, x_bl, x_int, x_str, x_g, x_tup, x_lst, x_dct, x_bin, x_neg, x_not, x_cmp, x_cmp2, x_and, x_or, x_ite, x_call, x_mk, x_fld, x_prop, x_idx, x_sli, x_bf, x_bm, x_isi, x_rpeq, x_tix, x_tin, x_tups, x_lsts, x_slen, x_sidx, s_set, s_seto, s_par, s_aug, s_app, s_ext, s_insr, s_seti, s_setf, s_mv, s_ex, s_ite, s_ret, s_retn, s_appop, s_setw, s_retw, s_sets, sq_nil, sq_cons, es_nil, es_cons, ec_nil, ec_cons, bind_ok, ofO_some, boolR_bl, fin_rt, fin_nx, seqR_nx, seqR_rt, negR_int, cmp2R_t, cmp2R_f, mkR_some, fldR_ins, propR_ins, retwR_lst, setsR_lst, lstAt, lcF, bindP, bindPs, List.getD_cons_zero, List.getD_cons_succ, List.set_cons_zero, List.set_cons_succ, Option.map_some, Option.bind_some, if_true, if_false, Bool.false_eq_true, cmpD, eq_str, eq_int, in_chr, len_lst, len_tup, add_int, sub_int, int_int, int_bl, abs_int, newAt, isNewD, deref, partD, Option.bind_none, Option.map_none, Bool.not_true, Bool.not_false, ite_true, ite_false, reduceIte, Bool.and_true, Bool.true_and, i1]
      rw [idx_lst hb.1 (y := .str (l.ks.getD b.toNat [])) (by rw [List.getElem?_map, getD_mem hb]; rfl)]
      simp only [list_lst, list_tup, tuple_lst, tuple_tup, x_v, x_b, x_non, x_bl, x_int, x_str, x_g, x_tup, x_lst, x_dct, x_bin, x_neg, x_not, x_cmp, x_cmp2, x_and, x_or, x_ite, x_call, x_mk, x_fld, x_prop, x_idx, x_sli, x_bf, x_bm, x_isi, x_rpeq, x_tix, x_tin, x_tups, x_lsts, x_slen, x_sidx, s_set, s_seto, s_par, s_aug, s_app, s_ext, s_insr, s_seti, s_setf, s_mv, s_ex, s_ite, s_ret, s_retn, s_appop, s_setw, s_retw, s_sets, sq_nil, sq_cons, es_nil, es_cons, ec_nil, ec_cons, bind_ok, ofO_some, boolR_bl, fin_rt, fin_nx, seqR_nx, seqR_rt, negR_int, cmp2R_t, cmp2R_f, mkR_some, fldR_ins, propR_ins, retwR_lst, setsR_lst, lstAt, lcF, bindP, bindPs, List.getD_cons_zero, List.getD_cons_succ, List.set_cons_zero, List.set_cons_succ, Option.map_some, Option.bind_some, if_true, if_false, Bool.false_eq_true, cmpD, eq_str, eq_int, in_chr, len_lst, len_tup, add_int, sub_int, int_int, int_bl, abs_int, newAt, isNewD, deref, partD, Option.bind_none, Option.map_none, Bool.not_true, Bool.not_false, ite_true, ite_false, reduceIte, Bool.and_true, Bool.true_and]
  rw [sq_cons, show evS (TT ns) (CC ns n) (.set (.t [.n 3, .n 4, .n 5]) (.v 1)) [some l.d, some c.d, none, none, none, none, none] w = .ok (.nx [some l.d, some c.d, none, some (.tup (c.ps.map .int)), some c.pD, some c.wD, none]) w by
    unfold Cl.d; simp only [list_lst, list_tup, tuple_lst, tuple_tup, x_v, x_b, x_non, x_bl, x_int, x_str, x_g, x_tup, x_lst, x_dct, x_bin, x_neg, x_not, x_cmp, x_cmp2, x_and, x_or, x_ite, x_call, x_mk, x_fld, x_prop, x_idx, x_sli, x_bf, x_bm, x_isi, x_rpeq, x_tix, x_tin, x_tups, x_lsts, x_slen, x_sidx, s_set, s_seto, s_par, s_aug, s_app, s_ext, s_insr, s_seti, s_setf, s_mv, s_ex, s_ite, s_ret, s_retn, s_appop, s_setw, s_retw, s_sets, sq_nil, sq_cons, es_nil, es_cons, ec_nil, ec_cons, bind_ok, ofO_some, boolR_bl, fin_rt, fin_nx, seqR_nx, seqR_rt, negR_int, cmp2R_t, cmp2R_f, mkR_some, fldR_ins, propR_ins, retwR_lst, setsR_lst, lstAt, lcF, bindP, bindPs, List.getD_cons_zero, List.getD_cons_succ, List.set_cons_zero, List.set_cons_succ, Option.map_some, Option.bind_some, if_true, if_false, Bool.false_eq_true, cmpD, eq_str, eq_int, in_chr, len_lst, len_tup, add_int, sub_int, int_int, int_bl, abs_int, newAt, isNewD, deref, partD, Option.bind_none, Option.map_none, Bool.not_true, Bool.not_false, ite_true, ite_false, reduceIte, Bool.and_true, Bool.true_and]]
  simp only [list_lst, list_tup, tuple_lst, tuple_tup, x_v, x_b, x_non, x_bl, x_int, x_str, x_g, x_tup, x_lst, x_dct, x_bin, x_neg, x_not, x_cmp, x_cmp2, x_and, x_or, x_ite, x_call, x_mk, x_fld, x_prop, x_idx, x_sli, x_bf, x_bm, x_isi, x_rpeq, x_tix, x_tin, x_tups, x_lsts, x_slen, x_sidx, s_set, s_seto, s_par, s_aug, s_app, s_ext, s_insr, s_seti, s_setf, s_mv, s_ex, s_ite, s_ret, s_retn, s_appop, s_setw, s_retw, s_sets, sq_nil, sq_cons, es_nil, es_cons, ec_nil, ec_cons, bind_ok, ofO_some, boolR_bl, fin_rt, fin_nx, seqR_nx, seqR_rt, negR_int, cmp2R_t, cmp2R_f, mkR_some, fldR_ins, propR_ins, retwR_lst, setsR_lst, lstAt, lcF, bindP, bindPs, List.getD_cons_zero, List.getD_cons_succ, List.set_cons_zero, List.set_cons_succ, Option.map_some, Option.bind_some, if_true, if_false, Bool.false_eq_true, cmpD, eq_str, eq_int, in_chr, len_lst, len_tup, add_int, sub_int, int_int, int_bl, abs_int, newAt, isNewD, deref, partD, Option.bind_none, Option.map_none, Bool.not_true, Bool.not_false, ite_true, ite_false, reduceIte, Bool.and_true, Bool.true_and, hpw, hlc, Cl.told]
theorem e_odd {i N : Nat} (h : Pot i N w) (hN : N < 1125899906842624) : Ok (CC ns (n + 3) F_law_odd [.obj i] w) fun r w' => isiD (TT ns).nc r (.cls 1) = some false ∧ Pot i (N + 1) w' := by
  rw [st_law_odd, c_law_odd]
  have p8 : binD .pow (.int 10) (.int 8) = some (.int (10 ^ Int.toNat 8)) := pow_int ⟨by decide, by decide, Nat.lt_of_lt_of_le (show Int.natAbs 10 < 2 ^ 5 by decide) (Nat.pow_le_pow_right (by decide) (by decide))⟩
  simp only [list_lst, list_tup, tuple_lst, tuple_tup, x_v, x_b, x_non, x_bl, x_int, x_str, x_g, x_tup, x_lst, x_dct, x_bin, x_neg, x_not, x_cmp, x_cmp2, x_and, x_or, x_ite, x_call, x_mk, x_fld, x_prop, x_idx, x_sli, x_bf, x_bm, x_isi, x_rpeq, x_tix, x_tin, x_tups, x_lsts, x_slen, x_sidx, s_set, s_seto, s_par, s_aug, s_app, s_ext, s_insr, s_seti, s_setf, s_mv, s_ex, s_ite, s_ret, s_retn, s_appop, s_setw, s_retw, s_sets, sq_nil, sq_cons, es_nil, es_cons, ec_nil, ec_cons, bind_ok, ofO_some, boolR_bl, seqR_nx, seqR_rt, negR_int, cmp2R_t, cmp2R_f, mkR_some, fldR_ins, propR_ins, retwR_lst, setsR_lst, lstAt, lcF, bindP, bindPs, List.getD_cons_zero, List.getD_cons_succ, List.set_cons_zero, List.set_cons_succ, Option.map_some, Option.bind_some, if_true, if_false, Bool.false_eq_true, cmpD, eq_str, eq_int, in_chr, len_lst, len_tup, add_int, sub_int, int_int, int_bl, abs_int, newAt, isNewD, deref, partD, Option.bind_none, Option.map_none, Bool.not_true, Bool.not_false, ite_true, ite_false, reduceIte, Bool.and_true, Bool.true_and, fin_eq, ok_bind, ok_ok, finK_rt, finK_nx, p8]
  refine (e_of h (List.cons_ne_nil _ _) (by show 18 < _; decide) hN).mono ?_
  rintro r w1 ⟨hr, p⟩
  refine ⟨?_, p⟩
  simp only [List.mem_cons, List.not_mem_nil, or_false] at hr
  rcases hr with rfl | rfl | rfl | rfl | rfl | rfl | rfl | rfl | rfl | rfl | rfl | rfl | rfl | rfl | rfl | rfl | rfl | rfl <;> rfl
end
end MP.K01

set_option Elab.async false
set_option linter.all false
set_option maxRecDepth 100000
namespace MP.K01
open MP.C
section
variable {ns : List Int} {n : Nat} {w : Wd}
/-! repr -/
theorem rpBs_le {B : Nat} : ∀ {ds : List D}, (∀ d ∈ ds, ∃ b, rpB d = some b ∧ b ≤ B) → ∃ s, rpBs ds = some s ∧ s ≤ ds.length * (B + 2)
  | [], _ => ⟨0, rfl, Nat.zero_le _⟩
  | d :: ds, h => by
    obtain ⟨b, hb, hb2⟩ := h d List.mem_cons_self
    obtain ⟨s, hs, hs2⟩ := rpBs_le fun x hx => h x (List.mem_cons_of_mem d hx)
    refine ⟨b + s + 2, ?_, ?_⟩
    · show (match rpB d, rpBs ds with
        | some a, some b => some (a + b + 2)
        | _, _ => none) = _
      rw [hb, hs]
    · rw [List.length_cons, Nat.succ_mul]; omega
mutual
theorem same_self : ∀ (k : Nat) (d : D), plN k d = true → same d d = true
  | _, .non, _ => rfl
  | _, .bl b, _ => by show (b == b) = true; exact beq_self_eq_true b
  | _, .int i, _ => by show decide (i = i) = true; exact decide_eq_true rfl
  | _, .str s, _ => by show decide (s = s) = true; exact decide_eq_true rfl
  | k + 1, .tup xs, h => by
    show sames xs xs = true
    exact sames_self k xs h
  | k + 1, .lst xs, h => by
    show sames xs xs = true
    exact sames_self k xs h
  | 0, .tup xs, h => by cases h
  | 0, .lst xs, h => by cases h
  | 0, .dct _ _, h => by cases h
  | k + 1, .dct _ _, h => by cases h
  | 0, .ins _ _, h => by cases h
  | k + 1, .ins _ _, h => by cases h
  | 0, .obj _, h => by cases h
  | k + 1, .obj _, h => by cases h
  | 0, .ext _, h => by cases h
  | k + 1, .ext _, h => by cases h
theorem sames_self : ∀ (k : Nat) (ds : List D), ds.all (plN k) = true → sames ds ds = true
  | _, [], _ => rfl
  | k, d :: ds, h => by
    simp only [List.all_cons, Bool.and_eq_true] at h
    show (same d d && sames ds ds) = true
    rw [same_self k d h.1, sames_self k ds h.2]; rfl
end
theorem rpeq_self {neg : Bool} {d : D} {b : Nat} (h1 : rpB d = some b) (h2 : b ≤ 16777216) (h3 : plN 12 d = true) : rpeqD neg d d = some (.bl (!neg)) := by
  show (match rpB d with
    | some n => if n ≤ bigN ∧ plN 12 d = true ∧ same d d = true then some (D.bl (!neg)) else none
    | none => none) = _
  rw [h1]
  exact if_pos ⟨h2, h3, same_self 12 d h3⟩
theorem rp_str {s : List Nat} : rpB (.str s) = some (10 * s.length + 2) := rfl
theorem rp_tup {B m : Nat} {ds : List D} (h : ∀ d ∈ ds, ∃ b, rpB d = some b ∧ b ≤ B) (hl : ds.length ≤ m) : ∃ b, rpB (.tup ds) = some b ∧ b ≤ m * (B + 2) + 3 := by
  obtain ⟨s, hs, hs2⟩ := rpBs_le h
  refine ⟨s + 3, by show (rpBs ds).map _ = _; rw [hs]; rfl, ?_⟩
  have := Nat.mul_le_mul hl (Nat.le_refl (B + 2))
  omega
theorem rp_word {x : List Nat} (h : Nm x = true) : ∃ b, rpB (.str x) = some b ∧ b ≤ 82 := ⟨_, rp_str, by have := Nm.len h; omega⟩
theorem rp_int {i : Int} (h : i.natAbs < 100000) : ∃ b, rpB (.int i) = some b ∧ b ≤ 600 := by
  have k : i.natAbs < 2 ^ 1900 := Nat.lt_of_lt_of_le h (Nat.le_trans (show 100000 ≤ 2 ^ 17 by decide) (Nat.pow_le_pow_right (by decide) (by decide)))
  refine ⟨600, ?_, Nat.le_refl _⟩
  unfold rpB
  exact if_pos k
theorem rp_non : ∃ b, rpB .non = some b ∧ b ≤ 600 := ⟨4, rfl, by decide⟩
theorem rp_words {ss : List (List Nat)} (h : ∀ x ∈ ss, x ∈ W12) (hl : ss.length ≤ 3) : ∃ b, rpB (.tup (ss.map .str)) = some b ∧ b ≤ 600 := by
  obtain ⟨b, h1, h2⟩ := rp_tup (B := 82) (m := 3) (ds := ss.map D.str) (fun d hd => by
    obtain ⟨x, hx, rfl⟩ := List.mem_map.mp hd
    exact rp_word (w12_name x (h x hx)).1) (by rw [List.length_map]; exact hl)
  exact ⟨b, h1, by omega⟩
theorem rp_told {l : Lo} (g : l.Good) {c : Cl} (cg : c.Good l.fs.length l.ks.length) : ∃ b, rpB (c.told l) = some b ∧ b ≤ 2000 := by
  have hlen := asc_len (f := l.fs.length) (lo := 0) cg.up cg.ps
  have f3 := g.f3
  obtain ⟨b, h1, h2⟩ := rp_tup (B := 600) (m := 3) (ds := [.tup ((c.same l).map .str), c.pW l, c.wD]) (fun d hd => by
    simp only [List.mem_cons, List.not_mem_nil, or_false] at hd
    rcases hd with rfl | rfl | rfl
    · refine rp_words (fun x hx => ?_) (by unfold Cl.same; rw [List.length_map]; omega)
      obtain ⟨p, hp, rfl⟩ := List.mem_map.mp hx
      exact g.fw _ (mem_getD (cg.ps p hp))
    · unfold Cl.pW
      cases hp : c.pair with
      | none => exact rp_non
      | some q =>
        obtain ⟨a, b⟩ := q
        have h := cg.pair a b hp
        refine rp_words (ss := [l.ks.getD a.toNat [], l.ks.getD b.toNat []]) (fun x hx => ?_) (show 2 ≤ 3 by decide)
        simp only [List.mem_cons, List.not_mem_nil, or_false] at hx
        rcases hx with rfl | rfl
        · exact g.kw _ (mem_getD ⟨h.1, by omega⟩)
        · exact g.kw _ (mem_getD ⟨by omega, h.2.2⟩)
    · unfold Cl.wD
      cases hv : c.win with
      | none => exact rp_non
      | some v =>
        have := cg.win v hv
        exact rp_int (by omega)) (Nat.le_refl 3)
  exact ⟨b, h1, by omega⟩
theorem pl_strs {k : Nat} {ss : List (List Nat)} : plN (k + 1) (.tup (ss.map .str)) = true := by
  show (ss.map D.str).all (plN k) = true
  rw [List.all_map, List.all_eq_true]
  intro x _
  cases k <;> rfl
theorem pl_told {l : Lo} {c : Cl} : plN 10 (c.told l) = true := by
  show ([D.tup ((c.same l).map .str), c.pW l, c.wD].all (plN 9)) = true
  simp only [List.all_cons, List.all_nil, Bool.and_true, Bool.and_eq_true]
  refine ⟨pl_strs, ?_, ?_⟩
  · unfold Cl.pW
    cases c.pair with
    | none => rfl
    | some q => rfl
  · unfold Cl.wD
    cases c.win <;> rfl
def Lo.due (l : Lo) : D := .tup [.str l.text, .tup (l.fs.map .str), .tup (l.ks.map .str), .tup (l.cs.map (Cl.told l)), .int ((l.cs.map (Cl.told l)).length : Nat)]
theorem rp_due {l : Lo} (g : l.Good) : rpeqD true l.due l.due = some (.bl false) := by
  have tl := l.text_len g
  have c4 := g.c4
  obtain ⟨b, h1, h2⟩ := rp_tup (B := 14000) (m := 5) (ds := [.str l.text, .tup (l.fs.map .str), .tup (l.ks.map .str), .tup (l.cs.map (Cl.told l)), .int ((l.cs.map (Cl.told l)).length : Nat)]) (fun d hd => by
    simp only [List.mem_cons, List.not_mem_nil, or_false] at hd
    rcases hd with rfl | rfl | rfl | rfl | rfl
    · exact ⟨_, rp_str, by omega⟩
    · obtain ⟨b, h1, h2⟩ := rp_words g.fw g.f3
      exact ⟨b, h1, by omega⟩
    · obtain ⟨b, h1, h2⟩ := rp_words g.kw g.k3
      exact ⟨b, h1, by omega⟩
    · obtain ⟨b, h1, h2⟩ := rp_tup (B := 2000) (m := 4) (ds := l.cs.map (Cl.told l)) (fun d hd => by
        obtain ⟨c, hc, rfl⟩ := List.mem_map.mp hd
        exact rp_told g (g.cg c hc)) (by rw [List.length_map]; exact c4)
      exact ⟨b, h1, by omega⟩
    · obtain ⟨b, h1, h2⟩ := rp_int (i := ((l.cs.map (Cl.told l)).length : Nat)) (by rw [List.length_map]; omega)
      exact ⟨b, h1, by omega⟩) (Nat.le_refl 5)
  refine rpeq_self (neg := true) h1 (by omega) ?_
  show ([D.str l.text, .tup (l.fs.map .str), .tup (l.ks.map .str), .tup (l.cs.map (Cl.told l)), .int ((l.cs.map (Cl.told l)).length : Nat)].all (plN 11)) = true
  simp only [List.all_cons, List.all_nil, Bool.and_true, Bool.and_eq_true]
  refine ⟨rfl, pl_strs, pl_strs, ?_, rfl⟩
  show (l.cs.map (Cl.told l)).all (plN 10) = true
  rw [List.all_map, List.all_eq_true]
  exact fun c _ => pl_told
end
end MP.K01

set_option Elab.async false
set_option linter.all false
set_option maxRecDepth 100000
namespace MP.K01
open MP.C
section
variable {ns : List Int} {n : Nat} {w : Wd}
theorem len_nat {k : Nat} (h : k < 100) : lenR (.int (k : Int)) w = .ok (.int (k : Int)) w := by
  have hbig : bigN = 16777216 := rfl
  unfold lenR
  exact if_pos ⟨by omega, by omega⟩
theorem meqR_ins {T : Tb} {C : CallF} {m c f : Nat} {fs : List D} {b : D} {r : Bool} (h : isiD T.nc b (.cls c) = some r) (hm : T.mth m c = some f) : meqR T C m (.ins c fs) b w = C f [.ins c fs, b] w := by
  unfold meqR callI
  simp only [h, hm, Option.isSome_some, if_true]
theorem mlen_ok {T : Tb} {C : CallF} {ρ : En} {m c f k : Nat} {x : CE} {fs : List D} (h1 : ev T C x ρ w = .ok (.ins c fs) w) (hm : T.mth m c = some f) (hc : C f [.ins c fs] w = .ok (.int (k : Int)) w) (hk : k < 100) : ev T C (.mlen m x) ρ w = .ok (.int (k : Int)) w := by
  have e : callI T C m (.ins c fs) [] w = .ok (.int (k : Int)) w := by
    unfold callI
    simp only [hm]
    exact hc
  rw [x_mlen, h1, bind_ok, e, bind_ok, len_nat hk]
theorem rp_stage {l : Lo} (g : l.Good) {a b c d e : Option D} : ev (TT ns) (CC ns (n + 5)) (.rpeq true (.tup [.prop (.v 6) 0, .prop (.v 6) 1, .prop (.v 6) 2, .prop (.v 6) 3, .mlen 3 (.v 6)]) (.v 3)) [a, b, c, some l.due, d, e, some l.rule, none] w = .ok (.bl false) w := by
  have c4 := g.c4
  have hml : ev (TT ns) (CC ns (n + 5)) (.mlen 3 (.v 6)) [a, b, c, some l.due, d, e, some l.rule, none] w = .ok (.int ((l.cs.map (Cl.told l)).length : Nat)) w := by
    rw [List.length_map]
    refine mlen_ok rfl mtl ?_ (by omega)
    have := e_rlen (ns := ns) (n := n + 4) (w := w) (a := .str l.text) (b := .tup (l.fs.map .str)) (c := .tup (l.ks.map .str)) (xs := l.cs.map (Cl.ins l))
    rw [List.length_map] at this
    exact this
  have hp : evs (TT ns) (CC ns (n + 5)) [.prop (.v 6) 0, .prop (.v 6) 1, .prop (.v 6) 2, .prop (.v 6) 3, .mlen 3 (.v 6)] [a, b, c, some l.due, d, e, some l.rule, none] w = .ok [.str l.text, .tup (l.fs.map .str), .tup (l.ks.map .str), .tup (l.cs.map (Cl.told l)), .int ((l.cs.map (Cl.told l)).length : Nat)] w := by
    unfold Lo.rule at hml ⊢
    simp only [list_lst, list_tup, tuple_lst, tuple_tup, x_v, x_b, x_non, x_bl, x_int, x_str, x_g, x_tup, x_lst, x_dct, x_bin, x_neg, x_not, x_cmp, x_cmp2, x_and, x_or, x_ite, x_call, x_mk, x_fld, x_prop, x_idx, x_sli, x_bf, x_bm, x_isi, x_rpeq, x_tix, x_tin, x_tups, x_lsts, x_slen, x_sidx, s_set, s_seto, s_par, s_aug, s_app, s_ext, s_insr, s_seti, s_setf, s_mv, s_ex, s_ite, s_ret, s_retn, s_appop, s_setw, s_retw, s_sets, sq_nil, sq_cons, es_nil, es_cons, ec_nil, ec_cons, bind_ok, ofO_some, boolR_bl, fin_rt, fin_nx, seqR_nx, seqR_rt, negR_int, cmp2R_t, cmp2R_f, mkR_some, fldR_ins, propR_ins, retwR_lst, setsR_lst, lstAt, lcF, bindP, bindPs, List.getD_cons_zero, List.getD_cons_succ, List.set_cons_zero, List.set_cons_succ, Option.map_some, Option.bind_some, if_true, if_false, Bool.false_eq_true, cmpD, eq_str, eq_int, in_chr, len_lst, len_tup, add_int, sub_int, int_int, int_bl, abs_int, newAt, isNewD, deref, partD, Option.bind_none, Option.map_none, Bool.not_true, Bool.not_false, ite_true, ite_false, reduceIte, Bool.and_true, Bool.true_and, pr0, pr1, pr2, pr3, e_ptext, e_pfields, e_pkinds, e_clauses, hml]
  have hd := rp_due g
  rw [x_rpeq, x_tup, hp, bind_ok, bind_ok, x_v]
  show (ofO (some l.due) w).bind (fun c w => ofO (rpeqD true l.due c) w) = _
  rw [ofO_some, bind_ok, hd, ofO_some]
theorem e_right {i N : Nat} (h : Pot i N w) (hN : N + 100000 < 1125899906842624) : Ok (CC ns (n + 6) F_law_right [.obj i] w) fun r w' => r = .bl true ∧ Pot i (N + 1000) w' := by
  rw [st_law_right, c_law_right]
  simp only [list_lst, list_tup, tuple_lst, tuple_tup, x_v, x_b, x_non, x_bl, x_int, x_str, x_g, x_tup, x_lst, x_dct, x_bin, x_neg, x_not, x_cmp, x_cmp2, x_and, x_or, x_ite, x_call, x_mk, x_fld, x_prop, x_idx, x_sli, x_bf, x_bm, x_isi, x_tix, x_tin, x_tups, x_lsts, x_slen, x_sidx, s_set, s_seto, s_par, s_aug, s_app, s_ext, s_insr, s_seti, s_setf, s_mv, s_ex, s_ite, s_ret, s_retn, s_appop, s_setw, s_retw, s_sets, sq_nil, sq_cons, es_nil, es_cons, ec_nil, ec_cons, bind_ok, ofO_some, boolR_bl, seqR_nx, seqR_rt, negR_int, cmp2R_t, cmp2R_f, mkR_some, fldR_ins, propR_ins, retwR_lst, setsR_lst, lstAt, lcF, bindP, bindPs, List.getD_cons_zero, List.getD_cons_succ, List.set_cons_zero, List.set_cons_succ, Option.map_some, Option.bind_some, if_true, if_false, Bool.false_eq_true, cmpD, eq_str, eq_int, in_chr, len_lst, len_tup, add_int, sub_int, int_int, int_bl, abs_int, newAt, isNewD, deref, partD, Option.bind_none, Option.map_none, Bool.not_true, Bool.not_false, ite_true, ite_false, reduceIte, Bool.and_true, Bool.true_and, fin_eq, ok_bind, ok_ok, finK_rt, finK_nx]
  refine (e_lore (n := n + 1) h (by decide) (by decide) (by decide) (by decide) (by decide) (by decide) (by omega)).mono ?_
  rintro _ w1 ⟨⟨l, rfl, g⟩, p⟩
  have gi1 : (TT ns).ini 1 = some F_Rule_init := rfl
  have nc1 : ∀ fs, isiD (TT ns).nc (.ins 1 fs) (.cls 1) = some true := fun _ => rfl
  have nc2 : ∀ s, isiD (TT ns).nc (.str s) (.cls 1) = some false := fun _ => rfl
  have nc3 : ∀ s, isiD (TT ns).nc (.tup s) (.cls 1) = some false := fun _ => rfl
  simp only [list_lst, list_tup, tuple_lst, tuple_tup, x_v, x_b, x_non, x_bl, x_int, x_str, x_g, x_tup, x_lst, x_dct, x_bin, x_neg, x_not, x_cmp, x_cmp2, x_and, x_or, x_ite, x_call, x_mk, x_fld, x_prop, x_idx, x_sli, x_bf, x_bm, x_isi, x_tix, x_tin, x_tups, x_lsts, x_slen, x_sidx, s_set, s_seto, s_par, s_aug, s_app, s_ext, s_insr, s_seti, s_setf, s_mv, s_ex, s_ite, s_ret, s_retn, s_appop, s_setw, s_retw, s_sets, sq_nil, sq_cons, es_nil, es_cons, ec_nil, ec_cons, bind_ok, ofO_some, boolR_bl, seqR_nx, seqR_rt, negR_int, cmp2R_t, cmp2R_f, mkR_some, fldR_ins, propR_ins, retwR_lst, setsR_lst, lstAt, lcF, bindP, bindPs, List.getD_cons_zero, List.getD_cons_succ, List.set_cons_zero, List.set_cons_succ, Option.map_some, Option.bind_some, if_true, if_false, Bool.false_eq_true, cmpD, eq_str, eq_int, in_chr, len_lst, len_tup, add_int, sub_int, int_int, int_bl, abs_int, newAt, isNewD, deref, partD, Option.bind_none, Option.map_none, Bool.not_true, Bool.not_false, ite_true, ite_false, reduceIte, Bool.and_true, Bool.true_and, fin_eq, ok_bind, ok_ok, finK_rt, finK_nx, e_text g, gi1, e_rule g]
  have hlc : ∀ ρ : En, ρ.getD 1 none = some l.d → ρ.length = 8 → ev (TT ns) (CC ns (n + 5)) (.lc (.n 7) (.idx (.v 1) (.str [99, 108, 97, 117, 115, 101, 115])) [] (.call 30 [.v 1, .v 7])) ρ w1 = .ok (.lst (l.cs.map (Cl.told l))) w1 := fun ρ hρ hl => by
    obtain ⟨a, b, c, d, e, f, g', h', rfl⟩ : ∃ a b c d e f g h, ρ = [a, b, c, d, e, f, g, h] := by
      match ρ, hl with
      | [a, b, c, d, e, f, g, h], _ => exact ⟨a, b, c, d, e, f, g, h, rfl⟩
    have hb : b = some l.d := hρ
    subst hb
    rw [lc_map (xs := .lst (l.cs.map Cl.d)) l.cs Cl.d (Cl.told l) (by simp only [list_lst, list_tup, tuple_lst, tuple_tup, x_v, x_b, x_non, x_bl, x_int, x_str, x_g, x_tup, x_lst, x_dct, x_bin, x_neg, x_not, x_cmp, x_cmp2, x_and, x_or, x_ite, x_call, x_mk, x_fld, x_prop, x_idx, x_sli, x_bf, x_bm, x_isi, x_rpeq, x_tix, x_tin, x_tups, x_lsts, x_slen, x_sidx, s_set, s_seto, s_par, s_aug, s_app, s_ext, s_insr, s_seti, s_setf, s_mv, s_ex, s_ite, s_ret, s_retn, s_appop, s_setw, s_retw, s_sets, sq_nil, sq_cons, es_nil, es_cons, ec_nil, ec_cons, bind_ok, ofO_some, boolR_bl, fin_rt, fin_nx, seqR_nx, seqR_rt, negR_int, cmp2R_t, cmp2R_f, mkR_some, fldR_ins, propR_ins, retwR_lst, setsR_lst, lstAt, lcF, bindP, bindPs, List.getD_cons_zero, List.getD_cons_succ, List.set_cons_zero, List.set_cons_succ, Option.map_some, Option.bind_some, if_true, if_false, Bool.false_eq_true, cmpD, eq_str, eq_int, in_chr, len_lst, len_tup, add_int, sub_int, int_int, int_bl, abs_int, newAt, isNewD, deref, partD, Option.bind_none, Option.map_none, Bool.not_true, Bool.not_false, ite_true, ite_false, reduceIte, Bool.and_true, Bool.true_and, idx_cs]) rfl fun c hc => ?_]
    simp only [list_lst, list_tup, tuple_lst, tuple_tup, x_v, x_b, x_non, x_bl, x_int, x_str, x_g, x_tup, x_lst, x_dct, x_bin, x_neg, x_not, x_cmp, x_cmp2, x_and, x_or, x_ite, x_call, x_mk, x_fld, x_prop, x_idx, x_sli, x_bf, x_bm, x_isi, x_rpeq, x_tix, x_tin, x_tups, x_lsts, x_slen, x_sidx, s_set, s_seto, s_par, s_aug, s_app, s_ext, s_insr, s_seti, s_setf, s_mv, s_ex, s_ite, s_ret, s_retn, s_appop, s_setw, s_retw, s_sets, sq_nil, sq_cons, es_nil, es_cons, ec_nil, ec_cons, bind_ok, ofO_some, boolR_bl, fin_rt, fin_nx, seqR_nx, seqR_rt, negR_int, cmp2R_t, cmp2R_f, mkR_some, fldR_ins, propR_ins, retwR_lst, setsR_lst, lstAt, lcF, bindP, bindPs, List.getD_cons_zero, List.getD_cons_succ, List.set_cons_zero, List.set_cons_succ, Option.map_some, Option.bind_some, if_true, if_false, Bool.false_eq_true, cmpD, eq_str, eq_int, in_chr, len_lst, len_tup, add_int, sub_int, int_int, int_bl, abs_int, newAt, isNewD, deref, partD, Option.bind_none, Option.map_none, Bool.not_true, Bool.not_false, ite_true, ite_false, reduceIte, Bool.and_true, Bool.true_and, e_told g (g.cg c hc)]
  rw [hlc _ rfl rfl]
  have nb1 : ∀ b : Bool, (b != false) = b := by decide
  have nb2 : ∀ b : Bool, (b != true) = !b := by decide
  simp only [list_lst, list_tup, tuple_lst, tuple_tup, x_v, x_b, x_non, x_bl, x_int, x_str, x_g, x_tup, x_lst, x_dct, x_bin, x_neg, x_not, x_cmp, x_cmp2, x_and, x_or, x_ite, x_call, x_mk, x_fld, x_prop, x_idx, x_sli, x_bf, x_bm, x_isi, x_tix, x_tin, x_tups, x_lsts, x_slen, x_sidx, s_set, s_seto, s_par, s_aug, s_app, s_ext, s_insr, s_seti, s_setf, s_mv, s_ex, s_ite, s_ret, s_retn, s_appop, s_setw, s_retw, s_sets, sq_nil, sq_cons, es_nil, es_cons, ec_nil, ec_cons, bind_ok, ofO_some, boolR_bl, seqR_nx, seqR_rt, negR_int, cmp2R_t, cmp2R_f, mkR_some, fldR_ins, propR_ins, retwR_lst, setsR_lst, lstAt, lcF, bindP, bindPs, List.getD_cons_zero, List.getD_cons_succ, List.set_cons_zero, List.set_cons_succ, Option.map_some, Option.bind_some, if_true, if_false, Bool.false_eq_true, cmpD, eq_str, eq_int, in_chr, len_lst, len_tup, add_int, sub_int, int_int, int_bl, abs_int, newAt, isNewD, deref, partD, Option.bind_none, Option.map_none, Bool.not_true, Bool.not_false, ite_true, ite_false, reduceIte, Bool.and_true, Bool.true_and, fin_eq, ok_bind, ok_ok, finK_rt, finK_nx, idx_fs, idx_ks]
  rw [show D.tup [D.str l.text, .tup (l.fs.map .str), .tup (l.ks.map .str), .tup (l.cs.map (Cl.told l)), .int ((l.cs.map (Cl.told l)).length : Nat)] = l.due from rfl, rp_stage g]
  simp only [list_lst, list_tup, tuple_lst, tuple_tup, x_v, x_b, x_non, x_bl, x_int, x_str, x_g, x_tup, x_lst, x_dct, x_bin, x_neg, x_not, x_cmp, x_cmp2, x_and, x_or, x_ite, x_call, x_mk, x_fld, x_prop, x_idx, x_sli, x_bf, x_bm, x_isi, x_tix, x_tin, x_tups, x_lsts, x_slen, x_sidx, s_set, s_seto, s_par, s_aug, s_app, s_ext, s_insr, s_seti, s_setf, s_mv, s_ex, s_ite, s_ret, s_retn, s_appop, s_setw, s_retw, s_sets, sq_nil, sq_cons, es_nil, es_cons, ec_nil, ec_cons, bind_ok, ofO_some, boolR_bl, seqR_nx, seqR_rt, negR_int, cmp2R_t, cmp2R_f, mkR_some, fldR_ins, propR_ins, retwR_lst, setsR_lst, lstAt, lcF, bindP, bindPs, List.getD_cons_zero, List.getD_cons_succ, List.set_cons_zero, List.set_cons_succ, Option.map_some, Option.bind_some, if_true, if_false, Bool.false_eq_true, cmpD, eq_str, eq_int, in_chr, len_lst, len_tup, add_int, sub_int, int_int, int_bl, abs_int, newAt, isNewD, deref, partD, Option.bind_none, Option.map_none, Bool.not_true, Bool.not_false, ite_true, ite_false, reduceIte, Bool.and_true, Bool.true_and, fin_eq, ok_bind, ok_ok, finK_rt, finK_nx]
  refine (e_lore (n := n + 1) p (by decide) (by decide) (by decide) (by decide) (by decide) (by decide) (by omega)).mono ?_
  rintro _ w2 ⟨⟨l2, rfl, g2⟩, p2⟩
  have q1 := fun w => e_rule (ns := ns) (n := n) (w := w) g
  have q2 := fun w => e_rule (ns := ns) (n := n) (w := w) g2
  have r0 : l.rule = .ins 1 [.str l.text, .tup (l.fs.map .str), .tup (l.ks.map .str), .tup (l.cs.map (Cl.ins l))] := rfl
  rw [r0]
  rw [r0] at q1
  unfold Lo.rule at q2
  have eqb : ∀ a b : Bool, eqD (.bl a) (.bl b) = some (a == b) := fun _ _ => rfl
  simp only [list_lst, list_tup, tuple_lst, tuple_tup, x_v, x_b, x_non, x_bl, x_int, x_str, x_g, x_tup, x_lst, x_dct, x_bin, x_neg, x_not, x_cmp, x_cmp2, x_and, x_or, x_ite, x_call, x_mk, x_fld, x_prop, x_idx, x_sli, x_bf, x_bm, x_isi, x_rpeq, x_tix, x_tin, x_tups, x_lsts, x_slen, x_sidx, s_set, s_seto, s_par, s_aug, s_app, s_ext, s_insr, s_seti, s_setf, s_mv, s_ex, s_ite, s_ret, s_retn, s_appop, s_setw, s_retw, s_sets, sq_nil, sq_cons, es_nil, es_cons, ec_nil, ec_cons, bind_ok, ofO_some, boolR_bl, seqR_nx, seqR_rt, negR_int, cmp2R_t, cmp2R_f, mkR_some, fldR_ins, propR_ins, retwR_lst, setsR_lst, lstAt, lcF, bindP, bindPs, List.getD_cons_zero, List.getD_cons_succ, List.set_cons_zero, List.set_cons_succ, Option.map_some, Option.bind_some, if_true, if_false, Bool.false_eq_true, cmpD, eq_str, eq_int, in_chr, len_lst, len_tup, add_int, sub_int, int_int, int_bl, abs_int, newAt, isNewD, deref, partD, Option.bind_none, Option.map_none, Bool.not_true, Bool.not_false, ite_true, ite_false, reduceIte, Bool.and_true, Bool.true_and, fin_eq, ok_bind, ok_ok, finK_rt, finK_nx, e_text g2, x_meq, gi1, q1, q2, meqR_ins (nc1 _) mtq, meqR_ins (nc2 _) mtq, meqR_ins (nc3 _) mtq, e_req, e_rne (nc2 _), e_rne (nc3 _), beq_self_eq_true, nb1, nb2, eqb]
  refine (e_odd (n := n + 2) p2 (by omega)).mono ?_
  rintro r w3 ⟨hr, p3⟩
  simp only [list_lst, list_tup, tuple_lst, tuple_tup, x_v, x_b, x_non, x_bl, x_int, x_str, x_g, x_tup, x_lst, x_dct, x_bin, x_neg, x_not, x_cmp, x_cmp2, x_and, x_or, x_ite, x_call, x_mk, x_fld, x_prop, x_idx, x_sli, x_bf, x_bm, x_isi, x_rpeq, x_tix, x_tin, x_tups, x_lsts, x_slen, x_sidx, s_set, s_seto, s_par, s_aug, s_app, s_ext, s_insr, s_seti, s_setf, s_mv, s_ex, s_ite, s_ret, s_retn, s_appop, s_setw, s_retw, s_sets, sq_nil, sq_cons, es_nil, es_cons, ec_nil, ec_cons, bind_ok, ofO_some, boolR_bl, seqR_nx, seqR_rt, negR_int, cmp2R_t, cmp2R_f, mkR_some, fldR_ins, propR_ins, retwR_lst, setsR_lst, lstAt, lcF, bindP, bindPs, List.getD_cons_zero, List.getD_cons_succ, List.set_cons_zero, List.set_cons_succ, Option.map_some, Option.bind_some, if_true, if_false, Bool.false_eq_true, cmpD, eq_str, eq_int, in_chr, len_lst, len_tup, add_int, sub_int, int_int, int_bl, abs_int, newAt, isNewD, deref, partD, Option.bind_none, Option.map_none, Bool.not_true, Bool.not_false, ite_true, ite_false, reduceIte, Bool.and_true, Bool.true_and, fin_eq, ok_bind, ok_ok, finK_rt, finK_nx, meqR_ins hr mtq, e_rne hr, nb1]
  exact ⟨by first | rfl | trivial, p3.le (by omega)⟩
theorem main (ns : List Int) : ∃ w', callP (prz.tbz ns) prz.cores (fun _ => none) 20 F_law [.ext 0] [] = .ok (.bl true) w' := by
  have : Ok (CC ns 20 F_law [.ext 0] []) fun r _ => r = .bl true := by
    obtain ⟨m, m1, m2, hm⟩ := e_cells (ns := ns) (n := 18) (w := []) (M := 8) (by decide) (by decide)
    rw [st_law, c_law]
    simp only [list_lst, list_tup, tuple_lst, tuple_tup, x_v, x_b, x_non, x_bl, x_int, x_str, x_g, x_tup, x_lst, x_dct, x_bin, x_neg, x_not, x_cmp, x_cmp2, x_and, x_or, x_ite, x_call, x_mk, x_fld, x_prop, x_idx, x_sli, x_bf, x_bm, x_isi, x_rpeq, x_tix, x_tin, x_tups, x_lsts, x_slen, x_sidx, s_set, s_seto, s_par, s_aug, s_app, s_ext, s_insr, s_seti, s_setf, s_mv, s_ex, s_ite, s_ret, s_retn, s_appop, s_setw, s_retw, s_sets, sq_nil, sq_cons, es_nil, es_cons, ec_nil, ec_cons, bind_ok, ofO_some, boolR_bl, seqR_nx, seqR_rt, negR_int, cmp2R_t, cmp2R_f, mkR_some, fldR_ins, propR_ins, retwR_lst, setsR_lst, lstAt, lcF, bindP, bindPs, List.getD_cons_zero, List.getD_cons_succ, List.set_cons_zero, List.set_cons_succ, Option.map_some, Option.bind_some, if_true, if_false, Bool.false_eq_true, cmpD, eq_str, eq_int, in_chr, len_lst, len_tup, add_int, sub_int, int_int, int_bl, abs_int, newAt, isNewD, deref, partD, Option.bind_none, Option.map_none, Bool.not_true, Bool.not_false, ite_true, ite_false, reduceIte, Bool.and_true, Bool.true_and, fin_eq, ok_bind, ok_ok, finK_rt, finK_nx]
    rw [x_lc]
    simp only [list_lst, list_tup, tuple_lst, tuple_tup, x_v, x_b, x_non, x_bl, x_int, x_str, x_g, x_tup, x_lst, x_dct, x_bin, x_neg, x_not, x_cmp, x_cmp2, x_and, x_or, x_ite, x_call, x_mk, x_fld, x_prop, x_idx, x_sli, x_bf, x_bm, x_isi, x_rpeq, x_tix, x_tin, x_tups, x_lsts, x_slen, x_sidx, s_set, s_seto, s_par, s_aug, s_app, s_ext, s_insr, s_seti, s_setf, s_mv, s_ex, s_ite, s_ret, s_retn, s_appop, s_setw, s_retw, s_sets, sq_nil, sq_cons, es_nil, es_cons, ec_nil, ec_cons, bind_ok, ofO_some, boolR_bl, seqR_nx, seqR_rt, negR_int, cmp2R_t, cmp2R_f, mkR_some, fldR_ins, propR_ins, retwR_lst, setsR_lst, lstAt, lcF, bindP, bindPs, List.getD_cons_zero, List.getD_cons_succ, List.set_cons_zero, List.set_cons_succ, Option.map_some, Option.bind_some, if_true, if_false, Bool.false_eq_true, cmpD, eq_str, eq_int, in_chr, len_lst, len_tup, add_int, sub_int, int_int, int_bl, abs_int, newAt, isNewD, deref, partD, Option.bind_none, Option.map_none, Bool.not_true, Bool.not_false, ite_true, ite_false, reduceIte, Bool.and_true, Bool.true_and, fin_eq, ok_bind, ok_ok, finK_rt, finK_nx, hm, iter_lst]
    refine (goL_acc (J := fun q acc w => ∃ us : List Nat, acc = us.map fun _ => .bl true) (rngL 0 m) 0 [] _ ⟨[], rfl⟩ ?_).mono ?_
    · rintro q d acc w3 - hd ⟨us, rfl⟩
      obtain ⟨rfl, hk⟩ := rng_get hd
      simp only [list_lst, list_tup, tuple_lst, tuple_tup, x_v, x_b, x_non, x_bl, x_int, x_str, x_g, x_tup, x_lst, x_dct, x_bin, x_neg, x_not, x_cmp, x_cmp2, x_and, x_or, x_ite, x_call, x_mk, x_fld, x_prop, x_idx, x_sli, x_bf, x_bm, x_isi, x_rpeq, x_tix, x_tin, x_tups, x_lsts, x_slen, x_sidx, s_set, s_seto, s_par, s_aug, s_app, s_ext, s_insr, s_seti, s_setf, s_mv, s_ex, s_ite, s_ret, s_retn, s_appop, s_setw, s_retw, s_sets, sq_nil, sq_cons, es_nil, es_cons, ec_nil, ec_cons, bind_ok, ofO_some, boolR_bl, seqR_nx, seqR_rt, negR_int, cmp2R_t, cmp2R_f, mkR_some, fldR_ins, propR_ins, retwR_lst, setsR_lst, lstAt, lcF, bindP, bindPs, List.getD_cons_zero, List.getD_cons_succ, List.set_cons_zero, List.set_cons_succ, Option.map_some, Option.bind_some, if_true, if_false, Bool.false_eq_true, cmpD, eq_str, eq_int, in_chr, len_lst, len_tup, add_int, sub_int, int_int, int_bl, abs_int, newAt, isNewD, deref, partD, Option.bind_none, Option.map_none, Bool.not_true, Bool.not_false, ite_true, ite_false, reduceIte, Bool.and_true, Bool.true_and, fin_eq, ok_bind, ok_ok, finK_rt, finK_nx]
      refine (e_pot (n := 18) (by omega)).mono ?_
      rintro _ w2 ⟨i, rfl, p⟩
      refine (e_right (n := 13) p (by omega)).mono ?_
      rintro _ w4 ⟨rfl, p⟩
      exact ⟨us ++ [0], by simp⟩
    · rintro xs w3 ⟨us, e⟩
      rw [List.nil_append] at e
      subst e
      simp only [list_lst, list_tup, tuple_lst, tuple_tup, x_v, x_b, x_non, x_bl, x_int, x_str, x_g, x_tup, x_lst, x_dct, x_bin, x_neg, x_not, x_cmp, x_cmp2, x_and, x_or, x_ite, x_call, x_mk, x_fld, x_prop, x_idx, x_sli, x_bf, x_bm, x_isi, x_rpeq, x_tix, x_tin, x_tups, x_lsts, x_slen, x_sidx, s_set, s_seto, s_par, s_aug, s_app, s_ext, s_insr, s_seti, s_setf, s_mv, s_ex, s_ite, s_ret, s_retn, s_appop, s_setw, s_retw, s_sets, sq_nil, sq_cons, es_nil, es_cons, ec_nil, ec_cons, bind_ok, ofO_some, boolR_bl, seqR_nx, seqR_rt, negR_int, cmp2R_t, cmp2R_f, mkR_some, fldR_ins, propR_ins, retwR_lst, setsR_lst, lstAt, lcF, bindP, bindPs, List.getD_cons_zero, List.getD_cons_succ, List.set_cons_zero, List.set_cons_succ, Option.map_some, Option.bind_some, if_true, if_false, Bool.false_eq_true, cmpD, eq_str, eq_int, in_chr, len_lst, len_tup, add_int, sub_int, int_int, int_bl, abs_int, newAt, isNewD, deref, partD, Option.bind_none, Option.map_none, Bool.not_true, Bool.not_false, ite_true, ite_false, reduceIte, Bool.and_true, Bool.true_and, fin_eq, ok_bind, ok_ok, finK_rt, finK_nx, all_true]
  obtain ⟨r, w', e, rfl⟩ := this.ex
  exact ⟨w', e⟩
end
end MP.K01

set_option Elab.async false
set_option linter.all false
set_option maxRecDepth 100000
set_option maxHeartbeats 0
namespace MP.K01
open PySem PySem.W PySem.Calls PyProof.Rows
abbrev rowR : OpenRow := OpenLaw.row PySem.Challenge.rw_latejoins_k01_rules_as_they_are_told
def loose0 : List PySem.Str := ["_wall", "JoinsError", "BadRule", "LETTERS", "MOST_LETTERS", "are_letters", "is_name", "do_ascend", "are_some", "FEED", "BLANK", "FIELDS", "KINDS", "LINK", "SAME", "WITHIN"]
def loose1 : List PySem.Str := ["BARRED", "WINDOWS", "MOST_NAMES", "MOST_CLAUSES", "THING_PARTS", "PAIR_WORDS", "WINDOW_WORDS", "Clause", "names_in", "clause_in", "line_of", "Rule", "_law_pot", "_law_take", "_law_of", "_law_some"]
def loose2 : List PySem.Str := ["_law_cells", "_law_ordered", "_law_words", "_law_clause", "_law_lore", "_law_line", "_law_text", "_law_odd", "_law_told_clause", "_law_right"]
def looseN : List PySem.Str := loose0 ++ loose1 ++ loose2
def obz (s : SharedT) : AlM := obsMG 6 prz (HandSHeadRun.getT s)
theorem obz_eq (s : SharedT) : obz s = (hookM 6 prz).obs s.abs := obsMG_eq (HandSHeadRun.getT_eq s)
abbrev RunZ (w : World) : Prop := HandSHeadRun.RunEq rowR (view rowR.prog [46]) (hookM 6 prz) obz 6000 looseN w
theorem run0 (w : World) : RunZ (w.withFollow "special-get-raises" false) := by
  intro os
  kernel_rfl
theorem run1 (w : World) : RunZ (w.withFollow "special-get-raises" true) := by
  intro os
  kernel_rfl
theorem runz (w : World) : RunZ w := byRow2 "special-get-raises" (P := RunZ) run0 run1 w
end MP.K01
open PySem PySem.W PySem.Calls PyProof.Rows
theorem MP.K01.holds_of {m : Nat} (hr : L2.Room (3 * m) callerA) (main : ∀ ns : List Int, ns.length ≤ 63 → ∃ w', MP.callP (MP.K01.prz.tbz ns) MP.K01.prz.cores (fun _ => none) m 32 [.ext 0] [] = .ok (.bl true) w') : PySem.Challenge.rw_latejoins_k01_rules_as_they_are_told.Holds := by
  w_on; o_law
  refine HandSHeadRun.head_any (r := OpenLaw.row PySem.Challenge.rw_latejoins_k01_rules_as_they_are_told) (q := view (OpenLaw.row PySem.Challenge.rw_latejoins_k01_rules_as_they_are_told).prog [46]) (H := MP.hookM 6 MP.K01.prz) (ob := MP.K01.obz) (M := 6000) (loose := MP.K01.looseN) (d := HandSHeadRun.topDef (OpenLaw.row PySem.Challenge.rw_latejoins_k01_rules_as_they_are_told).prog 46) (kwd := []) MP.K01.obz_eq
    (by kernel_rfl) (fun s => by kernel_rfl) MP.K01.runz (by kernel_rfl) (by kernel_rfl) (by kernel_rfl) (by rfl) (by first | assumption | decide +kernel) (by decide +kernel) ⟨rfl, rfl, rfl, rfl, rfl, by decide +kernel⟩ ?hw ?hc
  case hw => w_witness2
  case hc =>
    exact MP.finish (md := MP.K01.d_law) (lawN := 32) rfl (by decide) (by kernel_rfl) hr MP.K01.good MP.K01.bind_all MP.K01.ok_all rfl rfl rfl rfl rfl (by kernel_rfl) main

theorem PySem.Challenge.cw_latejoins_k01_rules_as_they_are_told_holds : PySem.Challenge.rw_latejoins_k01_rules_as_they_are_told.Holds := by
  exact MP.K01.holds_of (m := 20) ⟨rfl, by decide, by decide⟩ (fun ns _ => MP.K01.main ns)
