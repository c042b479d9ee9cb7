import PyProof.Rows.All
import Wide.All
import OpenK.AllK
import Wide.FinOn
import HandS.ForMost
import HandS.ClsMeth
import HandS.ExcCtx
import HandS.ExcInit
import HandS.ExcIs
import HandS.IsInst
import HandS.HotCalls
import KE.KExcIs
import KE.KIsAll
import HandS.Defaults
import HandS.ForExc
import HandS.Wide
import HandS.TupAny
import HandS.Style
import HandS.Deep
import HandS.WordsDict
import HandS.More
import HandS.Text
import HandS.Rev
import HandS.RevRange
import HandS.Iter
import HandS.Zip
import HandS.Ends
import HandS.EndBits
import HandS.Conv
import HandS.Head0
import HandS.Head1
import HandS.Head2
import HandS.HeadEnd
import HandS.HeadHook1
import HandS.HeadHook2
import HandS.HeadHook4
import HandS.MakeKw
import PySem.Challenge.RW_callbinds_k31_changes_one_by_one
set_option Elab.async false
set_option linter.all false
set_option maxRecDepth 100000
/-! Mn1: a small language: values as trees, cells that change, the meaning of a def as a function. -/
namespace Mn
open PySem L2

/-- what never changes any more -/
inductive D where
  | non | bl (b : Bool) | int (i : Int) | str (x : Str)
  | tup (ds : List D) | lst (ds : List D)
  | obj (c : Nat) (fs : List D)
  | dct (ks : List Key) (ds : List D)
  | gref (k : Nat)
/-- a value: a tree, a cell of the frame, a tuple or list with cells in it -/
inductive T where
  | d (x : D) | cell (k : Nat) | tup (ts : List T) | lst (ts : List T)
  | exc (c : Nat) (p : List D)
inductive Cell where
  | dead | lst (ds : List D) | dct (ks : List Key) (ds : List D) | obj (c : Nat) (fs : List D)
structure Store where
  loc : List Cell
  glb : List Cell
inductive R (α : Type) where
  | ok (a : α) (S : Store) | exc (c : Nat) (p : List D) (S : Store) | bad
def R.bnd {α β : Type} (r : R α) (f : α → Store → R β) : R β := match r with
  | .ok a S => f a S
  | .exc c p S => .exc c p S
  | .bad => .bad
@[simp] theorem bnd_ok {α β : Type} {a : α} {S : Store} {f : α → Store → R β} : (R.ok a S).bnd f = f a S := rfl
@[simp] theorem bnd_exc {α β : Type} {c : Nat} {p : List D} {S : Store} {f : α → Store → R β} : (R.exc c p S : R α).bnd f = .exc c p S := rfl
@[simp] theorem bnd_bad {α β : Type} {f : α → Store → R β} : (R.bad : R α).bnd f = .bad := rfl

abbrev Fn := List T → Store → R T
structure Cal where
  f : Fn
  dv : List D
structure Cxx where
  glo : List D := []
  cal : List Cal := []
  dis : List (List (Nat × Cal)) := []
  new : List (Nat × Cal) := []
  newk : List (Nat × Cal) := []
  up : List Cal := []
  new0 : List Nat := []

def Cxx.find (cx : Cxx) (k c : Nat) : Option Cal := match cx.dis[k]? with
  | some tb => tb.lookup c
  | none => none

inductive BOp where | add | sub | mul | fdiv | mod | pow
inductive COp where | eq | ne | lt | le | gt | ge | is | isnot | inn | notin
inductive Bi where | len | list | tuple | min | max | abs | int | str | sum | all | any | sorted | dict | repr | lenset
inductive Mt where
  | append | extend | pop | clear | reverse | insert | index | count
  | get | dpop | setdefault
  | upper | split | partition | join | startswith | endswith | replace | isdigit
inductive Ty where | non | bool | int | str | lst | tup | dct | ve | cls (c : Nat)
  deriving DecidableEq

mutual
inductive Tg where | v (i : Nat) | t (ts : Tgs)
inductive Tgs where | nil | cons (t : Tg) (ts : Tgs)
end
mutual
inductive E where
  | var (i : Nat) | con (d : D) | glo (k : Nat)
  | tup (es : Es) | lst (md : Bool) (es : Es) | dct (md : Bool) (es : Es)
  | bin (md : Bool) (o : BOp) (a b : E) | neg (a : E) | cmp (o : COp) (a b : E) | chn (o o' : COp) (a b d : E)
  | not (a : E) | and (es : Es) | or (es : Es) | ife (c a b : E)
  | ix (a b : E) | slc (md : Bool) (a lo hi : E) | rev (md : Bool) (a : E)
  | bi (md : Bool) (o : Bi) (es : Es) | mt (md : Bool) (o : Mt) (a : E) (es : Es)
  | call (k : Nat) (es : Es) | meth (k : Nat) (o : E) (es : Es) | new (md : Nat) (k : Nat) (es : Es) | newK (md : Nat) (k : Nat) (es : Es) (e : E)
  | attr (o : E) (f : Nat)
  | comp (md : Bool) (tg : Tg) (it : It) (ifs : Es) (elt : E) | cmc (md : Bool) (tg : Tg) (e : E) (ifs : Es) (elt : E)
  | isi (a : E) (cs : List Ty) | frz (a : E) | grf (a : E)
  | isx (i : Nat) (cs : List Ty) | xat (i f : Nat) | up (k : Nat) (es : Es) | new0 (k : Nat)
inductive Es where | nil | cons (e : E) (es : Es)
inductive It where | seq (e : E) | rng (es : Es) | enum (e : E) | zip (a b : E) | rvs (e : E) | rvr (es : Es)
end
def E.isNon : E → Bool
  | .con .non => true
  | _ => false
mutual
inductive S1 where
  | set (tg : Tg) (e : E) | aug (i : Nat) (o : BOp) (e : E)
  | setA (o : E) (f : Nat) (e : E) | augA (o : E) (f : Nat) (op : BOp) (e : E) | setI (o i e : E)
  | expr (e : E) | ret (e : E) | retN | pass | brk | cnt
  | ife (c : E) (a b : Ss) | for (tg : Tg) (it : It) (b : Ss) | whl (n : Nat) (c : E) (b : Ss)
  | rai (c : Nat) (es : Es) | try (b : Ss) (hs : Hs) (els : Ss) | nev
  | frz (i : Nat) | clr (i : Nat) | grf (i : Nat)
  | forC (tg : Tg) (e : E) (b : Ss) | par (i j : Nat) (es : Es) | swp (o i o2 i2 e : E)
inductive Ss where | nil | cons (s : S1) (ss : Ss)
inductive Hs where | nil | cons (c : Nat) (i : Option Nat) (b : Ss) (hs : Hs)
end

/-! ### the classes of the program: fields in the order of their making -/
def flds : Nat → List Nat
  | 0 => [0] | 1 => [0, 1] | 2 => [0, 1] | 3 => [0, 1] | 4 => [0] | 5 => [0, 1] | 6 => [0]
  | 7 => [2, 3] | 8 => [4] | 10 => [5] | 13 => [6, 7, 8] | 14 => [9, 10, 11]
  | 15 => [12, 13, 14, 15, 16, 17] | 16 => [18, 19, 20] | 18 => [21] | 19 => [0, 21] | 20 => [0, 21] | 21 => [0] | 22 => [22, 23]
  | 26 => [24, 25] | 27 => [26, 27, 10]
  | 43 => [6] | 44 => [0] | 46 => [5] | 50 => [5] | 51 => [5] | 52 => [5] | 53 => [5] | 54 => [5] | 55 => [5] | 56 => [5]
  | _ => []
def fname : Nat → Str
  | 0 => "name" | 1 => "loose" | 2 => "row" | 3 => "shut" | 4 => "coming" | 5 => "number" | 6 => "at" | 7 => "times" | 8 => "plus"
  | 9 => "taking" | 10 => "well" | 11 => "left_out" | 12 => "entries" | 13 => "spare" | 14 => "words" | 15 => "waiting" | 16 => "leads" | 17 => "closed"
  | 18 => "taker" | 19 => "things" | 20 => "pairs" | 21 => "thing" | 22 => "one" | 23 => "other" | 24 => "layers" | 25 => "inner"
  | 26 => "kept_forms" | 27 => "kept_functions" | _ => ""
def cname : Nat → Str
  | 0 => "Parameter" | 1 => "Single" | 2 => "Seat" | 3 => "Both" | 4 => "Tail" | 5 => "Tag" | 6 => "Bag" | 7 => "Form" | 8 => "Well"
  | 9 => "Default" | 10 => "Told" | 11 => "Once" | 12 => "Anew" | 13 => "Sum" | 14 => "Function" | 15 => "Bench" | 16 => "Part"
  | 17 => "Cover" | 18 => "Ahead" | 19 => "With" | 20 => "Spare" | 21 => "Without" | 22 => "Exchange" | 23 => "Swallow" | 24 => "ByPlace" | 25 => "ByName"
  | 26 => "Covered" | 27 => "Desk"
  | 40 => "CallError" | 41 => "NoName" | 42 => "TooMany" | 43 => "BadOrder" | 44 => "Twice" | 45 => "NoChange" | 46 => "NoDefault" | 47 => "NoText"
  | 48 => "NoRow" | 49 => "Unknown" | 50 => "Misfit" | 51 => "Doubled" | 52 => "Over" | 53 => "Barred" | 54 => "Again" | 55 => "Strange" | 56 => "Lacking"
  | _ => ""
/-- the classes above one -/
def ups : Nat → List Nat
  | 0 => [0] | 1 => [1, 0] | 2 => [2, 1, 0] | 3 => [3, 1, 0] | 4 => [4, 0] | 5 => [5, 1, 0] | 6 => [6, 0] | 9 => [9] | 10 => [10, 9] | 11 => [11, 9] | 12 => [12, 9] | 13 => [13, 9]
  | 17 => [17] | 18 => [18, 17] | 19 => [19, 17] | 20 => [20, 17] | 21 => [21, 17] | 22 => [22, 17] | 23 => [23, 17] | 24 => [24, 17] | 25 => [25, 17]
  | 40 => [40] | 41 => [41, 40] | 42 => [42, 40] | 43 => [43, 40] | 44 => [44, 40] | 45 => [45, 40] | 46 => [46, 40] | 47 => [47, 40] | 48 => [48, 40] | 49 => [49, 40]
  | 50 => [50, 40] | 51 => [51, 50, 40] | 52 => [52, 50, 40] | 53 => [53, 50, 40] | 54 => [54, 50, 40] | 55 => [55, 50, 40] | 56 => [56, 50, 40]
  | n => [n]

/-! ### equality as Python has it -/
mutual
def D.eqv : D → D → Bool
  | .non, .non => true
  | .bl a, .bl b => a == b
  | .bl a, .int j => decide ((if a then 1 else 0) = j)
  | .int i, .bl b => decide (i = (if b then 1 else 0))
  | .int i, .int j => decide (i = j)
  | .str x, .str y => decide (x = y)
  | .lst xs, .lst ys => D.eqvs xs ys
  | .tup xs, .tup ys => D.eqvs xs ys
  | _, _ => false
def D.eqvs : List D → List D → Bool
  | [], [] => true
  | x :: xs, y :: ys => D.eqv x y && D.eqvs xs ys
  | _, _ => false
end
mutual
/-- the very same -/
def D.same : D → D → Bool
  | .non, .non => true
  | .bl a, .bl b => a == b
  | .int i, .int j => decide (i = j)
  | .str x, .str y => decide (x = y)
  | .lst xs, .lst ys => D.sames xs ys
  | .tup xs, .tup ys => D.sames xs ys
  | .obj c xs, .obj c' ys => decide (c = c') && D.sames xs ys
  | .dct ks xs, .dct ks' ys => decide (ks = ks') && D.sames xs ys
  | .gref j, .gref k => decide (j = k)
  | _, _ => false
def D.sames : List D → List D → Bool
  | [], [] => true
  | x :: xs, y :: ys => D.same x y && D.sames xs ys
  | _, _ => false
end
/-- may be compared: no object or dict within, nesting below n -/
def D.ly : Nat → D → Bool
  | _, .non => true
  | _, .bl _ => true
  | _, .int _ => true
  | _, .str _ => true
  | n + 1, .tup ds => ds.all (D.ly n)
  | n + 1, .lst ds => ds.all (D.ly n)
  | _, _ => false
def lyMax : Nat := 12

/-! ### the store -/
def unDs : List T → Option (List D)
  | [] => some []
  | .d x :: ts => match unDs ts with
    | some ds => some (x :: ds)
    | none => none
  | _ :: _ => none
def Store.push (S : Store) (c : Cell) : Store := ⟨S.loc ++ [c], S.glb⟩
def Store.pushG (S : Store) (c : Cell) : Store := ⟨S.loc, S.glb ++ [c]⟩
def Store.setL (S : Store) (k : Nat) (c : Cell) : Store := ⟨S.loc.set k c, S.glb⟩
def Store.setG (S : Store) (k : Nat) (c : Cell) : Store := ⟨S.loc, S.glb.set k c⟩
def Store.trunc (S : Store) (n : Nat) : Store := ⟨S.loc.take n, S.glb⟩
/-- what a value that may change holds -/
def Store.at (S : Store) : T → Option Cell
  | .cell k => S.loc[k]?
  | .d (.gref k) => S.glb[k]?
  | _ => none
def Store.put (S : Store) : T → Cell → Store
  | .cell k, c => S.setL k c
  | .d (.gref k), c => S.setG k c
  | _, _ => S
/-- read as a list -/
def Store.rdL (S : Store) : T → Option (List D)
  | .d (.lst xs) => some xs
  | .cell k => match S.loc[k]? with
    | some (.lst xs) => some xs
    | _ => none
  | .d (.gref k) => match S.glb[k]? with
    | some (.lst xs) => some xs
    | _ => none
  | _ => none
/-- read as a tree (a cell: as it is now) -/
def Store.rd (S : Store) : T → Option D
  | .cell k => match S.loc[k]? with
    | some (.lst xs) => some (.lst xs)
    | some (.dct ks ds) => some (.dct ks ds)
    | _ => none
  | .d (.gref k) => match S.glb[k]? with
    | some (.lst xs) => some (.lst xs)
    | some (.dct ks ds) => some (.dct ks ds)
    | _ => none
  | .d x => some x
  | .lst ts => match unDs ts with
    | some ds => some (.lst ds)
    | none => none
  | _ => none
def look (k : Key) : List Key → List D → Option D
  | k' :: ks, d :: ds => if k' = k then some d else look k ks ds
  | _, _ => none
def dset {α : Type} (k : Key) (v : α) : List Key → List α → List α
  | k' :: ks, d :: ds => (if k' = k then v else d) :: dset k v ks ds
  | _, _ => []
def dput (k : Key) (v : D) (ks : List Key) (ds : List D) : List Key × List D := if (ks.any fun j => decide (j = k)) then (ks, dset k v ks ds) else (ks ++ [k], ds ++ [v])
def ddrop (k : Key) : List Key → List D → List Key × List D
  | k' :: ks, d :: ds => if k' = k then (ks, ds) else let r := ddrop k ks ds; (k' :: r.1, d :: r.2)
  | _, _ => ([], [])
/-- what those that stay hold, read within -/
def Store.dp (S : Store) : Nat → D → D
  | 0, d => d
  | n + 1, d => match d with
    | .gref k => match S.glb[k]? with
      | some (.lst xs) => .lst (xs.map (S.dp n))
      | _ => .gref k
    | .tup ds => .tup (ds.map (S.dp n))
    | .lst ds => .lst (ds.map (S.dp n))
    | d => d
def toKey : D → Option Key
  | .int i => some (.inl i)
  | .str x => some (.inr x)
  | _ => none
/-- a new list -/
def mkL (md : Bool) (ds : List D) (S : Store) : R T := if ds.length ≤ 100000 then (if md then .ok (.cell S.loc.length) (S.push (.lst ds)) else .ok (.d (.lst ds)) S) else .bad
def mkLst (md : Bool) (ts : List T) (S : Store) : R T := match unDs ts with
  | some ds => mkL md ds S
  | none => if md || !decide (ts.length ≤ 100000) then .bad else .ok (.lst ts) S
/-- a dict of the pairs -/
def mkDs : List (T × T) → List Key → List D → Option (List Key × List D)
  | [], ks, ds => some (ks, ds)
  | p :: r, ks, ds => match p with
    | (.d k, .d v) => match toKey k with
      | some k => mkDs r (dput k v ks ds).1 (dput k v ks ds).2
      | none => none
    | _ => none
def mkD (md : Bool) (ps : List (T × T)) (S : Store) : R T := if ps.length ≤ 15 then match mkDs ps [] [] with
  | some (ks, ds) => if md then .ok (.cell S.loc.length) (S.push (.dct ks ds)) else .ok (.d (.dct ks ds)) S
  | none => .bad else .bad
def mkTup (ts : List T) (S : Store) : R T := if ts.length ≤ 1000 then (match unDs ts with
  | some ds => .ok (.d (.tup ds)) S
  | none => .ok (.tup ts) S) else .bad
def mkS (x : Str) (S : Store) : R T := if x.length ≤ 100000 then .ok (.d (.str x)) S else .bad

/-! ### operators -/
def mulOk (i j : Int) : Bool := decide (i.natAbs.log2 + j.natAbs.log2 < 60000000)
def ixN (n : Nat) (i : Int) : Option Nat := if 0 ≤ i then (if i < n then some i.toNat else none) else if -(n : Int) ≤ i then some (i + n).toNat else none
/-- a slice's bound -/
def sIx (n : Nat) (dflt : Nat) : Option Int → Nat
  | none => dflt
  | some i => if i < 0 then (i + n).toNat else min i.toNat n
def cut {α : Type} (xs : List α) (lo hi : Option Int) : List α := (xs.drop (sIx xs.length 0 lo)).take (sIx xs.length xs.length hi - sIx xs.length 0 lo)
def bits30 : Int := 1073741824
def addS (md : Bool) (a b : T) (S : Store) : R T := match a, b with
  | .d (.int i), .d (.int j) => .ok (.d (.int (i + j))) S
  | .d (.str a), .d (.str b) => mkS (a ++ b) S
  | .d (.tup a), .d (.tup b) => if a.length + b.length ≤ 1000 then .ok (.d (.tup (a ++ b))) S else .bad
  | a, b => match S.rdL a, S.rdL b with
    | some xs, some ys => mkL md (xs ++ ys) S
    | _, _ => .bad
def subS (a b : T) (S : Store) : R T := match a, b with
  | .d (.int i), .d (.int j) => .ok (.d (.int (i - j))) S
  | _, _ => .bad
/-- a text, so many times -/
def repStr (n : Nat) (x : Str) : Str := ⟨(List.replicate n x.cps).foldl (· ++ ·) #[]⟩
def mulS (md : Bool) (a b : T) (S : Store) : R T := match a, b with
  | .d (.int i), .d (.int j) => if mulOk i j then .ok (.d (.int (i * j))) S else .bad
  | .d (.lst xs), .d (.int j) => if 0 ≤ j ∧ j ≤ 1000 ∧ xs.length ≤ 100 then mkL md (List.replicate j.toNat xs).flatten S else .bad
  | .d (.str x), .d (.int j) => if 2 ≤ j ∧ j ≤ 1000 ∧ 1 ≤ x.length ∧ x.length ≤ 100 then .ok (.d (.str (repStr j.toNat x))) S else .bad
  | _, _ => .bad
def fdivS (a b : T) (S : Store) : R T := match a, b with
  | .d (.int i), .d (.int j) => if 0 < j ∧ j.natAbs.log2 < 9000 then .ok (.d (.int (i / j))) S else .bad
  | _, _ => .bad
def modS (a b : T) (S : Store) : R T := match a, b with
  | .d (.int i), .d (.int j) => if 0 < j then .ok (.d (.int (i % j))) S else .bad
  | _, _ => .bad
def powS (a b : T) (S : Store) : R T := match a, b with
  | .d (.int i), .d (.int j) => if 0 ≤ j ∧ j ≤ 1000 ∧ i.natAbs < 18446744073709551616 then .ok (.d (.int (i ^ j.toNat))) S else .bad
  | _, _ => .bad
def binS (md : Bool) (o : BOp) (a b : T) (S : Store) : R T := match o with
  | .add => addS md a b S
  | .sub => subS a b S
  | .mul => mulS md a b S
  | .fdiv => fdivS a b S
  | .mod => modS a b S
  | .pow => powS a b S
def negS : T → Store → R T
  | .d (.int i), S => .ok (.d (.int (-i))) S
  | _, _ => .bad
def okB (b : Bool) (S : Store) : R T := .ok (.d (.bl b)) S
def subStr (x z : Str) : Bool := !(Builtin.Str.occurrences z x 0 z.length 1).isEmpty
def inS (a b : T) (S : Store) : Option Bool := match a, b with
  | .d (.str x), .d (.str z) => some (subStr x z)
  | _, _ => match S.rd a, S.rd b with
    | some k, some (.dct ks ds) => match toKey k with
      | some k => some (look k ks ds).isSome
      | none => none
    | some x, some (.lst ys) => if x.ly lyMax && (D.lst ys).ly lyMax then some (ys.any fun y => y.eqv x) else none
    | some x, some (.tup ys) => if x.ly lyMax && (D.tup ys).ly lyMax then some (ys.any fun y => y.eqv x) else none
    | _, _ => none
def isS (a b : T) : Option Bool := match a, b with
  | .d .non, .d .non => some true
  | .d (.bl x), .d (.bl y) => some (x == y)
  | .d (.int _), .d (.bl _) => some false
  | .d (.int _), .d .non => some false
  | .d (.str _), .d .non => some false
  | .d (.bl _), .d .non => some false
  | .d (.lst _), .d .non => some false
  | .d (.tup _), .d .non => some false
  | .d (.obj _ _), .d .non => some false
  | .d (.dct _ _), .d .non => some false
  | .d (.gref _), .d .non => some false
  | .cell _, .d .non => some false
  | .tup _, .d .non => some false
  | .lst _, .d .non => some false
  | _, _ => none
def ofB (o : Option Bool) (f : Bool → Bool) (S : Store) : R T := match o with
  | some b => okB (f b) S
  | none => .bad
def eqS (a b : T) (S : Store) : Option Bool := match S.rd a, S.rd b with
  | some x, some y => if x.ly lyMax && y.ly lyMax then some (x.eqv y) else if (S.dp 5 x).ly lyMax && (S.dp 5 y).ly lyMax then some ((S.dp 5 x).eqv (S.dp 5 y)) else none
  | _, _ => none
def ordS (f : Int → Int → Bool) (a b : T) (S : Store) : R T := match a, b with
  | .d (.int i), .d (.int j) => okB (f i j) S
  | _, _ => .bad
def cmpS (o : COp) (a b : T) (S : Store) : R T := match o with
  | .lt => ordS (fun i j => decide (i < j)) a b S
  | .le => ordS (fun i j => decide (i ≤ j)) a b S
  | .gt => ordS (fun i j => decide (j < i)) a b S
  | .ge => ordS (fun i j => decide (j ≤ i)) a b S
  | .eq => ofB (eqS a b S) id S
  | .ne => ofB (eqS a b S) Bool.not S
  | .is => ofB (isS a b) id S
  | .isnot => ofB (isS a b) Bool.not S
  | .inn => ofB (inS a b S) id S
  | .notin => ofB (inS a b S) Bool.not S
def ixS (a b : T) (S : Store) : R T := match a, b with
  | .tup ts, .d (.int i) => match (ixN ts.length i).bind fun j => ts[j]? with
    | some t => .ok t S
    | none => .bad
  | .lst ts, .d (.int i) => match (ixN ts.length i).bind fun j => ts[j]? with
    | some t => .ok t S
    | none => .bad
  | _, .d k => match S.rd a with
    | some (.lst xs) => match k with
      | .int i => match (ixN xs.length i).bind fun j => xs[j]? with
        | some x => .ok (.d x) S
        | none => .bad
      | _ => .bad
    | some (.tup xs) => match k with
      | .int i => match (ixN xs.length i).bind fun j => xs[j]? with
        | some x => .ok (.d x) S
        | none => .bad
      | _ => .bad
    | some (.str z) => if z.length ≤ 100000 then match k with
      | .int i => match (ixN z.cps.toList.length i).bind fun j => z.cps.toList[j]? with
        | some c => .ok (.d (.str ⟨#[c]⟩)) S
        | none => .bad
      | _ => .bad else .bad
    | some (.dct ks ds) => match toKey k with
      | some k => match look k ks ds with
        | some x => .ok (.d x) S
        | none => .bad
      | none => .bad
    | _ => .bad
  | _, _ => .bad
def ofI (t : T) (S : Store) : R (Option Int) := match t with
  | .d (.int i) => .ok (some i) S
  | _ => .bad
def slcS (md : Bool) (a : T) (l h : Option Int) (S : Store) : R T := match S.rd a with
  | some (.lst xs) => mkL md (cut xs l h) S
  | some (.tup xs) => .ok (.d (.tup (cut xs l h))) S
  | some (.str z) => if z.length ≤ 100000 then .ok (.d (.str ⟨(cut z.cps.toList l h).toArray⟩)) S else .bad
  | _ => .bad
def revS (md : Bool) (a : T) (S : Store) : R T := match S.rdL a with
  | some xs => mkL md xs.reverse S
  | none => .bad
def dInts : List D → Option (List Int)
  | [] => some []
  | .int i :: r => match dInts r with
    | some is => some (i :: is)
    | none => none
  | _ :: _ => none
def dStrs : List D → Option (List Str)
  | [] => some []
  | .str i :: r => match dStrs r with
    | some is => some (i :: is)
    | none => none
  | _ :: _ => none
def dBls : List D → Option (List Bool)
  | [] => some []
  | .bl i :: r => match dBls r with
    | some is => some (i :: is)
    | none => none
  | _ :: _ => none
def lenS (a : T) (S : Store) : Option Nat := match a with
  | .tup ts => some ts.length
  | .lst ts => some ts.length
  | _ => match S.rd a with
    | some (.lst xs) => some xs.length
    | some (.tup xs) => some xs.length
    | some (.str z) => if z.length ≤ 100000 then some z.length else none
    | some (.dct ks _) => some ks.length
    | _ => none
def bLen (ts : List T) (S : Store) : R T := match ts with
  | [a] => match lenS a S with
    | some n => .ok (.d (.int n)) S
    | none => .bad
  | _ => .bad
def bList (md : Bool) (ts : List T) (S : Store) : R T := match ts with
  | [a] => match S.rd a with
    | some (.lst xs) => mkL md xs S
    | some (.tup xs) => mkL md xs S
    | _ => .bad
  | _ => .bad
def bTuple (ts : List T) (S : Store) : R T := match ts with
  | [a] => match S.rd a with
    | some (.lst xs) => .ok (.d (.tup xs)) S
    | _ => .bad
  | _ => .bad
def bInt2 (f : Int → Int → Int) (ts : List T) (S : Store) : R T := match ts with
  | [.d (.int i), .d (.int j)] => .ok (.d (.int (f i j))) S
  | _ => .bad
def bAbs (ts : List T) (S : Store) : R T := match ts with
  | [.d (.int i)] => .ok (.d (.int (if i < 0 then -i else i))) S
  | _ => .bad
def bInt (ts : List T) (S : Store) : R T := match ts with
  | [.d (.int i)] => .ok (.d (.int i)) S
  | [.d (.bl b)] => .ok (.d (.int (if b then 1 else 0))) S
  | _ => .bad
def bSum (ts : List T) (S : Store) : R T := match ts with
  | [a] => match S.rdL a with
    | some xs => match dInts xs with
      | some is => .ok (.d (.int is.sum)) S
      | none => .bad
    | none => .bad
  | _ => .bad
def bBools (f : List Bool → Bool) (ts : List T) (S : Store) : R T := match ts with
  | [a] => match S.rdL a with
    | some xs => match dBls xs with
      | some bs => okB (f bs) S
      | none => .bad
    | none => .bad
  | _ => .bad
def biS (md : Bool) (o : Bi) (ts : List T) (S : Store) : R T := match o with
  | .len => bLen ts S
  | .list => bList md ts S
  | .tuple => bTuple ts S
  | .min => bInt2 (fun i j => if j < i then j else i) ts S
  | .max => bInt2 (fun i j => if j > i then j else i) ts S
  | .abs => bAbs ts S
  | .int => bInt ts S
  | .sum => bSum ts S
  | .all => bBools (fun bs => bs.all id) ts S
  | .any => bBools (fun bs => bs.any id) ts S
  | _ => .bad
def atL (S : Store) (a : T) : Option (List D) := match S.at a with
  | some (.lst xs) => some xs
  | _ => none
def mAppend (a : T) (ts : List T) (S : Store) : R T := match ts with
  | [.d x] => match atL S a with
    | some xs => if xs.length < 100000 then .ok (.d .non) (S.put a (.lst (xs ++ [x]))) else .bad
    | none => .bad
  | _ => .bad
def mExtend (a : T) (ts : List T) (S : Store) : R T := match ts with
  | [b] => match atL S a, S.rdL b with
    | some xs, some ys => if xs.length + ys.length < 100000 then .ok (.d .non) (S.put a (.lst (xs ++ ys))) else .bad
    | _, _ => .bad
  | _ => .bad
def mPop (a : T) (ts : List T) (S : Store) : R T := match ts with
  | [] => match atL S a with
    | some xs => match xs[xs.length - 1]? with
      | some x => .ok (.d x) (S.put a (.lst xs.dropLast))
      | none => .bad
    | none => .bad
  | [.d (.int i)] => match atL S a with
    | some xs => match ixN xs.length i with
      | some j => match xs[j]? with
        | some x => .ok (.d x) (S.put a (.lst (xs.eraseIdx j)))
        | none => .bad
      | none => .bad
    | none => .bad
  | _ => .bad
def mClear (a : T) (ts : List T) (S : Store) : R T := match ts with
  | [] => match atL S a with
    | some _ => .ok (.d .non) (S.put a (.lst []))
    | none => .bad
  | _ => .bad
def mReverse (a : T) (ts : List T) (S : Store) : R T := match ts with
  | [] => match atL S a with
    | some xs => .ok (.d .non) (S.put a (.lst xs.reverse))
    | none => .bad
  | _ => .bad
def mUpper (a : T) (ts : List T) (S : Store) : R T := match ts, a with
  | [], .d (.str z) => if z.length ≤ 100000 then .ok (.d (.str (Txt.upper z))) S else .bad
  | _, _ => .bad
def mInsert (a : T) (ts : List T) (S : Store) : R T := match ts with
  | [.d (.int i), .d x] => match atL S a with
    | some xs => if 0 ≤ i ∧ i < 4611686018427387904 ∧ xs.length < 100000 then .ok (.d .non) (S.put a (.lst (xs.take i.toNat ++ [x] ++ xs.drop i.toNat))) else .bad
    | none => .bad
  | _ => .bad
def mIndex (a : T) (ts : List T) (S : Store) : R T := match ts with
  | [.d x] => match S.rd a with
    | some (.lst ys) => if x.ly lyMax && (D.lst ys).ly lyMax && decide (ys.length ≤ 100000) then (match ys.findIdx? fun y => y.eqv x with
      | some j => .ok (.d (.int j)) S
      | none => .bad) else .bad
    | _ => .bad
  | _ => .bad
def mJoin (a : T) (ts : List T) (S : Store) : R T := match ts, a with
  | [b], .d (.str z) => match S.rdL b with
    | some ds => match dStrs ds with
      | some xs => if (xs.map (·.length)).sum + xs.length * z.length ≤ 16777216 then .ok (.d (.str (Txt.join z xs))) S else .bad
      | none => .bad
    | none => .bad
  | _, _ => .bad
def mStarts (a : T) (ts : List T) (S : Store) : R T := match ts, a with
  | [.d (.str y)], .d (.str z) => okB (Txt.startswith z y) S
  | _, _ => .bad
def mEnds (a : T) (ts : List T) (S : Store) : R T := match ts, a with
  | [.d (.str y)], .d (.str z) => okB (Txt.endswith z y) S
  | _, _ => .bad
def mDigit (a : T) (ts : List T) (S : Store) : R T := match ts, a with
  | [], .d (.str z) => okB (Txt.isdigit z) S
  | _, _ => .bad
def mtS (md : Bool) (o : Mt) (a : T) (ts : List T) (S : Store) : R T := match o with
  | .append => mAppend a ts S
  | .extend => mExtend a ts S
  | .pop => mPop a ts S
  | .clear => mClear a ts S
  | .reverse => mReverse a ts S
  | .upper => mUpper a ts S
  | .insert => mInsert a ts S
  | .index => mIndex a ts S
  | .join => mJoin a ts S
  | .startswith => mStarts a ts S
  | .endswith => mEnds a ts S
  | .isdigit => mDigit a ts S
  | _ => .bad
/-- a tree's type -/
def D.ty : D → Option Ty
  | .non => some .non
  | .bl _ => some .bool
  | .int _ => some .int
  | .str _ => some .str
  | .lst _ => some .lst
  | .tup _ => some .tup
  | .dct _ _ => some .dct
  | .obj c _ => some (.cls c)
  | .gref _ => none
def tyS (a : T) (S : Store) : Option Ty := match a with
  | .tup _ => some .tup
  | .lst _ => none
  | .exc _ _ => none
  | .d (.gref k) => match S.glb[k]? with
    | some (.lst _) => some .lst
    | some (.dct _ _) => some .dct
    | some (.obj c _) => some (.cls c)
    | _ => none
  | .cell k => match S.loc[k]? with
    | some (.lst _) => some .lst
    | some (.dct _ _) => some .dct
    | some (.obj c _) => some (.cls c)
    | _ => none
  | .d x => x.ty
def Ty.is : Ty → Ty → Bool
  | .cls c, .cls k => (ups c).contains k
  | .bool, .int => true
  | .cls c, .ve => decide (40 ≤ c)
  | a, b => decide (a = b)
def isTy (a : T) (S : Store) (ys : List Ty) : Option Bool := match tyS a S with
  | some y => some (ys.any fun z => y.is z)
  | none => none
/-- the receiver's type of a method -/
def Mt.on : Mt → Ty
  | .append => .lst
  | .extend => .lst
  | .pop => .lst
  | .clear => .lst
  | .reverse => .lst
  | .insert => .lst
  | .index => .lst
  | .count => .lst
  | .get => .dct
  | .dpop => .dct
  | .setdefault => .dct
  | .upper => .str
  | .split => .str
  | .partition => .str
  | .join => .str
  | .startswith => .str
  | .endswith => .str
  | .replace => .str
  | .isdigit => .str
/-- an object's field -/
def attrS (a : T) (f : Nat) (S : Store) : R T := match a with
  | .d (.obj c fs) => match ((flds c).zip fs).lookup f with
    | some x => .ok (.d x) S
    | none => .bad
  | _ => match S.at a with
    | some (.obj c fs) => match ((flds c).zip fs).lookup f with
      | some x => .ok (.d x) S
      | none => .bad
    | _ => .bad
/-- a field is stored: a further one, or one anew -/
def fput {α : Type} (f : Nat) (v : α) : List Nat → List α → Option (List α)
  | g :: _, [] => if g = f then some [v] else none
  | g :: gs, d :: ds => if g = f then some (v :: ds) else match fput f v gs ds with
    | some r => some (d :: r)
    | none => none
  | [], _ => none
def setAS (a : T) (f : Nat) (v : T) (S : Store) : Option Store := match v with
  | .d x => match S.at a with
    | some (.obj c fs) => match fput f x (flds c) fs with
      | some gs => some (S.put a (.obj c gs))
      | none => none
    | _ => none
  | _ => none
def setIS (a i v : T) (S : Store) : Option Store := match i, v with
  | .d k, .d x => match S.at a with
    | some (.lst xs) => match k with
      | .int i => match ixN xs.length i with
        | some j => some (S.put a (.lst (xs.set j x)))
        | none => none
      | _ => none
    | some (.dct ks ds) => match toKey k with
      | some k => if ks.length < 100000 then some (S.put a (.dct (dput k x ks ds).1 (dput k x ks ds).2)) else none
      | none => none
    | _ => none
  | _, _ => none
/-- the class that a value is an instance of -/
def clsOf (a : T) (S : Store) : Option Nat := match a with
  | .d (.obj c _) => some c
  | _ => match S.at a with
    | some (.obj c _) => some c
    | _ => none
/-- the last cell goes to the trees, if it is none of the first n -/
def frzS (n : Nat) (t : T) (S : Store) : R T := match t with
  | .cell k => if n ≤ k ∧ k + 1 = S.loc.length then (match S.loc[k]? with
      | some (.lst xs) => .ok (.d (.lst xs)) (S.trunc k)
      | some (.dct ks ds) => .ok (.d (.dct ks ds)) (S.trunc k)
      | some (.obj c fs) => .ok (.d (.obj c fs)) (S.trunc k)
      | _ => .bad) else .bad
  | .d x => .ok (.d x) S
  | _ => .bad

/-- the last cell goes to those that stay -/
def grfS (n : Nat) (t : T) (S : Store) : R T := match t with
  | .cell k => if n ≤ k ∧ k + 1 = S.loc.length then (match S.loc[k]? with
      | some (.lst xs) => .ok (.d (.gref S.glb.length)) ((S.trunc k).pushG (.lst xs))
      | some (.dct ks ds) => .ok (.d (.gref S.glb.length)) ((S.trunc k).pushG (.dct ks ds))
      | _ => .bad) else .bad
  | _ => .bad

/-! ### targets -/
abbrev Sl := List (Option T)
def parts : T → Option (List T)
  | .d (.tup ds) => some (ds.map .d)
  | .tup ts => some ts
  | _ => none
mutual
def asg : Tg → T → Sl → Option Sl
  | .v i, t, σ => some (σ.set i (some t))
  | .t gs, t, σ => match parts t with
    | some ts => asgs gs ts σ
    | none => none
def asgs : Tgs → List T → Sl → Option Sl
  | .nil, [], σ => some σ
  | .cons g gs, t :: ts, σ => match asg g t σ with
    | some σ' => asgs gs ts σ'
    | none => none
  | _, _, _ => none
end
mutual
def tgv : Tg → List Nat
  | .v i => [i]
  | .t ts => tgvs ts
def tgvs : Tgs → List Nat
  | .nil => []
  | .cons t ts => tgv t ++ tgvs ts
end

/-! ### what is walked -/
def items (t : T) : Option (List D) := match t with
  | .d (.lst xs) => some xs
  | .d (.tup xs) => some xs
  | .d (.str z) => some (z.cps.toList.map fun c => .str ⟨#[c]⟩)
  | .lst ts => unDs ts
  | _ => none
def itemL (t : T) : Option (List D) := match t with
  | .d (.lst xs) => some xs
  | .lst ts => unDs ts
  | _ => none
def rngL (lo : Int) (n : Nat) : List D := (List.range n).map fun (i : Nat) => D.int (lo + (i : Int))
def small62 (i : Int) : Bool := decide (-4611686018427387904 ≤ i ∧ i < 4611686018427387904)
def rngS : List T → Option (Int × Nat)
  | [.d (.int j)] => if small62 j then some (0, j.toNat) else none
  | [.d (.int i), .d (.int j)] => if small62 i && small62 j then some (i, (j - i).toNat) else none
  | _ => none
def enumL : Nat → List D → List D
  | _, [] => []
  | n, x :: xs => .tup [.int n, x] :: enumL (n + 1) xs
def zipL : List D → List D → List D
  | x :: xs, y :: ys => .tup [x, y] :: zipL xs ys
  | _, _ => []

/-! ### expressions -/
/-- a comprehension's elements -/
def compL (f : D → Store → R (Option T)) : List D → Store → R (List T)
  | [], S => .ok [] S
  | x :: xs, S => (f x S).bnd fun o S1 => (compL f xs S1).bnd fun ys S2 => .ok (match o with
    | some y => y :: ys
    | none => ys) S2
/-- what is walked still stands -/
def grd (x : T) (xs : List D) (S : Store) : Bool := match S.rdL x with
  | some ys => D.sames ys xs
  | none => false
/-- the same of a list that may change, while it does not -/
def compG (f : D → Store → R (Option T)) (q : Store → Bool) (xs : List D) (S : Store) : R (List T) :=
  (compL (fun x S => if q S then f x S else .bad) xs S).bnd fun ys S' => if q S' then .ok ys S' else .bad
/-- slots forgotten -/
def clrs : List Nat → Sl → Sl
  | [], σ => σ
  | v :: vs, σ => (clrs vs σ).set v none
def unexc {α : Type} (r : R α) : R α := match r with
  | .exc _ _ _ => .bad
  | r => r
def newS (md : Nat) (c : Nat) (ini : Cal) (ts : List T) (S : Store) : R T := match md with
  | 2 => match ini.f (.d (.gref S.glb.length) :: (ts ++ ini.dv.map .d)) (S.pushG (.obj c [])) with
    | .ok (.d .non) S2 => .ok (.d (.gref S.glb.length)) S2
    | .ok _ _ => .bad
    | .exc c p S2 => .exc c p (S2.trunc S.loc.length)
    | .bad => .bad
  | m => match ini.f (.cell S.loc.length :: (ts ++ ini.dv.map .d)) (S.push (.obj c [])) with
    | .ok (.d .non) S2 => match m with
      | 1 => .ok (.cell S.loc.length) S2
      | _ => frzS S.loc.length (.cell S.loc.length) S2
    | .ok _ _ => .bad
    | .exc c p S2 => .exc c p (S2.trunc S.loc.length)
    | .bad => .bad
mutual
def ev (cx : Cxx) : E → Sl → Store → R T
  | .var i, σ, S => match σ[i]? with
    | some (some t) => .ok t S
    | _ => .bad
  | .con d, _, S => .ok (.d d) S
  | .glo k, _, S => match cx.glo[k]? with
    | some d => .ok (.d d) S
    | none => .bad
  | .tup es, σ, S => (evs cx es σ S).bnd mkTup
  | .lst md es, σ, S => (evs cx es σ S).bnd (mkLst md)
  | .dct md es, σ, S => (evPs cx es σ S).bnd (mkD md)
  | .bin md o a b, σ, S => (ev cx a σ S).bnd fun x S1 => (ev cx b σ S1).bnd fun y S2 => binS md o x y S2
  | .neg a, σ, S => (ev cx a σ S).bnd negS
  | .cmp o a b, σ, S => (ev cx a σ S).bnd fun x S1 => (ev cx b σ S1).bnd fun y S2 => cmpS o x y S2
  | .chn o o' a b d, σ, S => (ev cx a σ S).bnd fun x S1 => (ev cx b σ S1).bnd fun y S2 => (cmpS o x y S2).bnd fun t S3 => match t with
    | .d (.bl true) => (ev cx d σ S3).bnd fun z S4 => cmpS o' y z S4
    | .d (.bl false) => okB false S3
    | _ => .bad
  | .not a, σ, S => (ev cx a σ S).bnd fun x S1 => match x with
    | .d (.bl b) => okB (!b) S1
    | _ => .bad
  | .and es, σ, S => evAnd cx es σ S
  | .or es, σ, S => evOr cx es σ S
  | .ife c a b, σ, S => (ev cx c σ S).bnd fun x S1 => match x with
    | .d (.bl true) => ev cx a σ S1
    | .d (.bl false) => ev cx b σ S1
    | _ => .bad
  | .ix a b, σ, S => (ev cx a σ S).bnd fun x S1 => (ev cx b σ S1).bnd fun y S2 => ixS x y S2
  | .slc md a lo hi, σ, S => (ev cx a σ S).bnd fun x S1 => (if lo.isNon then .ok none S1 else (ev cx lo σ S1).bnd ofI).bnd fun l S2 =>
      (if hi.isNon then .ok none S2 else (ev cx hi σ S2).bnd ofI).bnd fun h S3 => slcS md x l h S3
  | .rev md a, σ, S => (ev cx a σ S).bnd (revS md)
  | .bi md o es, σ, S => (evs cx es σ S).bnd (biS md o)
  | .mt md o a es, σ, S => (ev cx a σ S).bnd fun x S1 => if tyS x S1 = some o.on then (evs cx es σ S1).bnd fun ts S2 => mtS md o x ts S2 else .bad
  | .call k es, σ, S => (evs cx es σ S).bnd fun ts S1 => match cx.cal[k]? with
    | some c => c.f (ts ++ c.dv.map .d) S1
    | none => .bad
  | .meth k o es, σ, S => (ev cx o σ S).bnd fun x S1 => match clsOf x S1 with
    | some c => match cx.find k c with
      | some m => (evs cx es σ S1).bnd fun ts S2 => m.f (x :: (ts ++ m.dv.map .d)) S2
      | none => .bad
    | none => .bad
  | .new md k es, σ, S => (evs cx es σ S).bnd fun ts S1 => match cx.new[k]? with
    | some (c, ini) => newS md c ini ts S1
    | none => .bad
  | .newK md k es e, σ, S => (evs cx es σ S).bnd fun ts S1 => (ev cx e σ S1).bnd fun t S2 => match cx.newk[k]? with
    | some (c, ini) => newS md c ini (ts ++ [t]) S2
    | none => .bad
  | .attr o f, σ, S => (ev cx o σ S).bnd fun x S1 => attrS x f S1
  | .comp md tg it ifs elt, σ, S => (evIt cx it σ S).bnd fun xs S1 =>
      (unexc (compL (fun x S => match asg tg (.d x) (clrs (tgv tg) σ) with
        | some σ' => (evAll cx ifs σ' S).bnd fun b S2 => if b then (ev cx elt σ' S2).bnd fun y S3 => .ok (some y) S3 else .ok none S2
        | none => .bad) xs S1)).bnd (mkLst md)
  | .cmc md tg e ifs elt, σ, S => (ev cx e σ S).bnd fun z S1 => match S1.rdL z with
    | some xs => (unexc (compG (fun x S => match asg tg (.d x) (clrs (tgv tg) σ) with
        | some σ' => (evAll cx ifs σ' S).bnd fun b S2 => if b then (ev cx elt σ' S2).bnd fun y S3 => .ok (some y) S3 else .ok none S2
        | none => .bad) (grd z xs) xs S1)).bnd (mkLst md)
    | none => .bad
  | .isi a c, σ, S => (ev cx a σ S).bnd fun x S1 => ofB (isTy x S1 c) id S1
  | .frz a, σ, S => (ev cx a σ S).bnd (frzS S.loc.length)
  | .grf a, σ, S => (ev cx a σ S).bnd (grfS S.loc.length)
  | .isx i ys, σ, S => match σ[i]? with
    | some (some (.exc c _)) => okB (ys.any fun z => Ty.is (.cls c) z) S
    | _ => .bad
  | .xat i f, σ, S => match σ[i]? with
    | some (some (.exc c p)) => match ((flds c).zip p).lookup f with
      | some x => .ok (.d x) S
      | none => .bad
    | _ => .bad
  | .up k es, σ, S => (evs cx es σ S).bnd fun ts S1 => match cx.up[k]? with
    | some c => c.f (ts ++ c.dv.map .d) S1
    | none => .bad
  | .new0 k, _, S => match cx.new0[k]? with
    | some c => .ok (.d (.obj c [])) S
    | none => .bad
def evs (cx : Cxx) : Es → Sl → Store → R (List T)
  | .nil, _, S => .ok [] S
  | .cons e es, σ, S => (ev cx e σ S).bnd fun t S1 => (evs cx es σ S1).bnd fun ts S2 => .ok (t :: ts) S2
/-- keys and values by turns -/
def evPs (cx : Cxx) : Es → Sl → Store → R (List (T × T))
  | .nil, _, S => .ok [] S
  | .cons e es, σ, S => match es with
    | .nil => .bad
    | .cons e2 es2 => (ev cx e σ S).bnd fun x S1 => (ev cx e2 σ S1).bnd fun y S2 => (evPs cx es2 σ S2).bnd fun ps S3 => .ok ((x, y) :: ps) S3
def evAnd (cx : Cxx) : Es → Sl → Store → R T
  | .nil, _, _ => .bad
  | .cons e es, σ, S => match es with
    | .nil => ev cx e σ S
    | .cons e2 es2 => (ev cx e σ S).bnd fun x S1 => match x with
      | .d (.bl true) => evAnd cx (.cons e2 es2) σ S1
      | .d (.bl false) => okB false S1
      | _ => .bad
def evOr (cx : Cxx) : Es → Sl → Store → R T
  | .nil, _, _ => .bad
  | .cons e es, σ, S => match es with
    | .nil => ev cx e σ S
    | .cons e2 es2 => (ev cx e σ S).bnd fun x S1 => match x with
      | .d (.bl false) => evOr cx (.cons e2 es2) σ S1
      | .d (.bl true) => okB true S1
      | _ => .bad
/-- a clause's tests: none or one -/
def evAll (cx : Cxx) : Es → Sl → Store → R Bool
  | .nil, _, S => .ok true S
  | .cons e es, σ, S => match es with
    | .nil => (ev cx e σ S).bnd fun x S1 => match x with
      | .d (.bl b) => .ok b S1
      | _ => .bad
    | .cons _ _ => .bad
def evIt (cx : Cxx) : It → Sl → Store → R (List D)
  | .seq e, σ, S => (ev cx e σ S).bnd fun x S1 => match items x with
    | some ts => .ok ts S1
    | none => .bad
  | .rng es, σ, S => (evs cx es σ S).bnd fun ts S1 => match rngS ts with
    | some (lo, n) => .ok (rngL lo n) S1
    | none => .bad
  | .enum e, σ, S => (ev cx e σ S).bnd fun x S1 => match itemL x with
    | some xs => .ok (enumL 0 xs) S1
    | none => .bad
  | .zip a b, σ, S => (ev cx a σ S).bnd fun x S1 => (ev cx b σ S1).bnd fun y S2 => match itemL x, itemL y with
    | some xs, some ys => .ok (zipL xs ys) S2
    | _, _ => .bad
  | .rvs e, σ, S => (ev cx e σ S).bnd fun x S1 => match itemL x with
    | some xs => .ok xs.reverse S1
    | _ => .bad
  | .rvr es, σ, S => (evs cx es σ S).bnd fun ts S1 => match rngS ts with
    | some (lo, n) => .ok (rngL lo n).reverse S1
    | none => .bad
end

/-! ### statements -/
inductive RS where
  | nx (σ : Sl) (S : Store) | ret (t : T) (S : Store) | brk (σ : Sl) (S : Store) | cnt (σ : Sl) (S : Store)
  | exc (c : Nat) (p : List D) (σ : Sl) (S : Store) | bad
def R.stm (r : R T) (σ : Sl) (f : T → Store → RS) : RS := match r with
  | .ok t S => f t S
  | .exc c p S => .exc c p σ S
  | .bad => .bad
@[simp] theorem stm_ok {a : T} {S : Store} {σ : Sl} {f : T → Store → RS} : (R.ok a S).stm σ f = f a S := rfl
@[simp] theorem stm_exc {c : Nat} {p : List D} {S : Store} {σ : Sl} {f : T → Store → RS} : (R.exc c p S).stm σ f = .exc c p σ S := rfl
@[simp] theorem stm_bad {σ : Sl} {f : T → Store → RS} : (R.bad).stm σ f = .bad := rfl
def RS.seq (r : RS) (f : Sl → Store → RS) : RS := match r with
  | .nx σ S => f σ S
  | r => r
@[simp] theorem seq_nx {σ : Sl} {S : Store} {f : Sl → Store → RS} : (RS.nx σ S).seq f = f σ S := rfl
@[simp] theorem seq_ret {t : T} {S : Store} {f : Sl → Store → RS} : (RS.ret t S).seq f = .ret t S := rfl
@[simp] theorem seq_brk {σ : Sl} {S : Store} {f : Sl → Store → RS} : (RS.brk σ S).seq f = .brk σ S := rfl
@[simp] theorem seq_cnt {σ : Sl} {S : Store} {f : Sl → Store → RS} : (RS.cnt σ S).seq f = .cnt σ S := rfl
@[simp] theorem seq_exc {c : Nat} {p : List D} {σ : Sl} {S : Store} {f : Sl → Store → RS} : (RS.exc c p σ S).seq f = .exc c p σ S := rfl
@[simp] theorem seq_bad {f : Sl → Store → RS} : (RS.bad).seq f = .bad := rfl
def forL (f : D → Sl → Store → RS) : List D → Sl → Store → RS
  | [], σ, S => .nx σ S
  | x :: xs, σ, S => match f x σ S with
    | .nx σ' S' => forL f xs σ' S'
    | .cnt σ' S' => forL f xs σ' S'
    | .brk σ' S' => .nx σ' S'
    | r => r
/-- the same of what may change, while it does not -/
def forG (f : D → Sl → Store → RS) (q : Store → Bool) : List D → Sl → Store → RS
  | [], σ, S => if q S then .nx σ S else .bad
  | x :: xs, σ, S => if q S then (match f x σ S with
    | .nx σ' S' => forG f q xs σ' S'
    | .cnt σ' S' => forG f q xs σ' S'
    | .brk σ' S' => .nx σ' S'
    | r => r) else .bad
/-- not a cell of this frame -/
def own (n : Nat) : T → Bool
  | .cell k => decide (k < n)
  | _ => true
def whlL (c : Sl → Store → R T) (f : Sl → Store → RS) : Nat → Sl → Store → RS
  | 0, _, _ => .bad
  | n + 1, σ, S => (c σ S).stm σ fun t S1 => match t with
    | .d (.bl false) => .nx σ S1
    | .d (.bl true) => match f σ S1 with
      | .nx σ' S' => whlL c f n σ' S'
      | .cnt σ' S' => whlL c f n σ' S'
      | .brk σ' S' => .nx σ' S'
      | r => r
    | _ => .bad
/-- op=, of numbers -/
def augS (o : BOp) (x y : T) (S : Store) : R T := match o with
  | .add => match x, y with
    | .d (.int i), .d (.int j) => .ok (.d (.int (i + j))) S
    | _, _ => .bad
  | .sub => match x, y with
    | .d (.int i), .d (.int j) => .ok (.d (.int (i - j))) S
    | _, _ => .bad
  | _ => .bad
def noCell (k : Nat) : Option T → Bool
  | none => true
  | some (.d _) => true
  | some (.cell j) => !(j == k)
  | _ => false
mutual
/-- no exception in it -/
def T.noX : T → Bool
  | .exc _ _ => false
  | .tup ts => T.noXs ts
  | .lst ts => T.noXs ts
  | _ => true
def T.noXs : List T → Bool
  | [] => true
  | t :: ts => t.noX && T.noXs ts
end
def noXo : Option T → Bool
  | some t => t.noX
  | none => true
/-- into a suite -/
def xIn (i : Option Nat) (c : Nat) (p : List D) (σ : Sl) : Sl := match i with
  | some i => σ.set i (some (.exc c p))
  | none => σ
def xDel (i : Option Nat) (σ : Sl) : Sl := match i with
  | some i => σ.set i none
  | none => σ
/-- out of a suite -/
def RS.xOut (i : Option Nat) : RS → RS
  | .nx σ S => if (xDel i σ).all noXo then .nx (xDel i σ) S else .bad
  | .brk σ S => if (xDel i σ).all noXo then .brk (xDel i σ) S else .bad
  | .cnt σ S => if (xDel i σ).all noXo then .cnt (xDel i σ) S else .bad
  | .ret t S => if t.noX then .ret t S else .bad
  | _ => .bad
mutual
def ex (cx : Cxx) (n0 : Nat) : S1 → Sl → Store → RS
  | .set tg e, σ, S => (ev cx e σ S).stm σ fun t S1 => match asg tg t σ with
    | some σ' => .nx σ' S1
    | none => .bad
  | .aug i o e, σ, S => match σ[i]? with
    | some (some x) => (ev cx e σ S).stm σ fun y S1 => (augS o x y S1).stm σ fun z S2 => .nx (σ.set i (some z)) S2
    | _ => .bad
  | .setA o f e, σ, S => (ev cx e σ S).stm σ fun v S1 => (ev cx o σ S1).stm σ fun x S2 => match setAS x f v S2 with
    | some S3 => .nx σ S3
    | none => .bad
  | .augA o f op e, σ, S => (ev cx o σ S).stm σ fun x S1 => (attrS x f S1).stm σ fun y S2 => (ev cx e σ S2).stm σ fun z S3 => (augS op y z S3).stm σ fun v S4 => match clsOf x S1, clsOf x S4 with
    | some c1, some c4 => if c1 = c4 then (match setAS x f v S4 with
      | some S5 => .nx σ S5
      | none => .bad) else .bad
    | _, _ => .bad
  | .setI o i e, σ, S => (ev cx e σ S).stm σ fun v S1 => (ev cx o σ S1).stm σ fun x S2 => (ev cx i σ S2).stm σ fun k S3 => match setIS x k v S3 with
    | some S4 => .nx σ S4
    | none => .bad
  | .expr e, σ, S => (ev cx e σ S).stm σ fun _ S1 => .nx σ S1
  | .ret e, σ, S => (ev cx e σ S).stm σ fun t S1 => .ret t S1
  | .retN, _, S => .ret (.d .non) S
  | .pass, σ, S => .nx σ S
  | .brk, σ, S => .brk σ S
  | .cnt, σ, S => .cnt σ S
  | .ife c a b, σ, S => (ev cx c σ S).stm σ fun t S1 => match t with
    | .d (.bl true) => exs cx n0 a σ S1
    | .d (.bl false) => exs cx n0 b σ S1
    | _ => .bad
  | .for tg it b, σ, S => match evIt cx it σ S with
    | .ok xs S1 => forL (fun x σ S => match asg tg (.d x) σ with
      | some σ' => exs cx n0 b σ' S
      | none => .bad) xs σ S1
    | .exc c p S1 => .exc c p σ S1
    | .bad => .bad
  | .whl n c b, σ, S => whlL (fun σ S => ev cx c σ S) (fun σ S => exs cx n0 b σ S) n σ S
  | .rai c es, σ, S => match evs cx es σ S with
    | .ok ts S1 => match unDs ts with
      | some ds => .exc c ds σ S1
      | none => .bad
    | .exc c p S1 => .exc c p σ S1
    | .bad => .bad
  | .frz i, σ, S => match σ[i]? with
    | some (some (.cell k)) => if n0 ≤ k then (match S.loc[k]? with
        | some c => match c with
          | .dead => .bad
          | .lst xs => if k + 1 = S.loc.length ∧ (σ.set i none).all (noCell k) then .nx (σ.set i (some (.d (.lst xs)))) (S.trunc k) else .nx (σ.set i (some (.d (.lst xs)))) (S.setL k .dead)
          | .dct ks ds => if k + 1 = S.loc.length ∧ (σ.set i none).all (noCell k) then .nx (σ.set i (some (.d (.dct ks ds)))) (S.trunc k) else .nx (σ.set i (some (.d (.dct ks ds)))) (S.setL k .dead)
          | .obj cc fs => if k + 1 = S.loc.length ∧ (σ.set i none).all (noCell k) then .nx (σ.set i (some (.d (.obj cc fs)))) (S.trunc k) else .nx (σ.set i (some (.d (.obj cc fs)))) (S.setL k .dead)
        | none => .bad) else .bad
    | _ => .bad
  | .clr i, σ, S => .nx (σ.set i none) S
  | .grf i, σ, S => match σ[i]? with
    | some (some (.cell k)) => if n0 ≤ k ∧ k + 1 = S.loc.length ∧ (σ.set i none).all (noCell k) then (match S.loc[k]? with
        | some (.lst xs) => .nx (σ.set i (some (.d (.gref S.glb.length)))) ((S.trunc k).pushG (.lst xs))
        | some (.dct ks ds) => .nx (σ.set i (some (.d (.gref S.glb.length)))) ((S.trunc k).pushG (.dct ks ds))
        | _ => .bad) else .bad
    | _ => .bad
  | .forC tg e b, σ, S => (ev cx e σ S).stm σ fun z S1 => if own n0 z then (match S1.rdL z with
    | some xs => forG (fun x σ S => match asg tg (.d x) σ with
      | some σ' => exs cx n0 b σ' S
      | none => .bad) (grd z xs) xs σ S1
    | none => .bad) else .bad
  | .par i j es, σ, S => match evs cx es σ S with
    | .ok ts S1 => (match ts with
      | [x, y] => .nx ((σ.set i (some x)).set j (some y)) S1
      | _ => .bad)
    | .exc c p S1 => .exc c p σ S1
    | .bad => .bad
  | .swp o i o2 i2 e, σ, S => (ev cx e σ S).stm σ fun t S2 => match parts t with
    | some ts => (match ts with
      | [va, vb] => (ev cx o σ S2).stm σ fun x S3 => (ev cx i σ S3).stm σ fun k S4 => match setIS x k va S4 with
        | some S5 => (ev cx o2 σ S5).stm σ fun x2 S6 => (ev cx i2 σ S6).stm σ fun k2 S7 => match setIS x2 k2 vb S7 with
          | some S8 => .nx σ S8
          | none => .bad
        | none => .bad
      | _ => .bad)
    | none => .bad
  | .try b hs els, σ, S => match exs cx n0 b σ S with
    | .nx σ' S' => exs cx n0 els σ' S'
    | .exc c p σ' S' => exh cx n0 hs c p σ' S'
    | r => r
  | .nev, _, _ => .bad
def exh (cx : Cxx) (n0 : Nat) : Hs → Nat → List D → Sl → Store → RS
  | .nil, c, p, σ, S => .exc c p σ S
  | .cons k i b hs, c, p, σ, S => if (ups c).contains k then (exs cx n0 b (xIn i c p σ) S).xOut i else exh cx n0 hs c p σ S
def exs (cx : Cxx) (n0 : Nat) : Ss → Sl → Store → RS
  | .nil, σ, S => .nx σ S
  | .cons s ss, σ, S => (ex cx n0 s σ S).seq (exs cx n0 ss)
end

/-! ### a def -/
def fin (n0 : Nat) (t : T) (S : Store) : R T := match t with
  | .d x => .ok (.d x) (S.trunc n0)
  | .cell k => if k < n0 then .ok (.cell k) (S.trunc n0) else match S.loc[k]? with
    | some .dead => .bad
    | some c => .ok (.cell n0) ((S.trunc n0).push c)
    | none => .bad
  | _ => .bad
def mkFn (cx : Cxx) (np ns : Nat) (b : Ss) : Fn := fun args S =>
  if args.length = np then (match exs cx S.loc.length b (args.map some ++ List.replicate (ns - np) none) S with
    | .nx _ S' => fin S.loc.length (.d .non) S'
    | .ret t S' => fin S.loc.length t S'
    | .exc c p _ S' => .exc c p (S'.trunc S.loc.length)
    | _ => .bad) else .bad
end Mn
set_option Elab.async false
set_option linter.all false
set_option maxRecDepth 100000
/-! Mn2: how values and stores of Mn1 stand in the abstract heap. -/
namespace Mn
open PySem PySem.Spec PyProof.Rows L2

/-- what is fixed: the written part, where a class stands -/
structure Fx where
  K : PySem.W.Frag
  cA : Nat → Addr
  ts : List Nat
  ex : Option (Addr × Nat × Option Addr) := none
def Fx.wx (fx : Fx) (e : Option (Addr × Nat × Option Addr)) : Fx := { fx with ex := e }
def tyName : Ty → Option String
  | .non => some "NoneType"
  | .bool => some "bool"
  | .int => some "int"
  | .str => some "str"
  | .lst => some "list"
  | .tup => some "tuple"
  | .dct => some "dict"
  | .ve => none
  | .cls _ => none
structure ClsG (fx : Fx) (c : Nat) : Prop where
  cl : Cls fx.K (fx.cA c)
  no : ∀ f ∈ flds c, NoAttr fx.K (fx.cA c) (fname f)
  ty1 : PySem.W.findIn fx.K (.ref (fx.cA c)) "__class__" = some (some (.builtin "object.__class__"))
  ty2 : PySem.W.specialIn fx.K (.builtin "object.__class__") "__get__" = some (some (.builtin "getset_descriptor.__get__"))
  ty3 : PySem.W.takesIn fx.K (.builtin "object.__class__") = some true
  ty4 : PySem.W.mroIn fx.K (fx.cA c) (.type "object") = some true
  is1 : ∀ k ∈ fx.ts, PySem.W.kitOne fx.K (.ref (fx.cA c)) (.ref (fx.cA k)) = some ((ups c).contains k)
  is2 : ∀ n ∈ ["bool", "int", "str", "list", "tuple", "dict"], PySem.W.kitOne fx.K (.ref (fx.cA c)) (.type n) = some false
def fnames (c : Nat) : List Str := (flds c).map fname
structure FldOk (c : Nat) (fvs : List (Str × V)) (vs : List V) : Prop where
  len : fvs.length = vs.length
  few : vs.length ≤ (flds c).length
  at_ : ∀ x, fvs.lookup x = ((fnames c).zip vs).lookup x
def WrL (K : PySem.W.Frag) (a : Addr) (xs : List V) : Prop :=
  ∃ (o : Obj) (its : Array Value) (n : Nat), K.lookup a = some o ∧ o.cls = .type "list" ∧ o.dict = none ∧ o.data = .seq its n ∧ its.size ≤ sizeLine ∧ Vals xs its.toList
def WrT (K : PySem.W.Frag) (a : Addr) (xs : List V) : Prop :=
  ∃ (o : Obj) (its : Array Value) (n : Nat), K.lookup a = some o ∧ o.cls = .type "tuple" ∧ o.data = .seq its n ∧ its.size ≤ sizeLine ∧ Vals xs its.toList
def FL (K : PySem.W.Frag) (F : Addr → Prop) (H : Hp) (a : Addr) (xs : List V) : Prop := (F a ∧ Rd H a (.lst xs)) ∨ WrL K a xs
def FT (K : PySem.W.Frag) (F : Addr → Prop) (H : Hp) (a : Addr) (xs : List V) : Prop := (F a ∧ Rd H a (.tup xs)) ∨ WrT K a xs
section
variable {K : PySem.W.Frag} {F F' : Addr → Prop} {H H' : Hp} {a : Addr} {xs : List V}
theorem FL.sq (h : FL K F H a xs) : SqL K H a xs := h.elim (fun z => .inl z.2) .inr
theorem FT.sq (h : FT K F H a xs) : SqT K H a xs := h.elim (fun z => .inl z.2) .inr
end
mutual
inductive RepD (fx : Fx) (F : Addr → Prop) (bs : List Addr) (H : Hp) : V → D → Prop where
  | non : RepD fx F bs H .non .non
  | bl (b : Bool) : RepD fx F bs H (.bl b) (.bl b)
  | int (i : Int) : RepD fx F bs H (.int i) (.int i)
  | str (x : Str) : RepD fx F bs H (.str x) (.str x)
  | tup {a : Addr} {vs : List V} {ds : List D} : FT fx.K F H a vs → RepDs fx F bs H vs ds → RepD fx F bs H (.ref a) (.tup ds)
  | lst {a : Addr} {vs : List V} {ds : List D} : F a → H a = some (.lst vs) → RepDs fx F bs H vs ds → RepD fx F bs H (.ref a) (.lst ds)
  | obj {a dx : Addr} {c : Nat} {fvs : List (Str × V)} {vs : List V} {fs : List D} : F a → H a = some (.ins (fx.cA c) dx fvs) → ClsG fx c → FldOk c fvs vs → RepDs fx F bs H vs fs → RepD fx F bs H (.ref a) (.obj c fs)
  | dct {a : Addr} {kvs : List (Key × V)} {vs : List V} {ks : List Key} {ds : List D} : F a → H a = some (.dK kvs) → kvs = ks.zip vs → ks.length = vs.length → RepDs fx F bs H vs ds → RepD fx F bs H (.ref a) (.dct ks ds)
  | gref {a : Addr} {k : Nat} : bs[k]? = some a → RepD fx F bs H (.ref a) (.gref k)
inductive RepDs (fx : Fx) (F : Addr → Prop) (bs : List Addr) (H : Hp) : List V → List D → Prop where
  | nil : RepDs fx F bs H [] []
  | cons {v : V} {vs : List V} {d : D} {ds : List D} : RepD fx F bs H v d → RepDs fx F bs H vs ds → RepDs fx F bs H (v :: vs) (d :: ds)
end
/-- a ghost: what never changes any more; where the cells stand -/
structure Gh where
  F : Addr → Prop
  P : Addr → Prop
  as : List Addr
  bs : List Addr
/-- the fields d of an exception of class c -/
def XRep (fx : Fx) (g : Gh) (H : Hp) (d : Option Addr) (c : Nat) (p : List D) : Prop :=
  c ∈ fx.ts ∧ 40 ≤ c ∧ ((p = [] ∧ d = none) ∨ ∃ dd fs vs, d = some dd ∧ g.F dd ∧ H dd = some (.xd fs) ∧ FldOk c fs vs ∧ RepDs fx g.F g.bs H vs p)
mutual
inductive RepT (fx : Fx) (g : Gh) (H : Hp) : V → T → Prop where
  | d {v : V} {x : D} : RepD fx g.F g.bs H v x → RepT fx g H v (.d x)
  | cell {a : Addr} {k : Nat} : g.as[k]? = some a → RepT fx g H (.ref a) (.cell k)
  | tup {a : Addr} {vs : List V} {ts : List T} : FT fx.K g.F H a vs → RepTs fx g H vs ts → RepT fx g H (.ref a) (.tup ts)
  | lst {a : Addr} {vs : List V} {ts : List T} : FL fx.K g.F H a vs → RepTs fx g H vs ts → RepT fx g H (.ref a) (.lst ts)
  | exc {a : Addr} {c : Nat} {d : Option Addr} {p : List D} : fx.ex = some (a, c, d) → XRep fx g H d c p → RepT fx g H (.ref a) (.exc c p)
inductive RepTs (fx : Fx) (g : Gh) (H : Hp) : List V → List T → Prop where
  | nil : RepTs fx g H [] []
  | cons {v : V} {vs : List V} {t : T} {ts : List T} : RepT fx g H v t → RepTs fx g H vs ts → RepTs fx g H (v :: vs) (t :: ts)
end
structure Grow (g g' : Gh) (H H' : Hp) : Prop where
  F : ∀ a, g.F a → g'.F a
  keep : ∀ a o, g.F a → H a = some o → H' a = some o
  P : g'.P = g.P
  kP : ∀ a o, g.P a → H a = some o → H' a = some o
  as : ∀ (k : Nat) (a : Addr), g.as[k]? = some a → g'.as[k]? = some a
  bs : ∀ (k : Nat) (a : Addr), g.bs[k]? = some a → g'.bs[k]? = some a
theorem Grow.refl (g : Gh) (H : Hp) : Grow g g H H := ⟨fun _ h => h, fun _ _ _ h => h, rfl, fun _ _ _ h => h, fun _ _ h => h, fun _ _ h => h⟩
theorem Grow.trans {g g1 g2 : Gh} {H H1 H2 : Hp} (a : Grow g g1 H H1) (b : Grow g1 g2 H1 H2) : Grow g g2 H H2 :=
  ⟨fun x h => b.F x (a.F x h), fun x o h e => b.keep x o (a.F x h) (a.keep x o h e), b.P.trans a.P, fun x o h e => b.kP x o (by rw [a.P]; exact h) (a.kP x o h e), fun k x h => b.as k x (a.as k x h), fun k x h => b.bs k x (a.bs k x h)⟩
section
variable {fx : Fx} {F F' : Addr → Prop} {bs bs' : List Addr} {H H' : Hp}
theorem FL.mono {K : PySem.W.Frag} (hF : ∀ a, F a → F' a) (hk : ∀ a o, F a → H a = some o → H' a = some o) {a : Addr} {xs : List V} (h : FL K F H a xs) : FL K F' H' a xs := by
  rcases h with ⟨h1, h2⟩ | h
  · refine .inl ⟨hF _ h1, ?_⟩
    rcases h2 with h2 | ⟨o, h2⟩
    · exact .inl (hk _ _ h1 h2)
    · exact .inr ⟨o, hk _ _ h1 h2⟩
  · exact .inr h
theorem FT.mono {K : PySem.W.Frag} (hF : ∀ a, F a → F' a) (hk : ∀ a o, F a → H a = some o → H' a = some o) {a : Addr} {xs : List V} (h : FT K F H a xs) : FT K F' H' a xs := by
  rcases h with ⟨h1, h2⟩ | h
  · refine .inl ⟨hF _ h1, ?_⟩
    rcases h2 with h2 | ⟨o, h2⟩
    · exact .inl (hk _ _ h1 h2)
    · exact .inr ⟨o, hk _ _ h1 h2⟩
  · exact .inr h
mutual
theorem RepD.mono (hF : ∀ a, F a → F' a) (hk : ∀ a o, F a → H a = some o → H' a = some o) (hb : ∀ (k : Nat) (a : Addr), bs[k]? = some a → bs'[k]? = some a) : ∀ {v : V} {d : D}, RepD fx F bs H v d → RepD fx F' bs' H' v d
  | _, _, .non => .non
  | _, _, .bl b => .bl b
  | _, _, .int i => .int i
  | _, _, .str x => .str x
  | _, _, .tup h r => .tup (h.mono hF hk) (RepDs.mono hF hk hb r)
  | _, _, .lst h e r => .lst (hF _ h) (hk _ _ h e) (RepDs.mono hF hk hb r)
  | _, _, .obj h e c f r => .obj (hF _ h) (hk _ _ h e) c f (RepDs.mono hF hk hb r)
  | _, _, .dct h e z l r => .dct (hF _ h) (hk _ _ h e) z l (RepDs.mono hF hk hb r)
  | _, _, .gref h => .gref (hb _ _ h)
theorem RepDs.mono (hF : ∀ a, F a → F' a) (hk : ∀ a o, F a → H a = some o → H' a = some o) (hb : ∀ (k : Nat) (a : Addr), bs[k]? = some a → bs'[k]? = some a) : ∀ {v : List V} {d : List D}, RepDs fx F bs H v d → RepDs fx F' bs' H' v d
  | _, _, .nil => .nil
  | _, _, .cons h r => .cons (RepD.mono hF hk hb h) (RepDs.mono hF hk hb r)
end
end
section
variable {fx : Fx} {g g' : Gh} {H H' : Hp}
theorem RepD.grow {v : V} {d : D} (w : Grow g g' H H') (r : RepD fx g.F g.bs H v d) : RepD fx g'.F g'.bs H' v d := r.mono w.F w.keep w.bs
theorem RepDs.grow {v : List V} {d : List D} (w : Grow g g' H H') (r : RepDs fx g.F g.bs H v d) : RepDs fx g'.F g'.bs H' v d := r.mono w.F w.keep w.bs
theorem XRep.grow {d : Option Addr} {c : Nat} {p : List D} (w : Grow g g' H H') (h : XRep fx g H d c p) : XRep fx g' H' d c p := by
  obtain ⟨h1, h2, h3⟩ := h
  refine ⟨h1, h2, ?_⟩
  rcases h3 with h3 | ⟨dd, fs, vs, e1, e2, e3, e4, e5⟩
  · exact .inl h3
  · exact .inr ⟨dd, fs, vs, e1, w.F _ e2, w.keep _ _ e2 e3, e4, e5.grow w⟩
mutual
theorem RepT.grow (w : Grow g g' H H') : ∀ {v : V} {t : T}, RepT fx g H v t → RepT fx g' H' v t
  | _, _, .d r => .d (r.grow w)
  | _, _, .cell h => .cell (w.as _ _ h)
  | _, _, .tup h r => .tup (h.mono w.F w.keep) (RepTs.grow w r)
  | _, _, .lst h r => .lst (h.mono w.F w.keep) (RepTs.grow w r)
  | _, _, .exc h r => .exc h (r.grow w)
theorem RepTs.grow (w : Grow g g' H H') : ∀ {v : List V} {t : List T}, RepTs fx g H v t → RepTs fx g' H' v t
  | _, _, .nil => .nil
  | _, _, .cons h r => .cons (RepT.grow w h) (RepTs.grow w r)
end
theorem RepDs.length {F : Addr → Prop} {bs : List Addr} : ∀ {vs : List V} {ds : List D}, RepDs fx F bs H vs ds → vs.length = ds.length
  | _, _, .nil => rfl
  | _, _, .cons _ r => by simp [RepDs.length r]
theorem RepTs.length : ∀ {vs : List V} {ds : List T}, RepTs fx g H vs ds → vs.length = ds.length
  | _, _, .nil => rfl
  | _, _, .cons _ r => by simp [RepTs.length r]
theorem RepDs.get {F : Addr → Prop} {bs : List Addr} : ∀ {vs : List V} {ds : List D}, RepDs fx F bs H vs ds → ∀ {i : Nat} {d : D}, ds[i]? = some d → ∃ v, vs[i]? = some v ∧ RepD fx F bs H v d
  | _, _, .nil, _, _, e => by simp at e
  | _, _, .cons h r, 0, _, e => by simp at e; subst e; exact ⟨_, rfl, h⟩
  | _, _, .cons h r, i + 1, _, e => by
    obtain ⟨v, h1, h2⟩ := RepDs.get r (i := i) (by simpa using e)
    exact ⟨v, by simpa using h1, h2⟩
theorem RepTs.get : ∀ {vs : List V} {ds : List T}, RepTs fx g H vs ds → ∀ {i : Nat} {d : T}, ds[i]? = some d → ∃ v, vs[i]? = some v ∧ RepT fx g H v d
  | _, _, .nil, _, _, e => by simp at e
  | _, _, .cons h r, 0, _, e => by simp at e; subst e; exact ⟨_, rfl, h⟩
  | _, _, .cons h r, i + 1, _, e => by
    obtain ⟨v, h1, h2⟩ := RepTs.get r (i := i) (by simpa using e)
    exact ⟨v, by simpa using h1, h2⟩
theorem RepDs.append {F : Addr → Prop} {bs : List Addr} {ws : List V} {es : List D} (q : RepDs fx F bs H ws es) : ∀ {vs : List V} {ds : List D}, RepDs fx F bs H vs ds → RepDs fx F bs H (vs ++ ws) (ds ++ es)
  | _, _, .nil => q
  | _, _, .cons h r => .cons h (RepDs.append q r)
theorem RepTs.append {ws : List V} {es : List T} (q : RepTs fx g H ws es) : ∀ {vs : List V} {ds : List T}, RepTs fx g H vs ds → RepTs fx g H (vs ++ ws) (ds ++ es)
  | _, _, .nil => q
  | _, _, .cons h r => .cons h (RepTs.append q r)
theorem RepDs.set {F : Addr → Prop} {bs : List Addr} {v : V} {d : D} (q : RepD fx F bs H v d) : ∀ {vs : List V} {ds : List D} (i : Nat), RepDs fx F bs H vs ds → RepDs fx F bs H (vs.set i v) (ds.set i d)
  | _, _, _, .nil => .nil
  | _, _, 0, .cons h r => .cons q r
  | _, _, i + 1, .cons h r => .cons h (RepDs.set q i r)
theorem RepDs.take {F : Addr → Prop} {bs : List Addr} : ∀ {vs : List V} {ds : List D} (i : Nat), RepDs fx F bs H vs ds → RepDs fx F bs H (vs.take i) (ds.take i)
  | _, _, 0, _ => .nil
  | _, _, i + 1, .nil => .nil
  | _, _, i + 1, .cons h r => .cons h (RepDs.take i r)
theorem RepDs.drop {F : Addr → Prop} {bs : List Addr} : ∀ {vs : List V} {ds : List D} (i : Nat), RepDs fx F bs H vs ds → RepDs fx F bs H (vs.drop i) (ds.drop i)
  | _, _, 0, r => r
  | _, _, i + 1, .nil => .nil
  | _, _, i + 1, .cons h r => RepDs.drop i r
theorem RepDs.erase {F : Addr → Prop} {bs : List Addr} : ∀ {vs : List V} {ds : List D} (i : Nat), RepDs fx F bs H vs ds → RepDs fx F bs H (vs.eraseIdx i) (ds.eraseIdx i)
  | _, _, 0, .nil => .nil
  | _, _, 0, .cons h r => r
  | _, _, i + 1, .nil => .nil
  | _, _, i + 1, .cons h r => .cons h (RepDs.erase i r)
theorem RepDs.rev {F : Addr → Prop} {bs : List Addr} : ∀ {vs : List V} {ds : List D}, RepDs fx F bs H vs ds → RepDs fx F bs H vs.reverse ds.reverse
  | _, _, .nil => .nil
  | _, _, .cons h r => by
    rw [List.reverse_cons, List.reverse_cons]
    exact RepDs.append (.cons h .nil) (RepDs.rev r)
theorem RepTs.rev : ∀ {vs : List V} {ds : List T}, RepTs fx g H vs ds → RepTs fx g H vs.reverse ds.reverse
  | _, _, .nil => .nil
  | _, _, .cons h r => by
    rw [List.reverse_cons, List.reverse_cons]
    exact RepTs.append (.cons h .nil) (RepTs.rev r)
theorem RepTs.ofDs : ∀ {vs : List V} {ds : List D}, RepDs fx g.F g.bs H vs ds → RepTs fx g H vs (ds.map .d)
  | _, _, .nil => .nil
  | _, _, .cons h r => .cons (.d h) (RepTs.ofDs r)
theorem RepTs.unDs : ∀ {vs : List V} {ts : List T} {ds : List D}, RepTs fx g H vs ts → Mn.unDs ts = some ds → RepDs fx g.F g.bs H vs ds
  | _, _, _, .nil, e => by simp [Mn.unDs] at e; subst e; exact .nil
  | _, _, _, .cons (.d h) r, e => by
    simp only [Mn.unDs] at e
    split at e
    · cases e; exact .cons h (RepTs.unDs r (by assumption))
    · cases e
  | _, _, _, .cons (.cell h) r, e => by simp [Mn.unDs] at e
  | _, _, _, .cons (.tup h q) r, e => by simp [Mn.unDs] at e
  | _, _, _, .cons (.lst h q) r, e => by simp [Mn.unDs] at e
  | _, _, _, .cons (.exc h q) r, e => by simp [Mn.unDs] at e
end

/-! ### cells -/
def CellAt (fx : Fx) (g : Gh) (H : Hp) (a : Addr) : Cell → Prop
  | .dead => H a ≠ none
  | .lst ds => ∃ vs, H a = some (.lst vs) ∧ RepDs fx g.F g.bs H vs ds
  | .dct ks ds => ∃ vs, H a = some (.dK (ks.zip vs)) ∧ ks.length = vs.length ∧ RepDs fx g.F g.bs H vs ds
  | .obj c fs => ∃ dx fvs vs, H a = some (.ins (fx.cA c) dx fvs) ∧ ClsG fx c ∧ FldOk c fvs vs ∧ RepDs fx g.F g.bs H vs fs
def Cell.live : Cell → Bool
  | .dead => false
  | _ => true
structure Rel (fx : Fx) (g : Gh) (S : Store) (H : Hp) : Prop where
  lL : g.as.length = S.loc.length
  lG : g.bs.length = S.glb.length
  cL : ∀ (k : Nat) (a : Addr) (c : Cell), g.as[k]? = some a → S.loc[k]? = some c → CellAt fx g H a c
  cG : ∀ (k : Nat) (a : Addr) (c : Cell), g.bs[k]? = some a → S.glb[k]? = some c → CellAt fx g H a c
  nd : (g.as ++ g.bs).Nodup
  nF : ∀ (k : Nat) (a : Addr) (c : Cell), g.as[k]? = some a → S.loc[k]? = some c → c.live = true → ¬ g.F a
  nG : ∀ a ∈ g.bs, ¬ g.F a
  fs : ∀ a, g.F a → H a ≠ none
  pv : ∀ a, g.P a → a ∉ g.as ∧ a ∉ g.bs ∧ ¬ g.F a ∧ H a ≠ none
theorem CellAt.some {fx : Fx} {g : Gh} {H : Hp} {a : Addr} : ∀ {c : Cell}, CellAt fx g H a c → H a ≠ none
  | .dead, h => h
  | .lst _, ⟨_, h, _⟩ => by rw [h]; simp
  | .dct _ _, ⟨_, h, _⟩ => by rw [h]; simp
  | .obj _ _, ⟨_, _, _, h, _⟩ => by rw [h]; simp
/-- from one heap to another: the object itself as it was -/
theorem CellAt.grow {fx : Fx} {g g' : Gh} {H H' : Hp} {a : Addr} (w : Grow g g' H H') (e : H' a = H a) : ∀ {c : Cell}, CellAt fx g H a c → CellAt fx g' H' a c
  | .dead, h => fun z => h (e.symm.trans z)
  | .lst _, ⟨vs, h, r⟩ => ⟨vs, e.trans h, r.grow w⟩
  | .dct _ _, ⟨vs, h, l, r⟩ => ⟨vs, e.trans h, l, r.grow w⟩
  | .obj _ _, ⟨dx, fvs, vs, h, c, f, r⟩ => ⟨dx, fvs, vs, e.trans h, c, f, r.grow w⟩
section
variable {fx : Fx} {g : Gh} {S : Store} {H : Hp} {p : Addr} {o : HO}
def Gh.addF (g : Gh) (p : Addr) : Gh := ⟨fun a => g.F a ∨ a = p, g.P, g.as, g.bs⟩
theorem Rel.asSome (r : Rel fx g S H) {a : Addr} (h : a ∈ g.as) : H a ≠ none := by
  obtain ⟨k, hk, e⟩ := List.getElem_of_mem h
  have h1 : g.as[k]? = some a := by rw [List.getElem?_eq_getElem hk, e]
  have h2 : k < S.loc.length := by rw [← r.lL]; exact hk
  exact (r.cL k a _ h1 (List.getElem?_eq_getElem h2)).some
theorem Rel.bsSome (r : Rel fx g S H) {a : Addr} (h : a ∈ g.bs) : H a ≠ none := by
  obtain ⟨k, hk, e⟩ := List.getElem_of_mem h
  have h1 : g.bs[k]? = some a := by rw [List.getElem?_eq_getElem hk, e]
  have h2 : k < S.glb.length := by rw [← r.lG]; exact hk
  exact (r.cG k a _ h1 (List.getElem?_eq_getElem h2)).some
theorem mem_of_get {α : Type} {l : List α} {k : Nat} {a : α} (h : l[k]? = some a) : a ∈ l := List.mem_of_getElem? h
theorem grow_new (r : Rel fx g S H) (hp : H p = none) : Grow g (g.addF p) H (upd H p o) :=
  ⟨fun _ h => .inl h, fun a u h e => by rw [upd_ne (ne_of_none e hp)]; exact e, rfl, fun a u h e => by rw [upd_ne (ne_of_none e hp)]; exact e, fun _ _ h => h, fun _ _ h => h⟩
/-- a new object that never changes -/
theorem Rel.newF (r : Rel fx g S H) (hp : H p = none) : Rel fx (g.addF p) S (upd H p o) := by
  have w := grow_new (o := o) r hp
  have ne : ∀ a, H a ≠ none → a ≠ p := fun a h z => h (z ▸ hp)
  refine ⟨r.lL, r.lG, fun k a c h1 h2 => ?_, fun k a c h1 h2 => ?_, r.nd, fun k a c h1 h2 h3 => ?_, fun a h => ?_, fun a h => ?_, fun a h => ?_⟩
  · exact (r.cL k a c h1 h2).grow w (upd_ne (ne a (r.cL k a c h1 h2).some))
  · exact (r.cG k a c h1 h2).grow w (upd_ne (ne a (r.cG k a c h1 h2).some))
  · rintro (h | h)
    · exact r.nF k a c h1 h2 h3 h
    · exact ne a (r.cL k a c h1 h2).some h
  · rintro (q | q)
    · exact r.nG a h q
    · exact ne a (r.bsSome h) q
  · rcases h with h | h
    · have n := r.fs a h
      rw [upd_ne (ne a n)]
      exact n
    · rw [h, upd_same]
      simp
  · obtain ⟨p1, p2, p3, p4⟩ := r.pv a h
    refine ⟨p1, p2, ?_, by rw [upd_ne (ne a p4)]; exact p4⟩
    rintro (q | q)
    · exact p3 q
    · exact ne a p4 q
def Gh.addL (g : Gh) (p : Addr) : Gh := ⟨g.F, g.P, g.as ++ [p], g.bs⟩
theorem grow_cell (r : Rel fx g S H) (hp : H p = none) : Grow g (g.addL p) H (upd H p o) :=
  ⟨fun _ h => h, fun a u h e => by rw [upd_ne (ne_of_none e hp)]; exact e, rfl, fun a u h e => by rw [upd_ne (ne_of_none e hp)]; exact e, fun k a h => by
    have := (List.getElem?_eq_some_iff.mp h).1
    show (g.as ++ [p])[k]? = some a
    rw [List.getElem?_append_left this]; exact h, fun _ _ h => h⟩
/-- a new cell -/
theorem Rel.newL {c : Cell} (r : Rel fx g S H) (hp : H p = none) (hc : CellAt fx (g.addL p) (upd H p o) p c) : Rel fx (g.addL p) (S.push c) (upd H p o) := by
  have w := grow_cell (o := o) r hp
  have ne : ∀ a, H a ≠ none → a ≠ p := fun a h z => h (z ▸ hp)
  have sp : ∀ (k : Nat) (a : Addr) (c' : Cell), (g.as ++ [p])[k]? = some a → (S.loc ++ [c])[k]? = some c' → (g.as[k]? = some a ∧ S.loc[k]? = some c') ∨ (k = S.loc.length ∧ a = p ∧ c' = c) := by
    intro k a c' h1 h2
    by_cases hk : k < g.as.length
    · rw [List.getElem?_append_left hk] at h1
      rw [List.getElem?_append_left (by rw [← r.lL]; exact hk)] at h2
      exact .inl ⟨h1, h2⟩
    · rw [List.getElem?_append_right (by omega)] at h1
      rw [List.getElem?_append_right (by rw [← r.lL]; omega)] at h2
      have hk' : k = g.as.length := by
        rcases Nat.lt_or_ge (k - g.as.length) 1 with z | z
        · omega
        · rw [List.getElem?_eq_none (by simpa using z)] at h1; cases h1
      subst hk'
      rw [r.lL] at h1 h2 ⊢
      simp at h1 h2
      exact .inr ⟨rfl, h1.symm, h2.symm⟩
  refine ⟨by simp [Gh.addL, Store.push, r.lL], r.lG, fun k a c' h1 h2 => ?_, fun k a c' h1 h2 => ?_, ?_, fun k a c' h1 h2 h3 => ?_, r.nG, fun a h => ?_, fun a h => ?_⟩
  · rcases sp k a c' h1 h2 with ⟨q1, q2⟩ | ⟨_, rfl, rfl⟩
    · exact (r.cL k a c' q1 q2).grow w (upd_ne (ne a (r.cL k a c' q1 q2).some))
    · exact hc
  · exact (r.cG k a c' h1 h2).grow w (upd_ne (ne a (r.cG k a c' h1 h2).some))
  · show ((g.as ++ [p]) ++ g.bs).Nodup
    have h0 := r.nd
    rw [List.append_assoc]
    rw [List.nodup_append] at h0 ⊢
    obtain ⟨n1, n2, n3⟩ := h0
    refine ⟨n1, ?_, ?_⟩
    · rw [List.singleton_append, List.nodup_cons]
      exact ⟨fun z => ne p (r.bsSome z) rfl, n2⟩
    · intro a ha b hb
      rw [List.singleton_append, List.mem_cons] at hb
      rcases hb with rfl | hb
      · exact ne a (r.asSome ha)
      · exact n3 a ha b hb
  · rcases sp k a c' h1 h2 with ⟨q1, q2⟩ | ⟨_, rfl, rfl⟩
    · exact r.nF k a c' q1 q2 h3
    · exact fun z => r.fs _ z hp
  · have n := r.fs a h
    rw [upd_ne (ne a n)]
    exact n
  · obtain ⟨p1, p2, p3, p4⟩ := r.pv a h
    refine ⟨fun z => ?_, p2, p3, by rw [upd_ne (ne a p4)]; exact p4⟩
    rcases List.mem_append.mp z with z | z
    · exact p1 z
    · exact ne a p4 (List.mem_singleton.mp z)
def Gh.addG (g : Gh) (p : Addr) : Gh := ⟨g.F, g.P, g.as, g.bs ++ [p]⟩
theorem grow_glb (r : Rel fx g S H) (hp : H p = none) : Grow g (g.addG p) H (upd H p o) :=
  ⟨fun _ h => h, fun a u h e => by rw [upd_ne (ne_of_none e hp)]; exact e, rfl, fun a u h e => by rw [upd_ne (ne_of_none e hp)]; exact e, fun _ _ h => h, fun k a h => by
    have := (List.getElem?_eq_some_iff.mp h).1
    show (g.bs ++ [p])[k]? = some a
    rw [List.getElem?_append_left this]; exact h⟩
theorem Rel.newG {c : Cell} (r : Rel fx g S H) (hp : H p = none) (hc : CellAt fx (g.addG p) (upd H p o) p c) : Rel fx (g.addG p) (S.pushG c) (upd H p o) := by
  have w := grow_glb (o := o) r hp
  have ne : ∀ a, H a ≠ none → a ≠ p := fun a h z => h (z ▸ hp)
  have sp : ∀ (k : Nat) (a : Addr) (c' : Cell), (g.bs ++ [p])[k]? = some a → (S.glb ++ [c])[k]? = some c' → (g.bs[k]? = some a ∧ S.glb[k]? = some c') ∨ (k = S.glb.length ∧ a = p ∧ c' = c) := by
    intro k a c' h1 h2
    by_cases hk : k < g.bs.length
    · rw [List.getElem?_append_left hk] at h1
      rw [List.getElem?_append_left (by rw [← r.lG]; exact hk)] at h2
      exact .inl ⟨h1, h2⟩
    · rw [List.getElem?_append_right (by omega)] at h1
      rw [List.getElem?_append_right (by rw [← r.lG]; omega)] at h2
      have hk' : k = g.bs.length := by
        rcases Nat.lt_or_ge (k - g.bs.length) 1 with z | z
        · omega
        · rw [List.getElem?_eq_none (by simpa using z)] at h1; cases h1
      subst hk'
      rw [r.lG] at h1 h2 ⊢
      simp at h1 h2
      exact .inr ⟨rfl, h1.symm, h2.symm⟩
  refine ⟨r.lL, by simp [Gh.addG, Store.pushG, r.lG], fun k a c' h1 h2 => ?_, fun k a c' h1 h2 => ?_, ?_, fun k a c' h1 h2 h3 => ?_, fun a h => ?_, fun a h => ?_, fun a h => ?_⟩
  · exact (r.cL k a c' h1 h2).grow w (upd_ne (ne a (r.cL k a c' h1 h2).some))
  · rcases sp k a c' h1 h2 with ⟨q1, q2⟩ | ⟨_, rfl, rfl⟩
    · exact (r.cG k a c' q1 q2).grow w (upd_ne (ne a (r.cG k a c' q1 q2).some))
    · exact hc
  · show (g.as ++ (g.bs ++ [p])).Nodup
    rw [← List.append_assoc, List.nodup_append]
    refine ⟨r.nd, by simp, fun a ha b hb => ?_⟩
    rw [List.mem_singleton] at hb
    subst hb
    rcases List.mem_append.mp ha with z | z
    · exact ne a (r.asSome z)
    · exact ne a (r.bsSome z)
  · exact r.nF k a c' h1 h2 h3
  · rcases List.mem_append.mp h with z | z
    · exact r.nG a z
    · rw [List.mem_singleton] at z
      subst z
      exact fun q => r.fs _ q hp
  · have n := r.fs a h
    rw [upd_ne (ne a n)]
    exact n
  · obtain ⟨p1, p2, p3, p4⟩ := r.pv a h
    refine ⟨p1, fun z => ?_, p3, by rw [upd_ne (ne a p4)]; exact p4⟩
    rcases List.mem_append.mp z with z | z
    · exact p2 z
    · exact ne a p4 (List.mem_singleton.mp z)
theorem nodup_get {α : Type} {l : List α} (h : l.Nodup) {i j : Nat} {a : α} (h1 : l[i]? = some a) (h2 : l[j]? = some a) : i = j := by
  obtain ⟨p, e⟩ := List.getElem?_eq_some_iff.mp h1
  obtain ⟨q, e'⟩ := List.getElem?_eq_some_iff.mp h2
  exact (List.getElem_inj (h₀ := p) (h₁ := q) h).mp (e.trans e'.symm)
/-- a cell of the frame changes -/
theorem Rel.setL {k : Nat} {c c' : Cell} (r : Rel fx g S H) (hk : g.as[k]? = some p) (hc : S.loc[k]? = some c) (hl : c.live = true) (h' : Grow g g H (upd H p o) → CellAt fx g (upd H p o) p c') : Grow g g H (upd H p o) ∧ Rel fx g (S.setL k c') (upd H p o) := by
  have nF := r.nF k p c hk hc hl
  have nP : ¬ g.P p := fun z => (r.pv p z).1 (mem_of_get hk)
  have w : Grow g g H (upd H p o) := ⟨fun _ h => h, fun a u h e => by rw [upd_ne (fun z => nF (by rw [← z]; exact h))]; exact e, rfl, fun a u h e => by rw [upd_ne (fun z => nP (by rw [← z]; exact h))]; exact e, fun _ _ h => h, fun _ _ h => h⟩
  have hkl := (List.getElem?_eq_some_iff.mp hc).1
  refine ⟨w, by simp [Store.setL, r.lL], r.lG, fun j a d h1 h2 => ?_, fun j a d h1 h2 => ?_, r.nd, fun j a d h1 h2 h3 => ?_, r.nG, fun a h => ?_, fun a h => ?_⟩
  · by_cases e : j = k
    · subst e
      rw [hk] at h1; cases h1
      have h2' : (S.loc.set j c')[j]? = some d := h2
      rw [List.getElem?_set_self hkl] at h2'
      cases h2'
      exact h' w
    · have h2' : (S.loc.set k c')[j]? = some d := h2
      rw [List.getElem?_set_ne (Ne.symm e)] at h2'
      have q := r.cL j a d h1 h2'
      have na : a ≠ p := fun z => by
        subst z
        have := nodup_get (List.nodup_append.mp r.nd).1 h1 hk
        exact e this
      exact q.grow w (upd_ne na)
  · have na : a ≠ p := fun z => by
      subst z
      exact (List.nodup_append.mp r.nd).2.2 a (mem_of_get hk) a (mem_of_get h1) rfl
    exact (r.cG j a d h1 h2).grow w (upd_ne na)
  · by_cases e : j = k
    · subst e
      rw [hk] at h1; cases h1
      exact nF
    · have h2' : (S.loc.set k c')[j]? = some d := h2
      rw [List.getElem?_set_ne (Ne.symm e)] at h2'
      exact r.nF j a d h1 h2' h3
  · have n := r.fs a h
    rw [upd_ne (fun z => nF (by rw [← z]; exact h))]
    exact n
  · obtain ⟨p1, p2, p3, p4⟩ := r.pv a h
    exact ⟨p1, p2, p3, by rw [upd_ne (fun z => nP (by rw [← z]; exact h))]; exact p4⟩
theorem Rel.setG {k : Nat} {c c' : Cell} (r : Rel fx g S H) (hk : g.bs[k]? = some p) (hc : S.glb[k]? = some c) (h' : Grow g g H (upd H p o) → CellAt fx g (upd H p o) p c') : Grow g g H (upd H p o) ∧ Rel fx g (S.setG k c') (upd H p o) := by
  have nF := r.nG p (mem_of_get hk)
  have nP : ¬ g.P p := fun z => (r.pv p z).2.1 (mem_of_get hk)
  have w : Grow g g H (upd H p o) := ⟨fun _ h => h, fun a u h e => by rw [upd_ne (fun z => nF (by rw [← z]; exact h))]; exact e, rfl, fun a u h e => by rw [upd_ne (fun z => nP (by rw [← z]; exact h))]; exact e, fun _ _ h => h, fun _ _ h => h⟩
  have hkl := (List.getElem?_eq_some_iff.mp hc).1
  refine ⟨w, r.lL, by simp [Store.setG, r.lG], fun j a d h1 h2 => ?_, fun j a d h1 h2 => ?_, r.nd, r.nF, r.nG, fun a h => ?_, fun a h => ?_⟩
  · have na : a ≠ p := fun z => by
      subst z
      exact (List.nodup_append.mp r.nd).2.2 a (mem_of_get h1) a (mem_of_get hk) rfl
    exact (r.cL j a d h1 h2).grow w (upd_ne na)
  · by_cases e : j = k
    · subst e
      rw [hk] at h1; cases h1
      have h2' : (S.glb.set j c')[j]? = some d := h2
      rw [List.getElem?_set_self hkl] at h2'
      cases h2'
      exact h' w
    · have h2' : (S.glb.set k c')[j]? = some d := h2
      rw [List.getElem?_set_ne (Ne.symm e)] at h2'
      have q := r.cG j a d h1 h2'
      have na : a ≠ p := fun z => by
        subst z
        have := nodup_get (List.nodup_append.mp r.nd).2.1 h1 hk
        exact e this
      exact q.grow w (upd_ne na)
  · have n := r.fs a h
    rw [upd_ne (fun z => nF (by rw [← z]; exact h))]
    exact n
  · obtain ⟨p1, p2, p3, p4⟩ := r.pv a h
    exact ⟨p1, p2, p3, by rw [upd_ne (fun z => nP (by rw [← z]; exact h))]; exact p4⟩
/-- a private object changes -/
theorem Rel.setP (r : Rel fx g S H) (hk : g.P p) : (∀ a o', g.F a → H a = some o' → upd H p o a = some o') ∧ Rel fx g S (upd H p o) := by
  obtain ⟨p1, p2, p3, p4⟩ := r.pv p hk
  have nF : ∀ a, g.F a → a ≠ p := fun a h z => p3 (z ▸ h)
  have hkeep : ∀ a o', g.F a → H a = some o' → upd H p o a = some o' := fun a u h e => by rw [upd_ne (nF a h)]; exact e
  have cell : ∀ {a : Addr} {c : Cell}, a ≠ p → CellAt fx g H a c → CellAt fx g (upd H p o) a c := fun {a c} na h => by
    have e : upd H p o a = H a := upd_ne na
    cases c with
    | dead => exact fun z => h (e.symm.trans z)
    | lst ds => obtain ⟨vs, e', q⟩ := h; exact ⟨vs, e.trans e', q.mono (fun _ h => h) hkeep fun _ _ z => z⟩
    | dct ks ds => obtain ⟨vs, e', l, q⟩ := h; exact ⟨vs, e.trans e', l, q.mono (fun _ h => h) hkeep fun _ _ z => z⟩
    | obj c fs => obtain ⟨dx, fvs, vs, e', c1, f, q⟩ := h; exact ⟨dx, fvs, vs, e.trans e', c1, f, q.mono (fun _ h => h) hkeep fun _ _ z => z⟩
  have nL : ∀ (k : Nat) (a : Addr), g.as[k]? = some a → a ≠ p := fun k a h z => p1 (z ▸ mem_of_get h)
  have nG : ∀ (k : Nat) (a : Addr), g.bs[k]? = some a → a ≠ p := fun k a h z => p2 (z ▸ mem_of_get h)
  refine ⟨hkeep, r.lL, r.lG, fun k a c h1 h2 => cell (nL k a h1) (r.cL k a c h1 h2), fun k a c h1 h2 => cell (nG k a h1) (r.cG k a c h1 h2), r.nd, r.nF, r.nG, fun a h => ?_, fun a h => ?_⟩
  · rw [upd_ne (nF a h)]; exact r.fs a h
  · obtain ⟨q1, q2, q3, q4⟩ := r.pv a h
    refine ⟨q1, q2, q3, ?_⟩
    by_cases e : a = p
    · rw [e, upd_same]; simp
    · rw [upd_ne e]; exact q4
/-- the last cell goes to those that stay -/
def Gh.toG (g : Gh) (k : Nat) (a : Addr) : Gh := ⟨g.F, g.P, g.as.take k, g.bs ++ [a]⟩
theorem bs_app {l : List Addr} {k : Nat} {a b : Addr} (h : l[k]? = some a) : (l ++ [b])[k]? = some a := by
  have := (List.getElem?_eq_some_iff.mp h).1
  rw [List.getElem?_append_left this]
  exact h
theorem CellAt.toG {k : Nat} {p a : Addr} : ∀ {c : Cell}, CellAt fx g H a c → CellAt fx (g.toG k p) H a c
  | .dead, h => h
  | .lst _, ⟨vs, e, q⟩ => ⟨vs, e, q.mono (fun _ z => z) (fun _ _ _ z => z) fun _ _ z => bs_app z⟩
  | .dct _ _, ⟨vs, e, l, q⟩ => ⟨vs, e, l, q.mono (fun _ z => z) (fun _ _ _ z => z) fun _ _ z => bs_app z⟩
  | .obj _ _, ⟨dx, fvs, vs, e, c1, f, q⟩ => ⟨dx, fvs, vs, e, c1, f, q.mono (fun _ z => z) (fun _ _ _ z => z) fun _ _ z => bs_app z⟩
theorem Rel.toG {k : Nat} {a : Addr} {c : Cell} (r : Rel fx g S H) (ha : g.as[k]? = some a) (hk : k + 1 = S.loc.length) (hc : S.loc[k]? = some c) (hl : c.live = true) : Rel fx (g.toG k a) ((S.trunc k).pushG c) H := by
  have ek : g.as = g.as.take k ++ [a] := by
    have h1 : g.as.length = k + 1 := by rw [r.lL, hk]
    have h2 : g.as.take (k + 1) = g.as := List.take_of_length_le (by omega)
    have h3 := List.take_succ (l := g.as) (i := k)
    rw [ha] at h3
    rw [h2] at h3
    exact h3
  have am : a ∈ g.as := mem_of_get ha
  have tk : ∀ {α : Type} {l : List α} {j : Nat} {x : α}, (l.take k)[j]? = some x → l[j]? = some x ∧ j < k := fun {α l j x} h => by
    rw [List.getElem?_take] at h
    split at h
    · exact ⟨h, by assumption⟩
    · cases h
  have nd := r.nd
  have sp : ∀ (j : Nat) (b : Addr) (d : Cell), (g.bs ++ [a])[j]? = some b → (S.glb ++ [c])[j]? = some d → (g.bs[j]? = some b ∧ S.glb[j]? = some d) ∨ (b = a ∧ d = c) := by
    intro j b d h1 h2
    by_cases hj : j < g.bs.length
    · rw [List.getElem?_append_left hj] at h1
      rw [List.getElem?_append_left (by rw [← r.lG]; exact hj)] at h2
      exact .inl ⟨h1, h2⟩
    · rw [List.getElem?_append_right (by omega)] at h1
      rw [List.getElem?_append_right (by rw [← r.lG]; omega)] at h2
      have e1 := List.mem_of_getElem? h1
      have e2 := List.mem_of_getElem? h2
      rw [List.mem_singleton] at e1 e2
      exact .inr ⟨e1, e2⟩
  refine ⟨?_, ?_, fun j b d h1 h2 => (r.cL j b d (tk h1).1 (tk h2).1).toG, fun j b d h1 h2 => ?_, ?_, fun j b d h1 h2 h3 => r.nF j b d (tk h1).1 (tk h2).1 h3, fun b h => ?_, r.fs, fun b h => ?_⟩
  · show (g.as.take k).length = (S.loc.take k).length
    rw [List.length_take, List.length_take, r.lL]
  · show (g.bs ++ [a]).length = (S.glb ++ [c]).length
    rw [List.length_append, List.length_append, r.lG]
    rfl
  · rcases sp j b d h1 h2 with ⟨q1, q2⟩ | ⟨rfl, rfl⟩
    · exact (r.cG j b d q1 q2).toG
    · exact (r.cL k b d ha hc).toG
  · show (g.as.take k ++ (g.bs ++ [a])).Nodup
    rw [ek] at nd
    have p : (g.as.take k ++ [a] ++ g.bs).Perm (g.as.take k ++ (g.bs ++ [a])) := by
      rw [List.append_assoc]
      exact List.Perm.append_left _ List.perm_append_comm
    exact p.nodup_iff.mp nd
  · rcases List.mem_append.mp h with z | z
    · exact r.nG b z
    · rw [List.mem_singleton] at z
      subst z
      exact r.nF k b c ha hc hl
  · obtain ⟨p1, p2, p3, p4⟩ := r.pv b h
    refine ⟨fun z => p1 (List.mem_of_mem_take z), fun z => ?_, p3, p4⟩
    rcases List.mem_append.mp z with z | z
    · exact p2 z
    · rw [List.mem_singleton] at z
      subst z
      exact p1 am
theorem Grow.toG {k : Nat} {a : Addr} {g1 : Gh} {H1 : Hp} (w : Grow g g1 H H1) (h : g.as.length ≤ k) : Grow g (g1.toG k a) H H1 :=
  ⟨w.F, w.keep, w.P, w.kP, fun j b e => by
    have hj := (List.getElem?_eq_some_iff.mp e).1
    show (g1.as.take k)[j]? = some b
    rw [List.getElem?_take_of_lt (by omega)]
    exact w.as j b e, fun j b e => bs_app (w.bs j b e)⟩
/-- another private set -/
def Gh.setPv (g : Gh) (P : Addr → Prop) : Gh := ⟨g.F, P, g.as, g.bs⟩
theorem CellAt.pv {P : Addr → Prop} {a : Addr} : ∀ {c : Cell}, CellAt fx g H a c → CellAt fx (g.setPv P) H a c
  | .dead, h => h
  | .lst _, h => h
  | .dct _ _, h => h
  | .obj _ _, h => h
mutual
theorem RepT.pv {P : Addr → Prop} : ∀ {v : V} {t : T}, RepT fx g H v t → RepT fx (g.setPv P) H v t
  | _, _, .d h => .d h
  | _, _, .cell h => .cell h
  | _, _, .tup h r => .tup h (RepTs.pv r)
  | _, _, .lst h r => .lst h (RepTs.pv r)
  | _, _, .exc h r => .exc h r
theorem RepTs.pv {P : Addr → Prop} : ∀ {v : List V} {t : List T}, RepTs fx g H v t → RepTs fx (g.setPv P) H v t
  | _, _, .nil => .nil
  | _, _, .cons h r => .cons (RepT.pv h) (RepTs.pv r)
end
theorem Rel.setPv (r : Rel fx g S H) {P : Addr → Prop} (h : ∀ a, P a → a ∉ g.as ∧ a ∉ g.bs ∧ ¬ g.F a ∧ H a ≠ none) : Rel fx (g.setPv P) S H :=
  ⟨r.lL, r.lG, fun k a c h1 h2 => (r.cL k a c h1 h2).pv, fun k a c h1 h2 => (r.cG k a c h1 h2).pv, r.nd, r.nF, r.nG, r.fs, h⟩
/-- the cells from n on become trees -/
def Gh.cutF (g : Gh) (n : Nat) : Gh := ⟨fun a => g.F a ∨ a ∈ g.as.drop n, g.P, g.as.take n, g.bs⟩
theorem Rel.cut (r : Rel fx g S H) (n : Nat) : Rel fx (g.cutF n) (S.trunc n) H := by
  have wF : ∀ a, g.F a → (g.cutF n).F a := fun _ h => .inl h
  have cell : ∀ {a : Addr} {c : Cell}, CellAt fx g H a c → CellAt fx (g.cutF n) H a c := fun {a c} h => by
    cases c with
    | dead => exact h
    | lst ds => obtain ⟨vs, e, q⟩ := h; exact ⟨vs, e, q.mono wF (fun _ _ _ z => z) fun _ _ z => z⟩
    | dct ks ds => obtain ⟨vs, e, l, q⟩ := h; exact ⟨vs, e, l, q.mono wF (fun _ _ _ z => z) fun _ _ z => z⟩
    | obj c fs => obtain ⟨dx, fvs, vs, e, c1, f, q⟩ := h; exact ⟨dx, fvs, vs, e, c1, f, q.mono wF (fun _ _ _ z => z) fun _ _ z => z⟩
  have nd := r.nd
  rw [List.nodup_append] at nd
  obtain ⟨n1, n2, n3⟩ := nd
  have tk : ∀ {α : Type} {l : List α} {k : Nat} {a : α}, (l.take n)[k]? = some a → l[k]? = some a ∧ k < n := fun {α l k a} h => by
    rw [List.getElem?_take] at h
    split at h
    · exact ⟨h, by assumption⟩
    · cases h
  refine ⟨by simp [Gh.cutF, Store.trunc, r.lL], r.lG, fun k a c h1 h2 => cell (r.cL k a c (tk h1).1 (tk h2).1), fun k a c h1 h2 => cell (r.cG k a c h1 h2), ?_, fun k a c h1 h2 h3 => ?_, fun a h => ?_, fun a h => ?_, fun a h => ?_⟩
  · show (g.as.take n ++ g.bs).Nodup
    rw [List.nodup_append]
    exact ⟨n1.sublist (List.take_sublist n g.as), n2, fun a ha b hb => n3 a (List.mem_of_mem_take ha) b hb⟩
  · rintro (z | z)
    · exact r.nF k a c (tk h1).1 (tk h2).1 h3 z
    · obtain ⟨j, hj⟩ := List.mem_iff_getElem?.mp z
      rw [List.getElem?_drop] at hj
      have := nodup_get n1 (tk h1).1 hj
      have := (tk h1).2
      omega
  · rintro (z | z)
    · exact r.nG a h z
    · exact n3 a (List.mem_of_mem_drop z) a h rfl
  · rcases h with z | z
    · exact r.fs a z
    · exact r.asSome (List.mem_of_mem_drop z)
  · obtain ⟨p1, p2, p3, p4⟩ := r.pv a h
    refine ⟨fun z => p1 (List.mem_of_mem_take z), p2, ?_, p4⟩
    rintro (q | q)
    · exact p3 q
    · exact p1 (List.mem_of_mem_drop q)
end
end Mn
set_option Elab.async false
set_option linter.all false
set_option maxRecDepth 100000
set_option maxHeartbeats 4000000
/-! MnR: rules the kit has not: a class without __init__ made, Base.m(self, ..), try with any clauses, what an exception is asked. -/
namespace Mn
open PySem PySem.Spec PyProof.Rows
open L2 hiding Takes XE CX takes_of passes_call passAt PMk ps_raise ps_try_as ps_try_many HdsOk pmk_own MkP mk_of Sky.land

/-! ### a class without __init__ -/
theorem mk0_runs {X : Cx} {pins : List (Addr × Obj)} {σ : L2.St} {H : Hp} {s : Shared} {Q : VK} {C : Addr} (mk : PySem.W.makesIn X.K C = true) (ini : PySem.W.findIn X.K (.ref C) "__init__" = some (some (.builtin "object.__init__")))
    (I : Inv X pins σ H s) (h : ∀ x dx, H x = none → H dx = none → dx ≠ x → Q (.ref x) (upd (upd H dx (.own x)) x (.ins C dx []))) : wpAny (model X.prog X.w) X.A (call (.ref C) []) (EP X pins σ Q) X.xe s := by
  have hs := h (s.heap.objs.size + 1) s.heap.objs.size (I.hok.fresh (Nat.le_succ _)) (I.hok.fresh (Nat.le_refl _)) (Nat.ne_of_lt (Nat.lt_succ_self _))
  have J := Inv.made (C := C) I
  have Y := PySem.W.makes_of (M := model X.prog X.w) I.kIn mk
  refine wpAny_call (PySem.W.make_core Y (PySem.W.looks_findIn I.kIn ini) (fun self => PySem.W.Looks.of_pure (PySem.W.oi_bind self)) (.inr ⟨rfl, rfl⟩) ?_)
  obtain ⟨hp, gs, dr, tk, os⟩ := s
  have e2 : ((hp.push PySem.W.emptyDict).push (PySem.W.instObj C hp.objs.size)).get? (hp.objs.size + 1) = some (PySem.W.instObj C hp.objs.size) := by
    have q := Heap.get?_push_size (hp.push PySem.W.emptyDict) (o := PySem.W.instObj C hp.objs.size) rfl
    rwa [Heap.size_push] at q
  have t1 : PySem.W.Looks (model X.prog X.w) ((hp.push PySem.W.emptyDict).push (PySem.W.instObj C hp.objs.size)) (typeOf (.ref (hp.objs.size + 1))) (.ref C) := (PySem.W.Looks.ld e2).andThen .now
  have t2 : PySem.W.Looks (model X.prog X.w) ((hp.push PySem.W.emptyDict).push (PySem.W.instObj C hp.objs.size)) (isInstance (.ref (hp.objs.size + 1)) (.type "object")) true :=
    t1.andThen (Y.top.keeps fun b o e => Heap.get?_push_of_some _ (Heap.get?_push_of_some _ e))
  refine codeAny_call_builtin PySem.W.oi_plain PySem.W.entry_oi (@PySem.W.check_slot (model X.prog X.w) _ _ _ "object.__init__" "object" "__init__" (.ref (hp.objs.size + 1)) [] [] _ PySem.W.oi_kind PySem.W.oi_split t2 (PySem.W.oi_args (.ref (hp.objs.size + 1))) ?_)
  rw [PySem.W.oi_run]
  exact wpAny_pure (And.intro rfl ⟨V.ref (hp.objs.size + 1), _, J, rfl, hs⟩)

/-! ### Base.m(self, ..) -/
/-- what the text says of C.m, a def at f -/
structure UpC (K : PySem.W.Frag) (C : Addr) (m : Str) (f : Addr) : Prop where
  rd : ClX.CRead K C (.type "type")
  at_ : PySem.W.findCls K (.ref C) (.type "type") m = some (.val (.ref f))
  kp : PySem.W.keepIn K (.ref f) = true
theorem up_get {X : Cx} {pins : List (Addr × Obj)} {σ : L2.St} {H : Hp} {s : Shared} {C f : Addr} {m : Str} {A : Around} {E : Value → Shared → Prop} {pl : Sem Bool} {Q : Value × List Value → Shared → Prop} (I : Inv X pins σ H s) (u : UpC X.K C m f)
    (h : ∀ s', Inv X pins σ H s' → Q (.ref f, []) s') : wpAny (model X.prog X.w) A (getMethod (.ref C) m pl) Q E s :=
  PySem.W.method_cls I.kIn u.rd.ga (PySem.W.cls_value I.kIn u.rd.rd u.at_ rfl (h _ (I.tok _)))

/-! ### try with any clauses -/
/-- what behind a suite 'as n' is meant: the slot is empty -/
def Ends.del (D : Ends) (i : Nat) : Ends := { nx := fun σ H => D.nx (σ.set i none) H, rt := D.rt, bk := fun σ H => D.bk (σ.set i none) H, ct := fun σ H => D.ct (σ.set i none) H }
abbrev Hnd := Value × Option Nat × (Addr → Value → Option Addr → TS)
def wHd (K : PySem.W.Frag) (Wo : WX) (D : Ends) : List Hnd → WX
  | [] => Wo
  | (c, o, ts) :: r => fun cls d σ H => ∃ b, PySem.W.exmOne K cls c = some b ∧
      (b = true → ∀ a, H a = none → match o with
        | none => ts a cls d D σ H
        | some i => ts a cls d (Ends.del D i) (σ.set i (some (.ref a))) H) ∧
      (b = false → wHd K Wo D r cls d σ H)
/-- a suite's reading, at whatever exception stands -/
def SuOk (X : Cx) (b : List Stmt) (ts : Addr → Value → Option Addr → TS) : Prop :=
  ∀ (a : Addr) (oe : Obj) (cls : Value) (d : Option Addr) (pn : List (Addr × Obj)), L2N.Zn cls d oe → (∃ vs, oe.data = .fields vs) → PSs (X.suite a ((a, oe) :: pn)) b (ts a cls d)
inductive HndOk (X : Cx) : List ExceptHandler → List Hnd → Prop
  | nil : HndOk X [] []
  | bare {x : Str} {c : Value} {ts : Addr → Value → Option Addr → TS} {b0 : Stmt} {bs : List Stmt} {p q : Pos} {hds : List ExceptHandler} {l : List Hnd} (nm : Names X x c) (su : SuOk X (b0 :: bs) ts) (r : HndOk X hds l) :
      HndOk X (.ExceptHandler (some (.Name x p)) none (b0 :: bs) q :: hds) ((c, none, ts) :: l)
  | as {x n : Str} {i : Nat} {c : Value} {ts : Addr → Value → Option Addr → TS} {b0 : Stmt} {bs : List Stmt} {p q : Pos} {hds : List ExceptHandler} {l : List Hnd} (nm : Names X x c) (hi : X.N[i]? = some n) (hl : X.env.kindOf n = some .local) (su : SuOk X (b0 :: bs) ts) (r : HndOk X hds l) :
      HndOk X (.ExceptHandler (some (.Name x p)) (some n) (b0 :: bs) q :: hds) ((c, some i, ts) :: l)
theorem ps_tryG {X : Cx} {body els : List Stmt} {h0 : ExceptHandler} {hds : List ExceptHandler} {l : List Hnd} {pos : Pos} {tb : WX → TS} {te : TS} {Wo : WX} (hs : X.stack = X.env :: X.outer) (hf : X.env.frame = some X.env.locals) (hN : X.N.Nodup) (tk : L2N.Takes X Wo)
    (hb : ∀ (W : WX) (pn : List (Addr × Obj)) (xe : Value → Shared → Prop), L2N.Takes (X.tr pn xe) W → PassesOwn (model X.prog X.w) X.A X.env xe → PSs (X.tr pn xe) body (tb W)) (he : PSs X els te)
    (hh : HndOk X (h0 :: hds) l) : PS X (.Try body (h0 :: hds) els [] pos) (fun D σ H => tb (wHd X.K Wo D l) { D with nx := te D } σ H) := by
  refine ⟨fun pins s σ H D I h => ?_⟩
  have ok := I.ok
  have frs' : X.A.frames = some (X.env :: X.outer) := by rw [ok.frames, hs]
  refine wpAny_Try_except ?_
  have run := (hb (wHd X.K Wo D l) (X.pn ++ pins) (fun e s1 => wpAny (model X.prog X.w) X.A (noteFrame e X.env) (fun _ s2 => wpAny (model X.prog X.w) X.A (setFlight e none) (fun _ s3 => wpAny (model X.prog X.w) X.A (handleBy e X.env (h0 :: hds)) (SP X pins D) X.xe s3) X.xe s2) X.xe s1) ?_ PassesOwn.looking).run [] s σ H { D with nx := te D } (I.toTry _) h
  · refine wpAny_mono run (fun fl s1 out => ?_) fun _ _ z => z
    cases fl with
    | next =>
      obtain ⟨σ1, H1, J, q⟩ := out
      exact he.run pins s1 σ1 H1 D (J.ofTry ok) q
    | brk =>
      obtain ⟨σ1, H1, J, q⟩ := out
      exact ⟨σ1, H1, J.ofTry ok, q⟩
    | cont =>
      obtain ⟨σ1, H1, J, q⟩ := out
      exact ⟨σ1, H1, J.ofTry ok, q⟩
    | ret u =>
      obtain ⟨v1, σ1, H1, J, rv, q⟩ := out
      exact ⟨v1, σ1, H1, J.ofTry ok, rv, q⟩
  · intro u s1 caught
    obtain ⟨a, B, sI, pins1, σ1, H1, cls, d, rfl, J1, nb, up, sky, na, os, ag, w⟩ := caught
    have J : Inv X pins σ1 H1 sI := J1.ofTry ok
    have sky1 : L2.Sky B (X.env :: X.outer) a (L2N.Zn cls d) X.env.locals s1.heap := by rw [← hs]; exact sky
    show wpAny (model X.prog X.w) X.A (noteFrame (.ref a) X.env) _ _ _
    refine L2N.Sky.land L2N.Zn.steady frs' hf sky1 fun h2 fly2 up2 => ?_
    have J2 : Inv X pins σ1 H1 { s1 with heap := h2 } := J.landed nb fly2.1 (up.trans up2) os ag
    obtain ⟨o2, v2, g2, z2, d2⟩ := fly2.there
    have nofr : a ∉ frs (X.env :: X.outer) := fun hm => by
      obtain ⟨_, o', e', hnf⟩ := fly2.2.2.1.mem hm
      rw [g2] at e'
      cases e'
      exact hnf _ d2
    have nL : a ≠ X.env.locals := fun z => nofr (List.mem_filterMap.mpr ⟨X.env, List.mem_cons_self, by rw [hf, z]⟩)
    have nF : a ∉ X.fs := fun hm => by
      obtain ⟨v, hv, q⟩ := List.mem_filterMap.mp hm
      exact nofr (List.mem_filterMap.mpr ⟨v, List.mem_cons_of_mem _ hv, q⟩)
    have su2 := J2.suite g2 d2 na nL nF
    have test : ∀ {x : Str} {p : Pos} {c : Value} {Q E : Value → Shared → Prop}, Names X x c → Q c { s1 with heap := h2 } → wpAny (model X.prog X.w) (X.A.mark (some (.ref a))) (eval (.Name x p) X.env) Q E { s1 with heap := h2 } := fun {x p c Q E} nm q => by
      obtain ⟨hg, hd, hm | ⟨hm, hv, hn⟩⟩ := nm
      · exact ld_glob (X := X.suite a ((a, o2) :: (X.pn ++ pins))) su2 hg hm q hd
      · exact ld_blt (X := X.suite a ((a, o2) :: (X.pn ++ pins))) su2 hg hm hv q hn hd
    have LT : PySem.W.Looks (model X.prog X.w) h2 (typeOf (.ref a)) cls := fun A Q E s k q => wpAny_typeOf_ref (k _ _ g2) (by rw [z2.1]; exact q)
    have go : ∀ {hd2 : List ExceptHandler} {l2 : List Hnd}, HndOk X hd2 l2 → wHd X.K Wo D l2 cls d σ1 H1 → wpAny (model X.prog X.w) X.A (handleBy (.ref a) X.env hd2) (SP X pins D) X.xe { s1 with heap := h2 } := by
      intro hd2 l2 ok2
      induction ok2 with
      | nil =>
        intro w
        refine wpAny_handleBy_nil ?_
        obtain ⟨f1, f2, f3, oe, vs, T, oT, tv, e1, e2, e3, e4, e5⟩ := id fly2
        unfold PySem.passOn
        refine wpAny_bind (wpAny_field e1 e3 e4 ?_)
        rw [if_neg (show ¬ ((Value.ref T == Value.none) = true) from by simp)]
        have fin : wpAny (model X.prog X.w) X.A (setFlight (.ref a) X.env.frame) (fun _ s4 => wpAny (model X.prog X.w) X.A (throw (.ref a) : Sem Flow) (SP X pins D) X.xe s4) X.xe { s1 with heap := h2 } := by
          rw [hf]
          refine HandSPX.setFlight_upZ fly2 fun h3 held up3 => wpAny_throw (tk _ _ ?_)
          exact ⟨a, B, sI, pins, σ1, H1, cls, d, rfl, J, nb, (up.trans up2).trans up3, .inr (.inr (by rw [hs]; exact held)), na, os, ag, w⟩
        first
          | exact wpAny_bind (wpAny_pure (wpAny_bind fin))
          | exact wpAny_bind fin
      | @bare x c ts b0 bs p q hds2 l3 nm su r ih =>
        intro w
        obtain ⟨b, e1, yes, no⟩ := w
        refine wpAny_handleBy_cons (codeAny_handlers_test ?_) (by intro q; cases q)
        refine test nm ((PySem.W.exm_one (M := model X.prog X.w) J2.kIn LT e1).here ?_)
        cases b with
        | false => exact ih (no rfl)
        | true =>
          refine codeAny_handlers_suite (HandSPX.lands_againZ fly2 fun h3 fly3 up3 => ?_)
          have J3 : Inv X pins σ1 H1 { s1 with heap := h3 } := J.landed nb fly3.1 ((up.trans up2).trans up3) os ag
          obtain ⟨o3, v3, g3, z3, d3⟩ := fly3.there
          have run := (su a o3 cls d (X.pn ++ pins) z3 ⟨_, d3⟩).run [] _ _ H1 _ (J3.suite g3 d3 na nL nF) (yes rfl a na)
          refine wpAny_mono run (fun fl s4 out => ?_) fun _ _ z => False.elim z
          cases fl with
          | next => obtain ⟨σ4, H4, J4, q4⟩ := out; exact ⟨_, _, J4.unsuite ok, q4⟩
          | brk => obtain ⟨σ4, H4, J4, q4⟩ := out; exact ⟨_, _, J4.unsuite ok, q4⟩
          | cont => obtain ⟨σ4, H4, J4, q4⟩ := out; exact ⟨_, _, J4.unsuite ok, q4⟩
          | ret u => obtain ⟨v4, σ4, H4, J4, rv, q4⟩ := out; exact ⟨_, _, _, J4.unsuite ok, rv, q4⟩
      | @as x n i c ts b0 bs p q hds2 l3 nm hi hl su r ih =>
        intro w
        obtain ⟨b, e1, yes, no⟩ := w
        refine wpAny_handleBy_cons (codeAny_handlers_test ?_) (by intro q; cases q)
        refine test nm ((PySem.W.exm_one (M := model X.prog X.w) J2.kIn LT e1).here ?_)
        cases b with
        | false => exact ih (no rfl)
        | true =>
          refine codeAny_handlers_suite_as (HandSPX.lands_againZ fly2 fun h3 fly3 up3 => ?_)
          have J3 : Inv X pins σ1 H1 { s1 with heap := h3 } := J.landed nb fly3.1 ((up.trans up2).trans up3) os ag
          obtain ⟨o3, v3, g3, z3, d3⟩ := fly3.there
          have lo : L2.Loc X.env.scope n := .inl hl
          refine store_ok (X := X.suite a ((a, o3) :: (X.pn ++ pins))) (v := .ref a) (J3.suite g3 d3 na nL nF) hN hi lo rfl (fun s4 J4 => ?_) (.inr hl)
          have run := (su a o3 cls d (X.pn ++ pins) z3 ⟨_, d3⟩).run [] s4 _ H1 _ J4 (yes rfl a na)
          refine wpAny_mono run (fun fl s5 out => ?_) fun _ _ z => False.elim z
          have gone : ∀ {σ5 : L2.St} {H5 : Hp} {Q : Shared → Prop}, Inv (X.suite a ((a, o3) :: (X.pn ++ pins))) [] σ5 H5 s5 → (∀ s6, Inv X pins (σ5.set i none) H5 s6 → Q s6) →
              wpAny (model X.prog X.w) X.A (do bindName X.env n .none; unbindBehindTheSuite X.env n q) (fun _ s6 => Q s6) X.xe s5 := fun {σ5 H5 Q} J5 hq => gone_ok (J5.unsuite ok) hN hi hl hq
          cases fl with
          | next => obtain ⟨σ5, H5, J5, q5⟩ := out; exact gone J5 fun s6 J6 => ⟨_, _, J6, q5⟩
          | brk => obtain ⟨σ5, H5, J5, q5⟩ := out; exact gone J5 fun s6 J6 => ⟨_, _, J6, q5⟩
          | cont => obtain ⟨σ5, H5, J5, q5⟩ := out; exact gone J5 fun s6 J6 => ⟨_, _, J6, q5⟩
          | ret u => obtain ⟨v5, σ5, H5, J5, rv, q5⟩ := out; exact gone J5 fun s6 J6 => ⟨_, _, _, J6, rv, q5⟩
    exact go hh w

/-! ### what the exception in hand is asked -/
/-- what is asked of a class of exceptions -/
structure ExK (K : PySem.W.Frag) (D : Addr) : Prop where
  cl : (PySem.W.clsIn K D).isSome = true
  ga : PySem.W.findIn K (.ref D) "__getattribute__" = some (some (.builtin "BaseException.__getattribute__"))
  gt : PySem.W.findIn K (.ref D) "__getattr__" = some none
  sb : PySem.W.subIn K (.ref D) (.type "BaseException") = some true
  hd : PySem.W.hasDictIn K D = true
  ca : PySem.W.findIn K (.ref D) "__class__" = some (some (.builtin "object.__class__"))
  cn : PySem.W.specialIn K (.builtin "object.__class__") "__get__" = some (some (.builtin "getset_descriptor.__get__"))
  ct : PySem.W.takesIn K (.builtin "object.__class__") = some true
  cm : PySem.W.mroIn K D (.type "object") = some true
/-- a holds the exception that X bears -/
def Bears (X : Cx) (a : Addr) (D : Addr) (d : Option Addr) : Prop := ∃ oe : Obj, (a, oe) ∈ X.pn ∧ L2N.Zn (.ref D) d oe ∧ ∃ vs, oe.data = .fields vs
theorem bear_at {X : Cx} {pins : List (Addr × Obj)} {σ : L2.St} {H : Hp} {s : Shared} {a D : Addr} {d : Option Addr} (B : Bears X a D d) (I : Inv X pins σ H s) (hd : ∀ dd, d = some dd → ∃ fs, H dd = some (.xd fs)) : ∃ ox od, PySem.W.InstAt s.heap a ox D od := by
  obtain ⟨oe, hp, hz, vs, hv⟩ := B
  obtain ⟨hget, _⟩ := I.pin (a, oe) (List.mem_append_left _ hp)
  obtain ⟨oc, odd, odt, osl⟩ := oe
  obtain ⟨h1, h2, _⟩ := hz
  dsimp only at h1 h2 hv
  subst h1 h2 hv
  cases odd with
  | none => exact ⟨_, none, hget, rfl, rfl, trivial⟩
  | some dd =>
    obtain ⟨fs, ef⟩ := hd dd rfl
    obtain ⟨mA, hns, hr⟩ := (show ObjOk X.prog X.w H s.heap dd (.xd fs) from I.hok dd _ ef)
    obtain ⟨od, ho, hl⟩ := lookIn_ns hns
    exact ⟨_, some od, hget, rfl, rfl, ho⟩
def rIsx (K : PySem.W.Frag) (a D : Addr) (d : Option Addr) : List V → Hp → VK → Prop := fun xs H Q => ∃ (c : V) (u : Value) (b : Bool), xs = [.ref a, c] ∧ ClsV c u ∧ (∀ dd, d = some dd → ∃ fs, H dd = some (.xd fs)) ∧ PySem.W.kitOne K (.ref D) u = some b ∧ Q (.bl b) H
def rIsxT (K : PySem.W.Frag) (a D : Addr) (d : Option Addr) : List V → Hp → VK → Prop := fun xs H Q => ∃ (tp : Addr) (cs : List V) (us : List Value) (b : Bool), xs = [.ref a, .ref tp] ∧ H tp = some (.tup cs) ∧ Paired ClsV cs us ∧ (∀ dd, d = some dd → ∃ fs, H dd = some (.xd fs)) ∧
  PySem.W.kitAny K (.ref D) us = some b ∧ Q (.bl b) H
section
variable {X : Cx} {a D : Addr} {d : Option Addr}
theorem call_isx (C : ExK X.K D) (B : Bears X a D d) : CallR X (.builtin "isinstance") (rIsx X.K a D d) := by
  intro pins s σ H xs us Q I r h
  obtain ⟨c, u, b, rfl, k, hd, e, q⟩ := h
  obtain ⟨u1, u2, rfl, r1, r2⟩ := vals2 r
  cases (show u1 = Value.ref a from r1)
  have e2 := k.eq r2
  subst e2
  obtain ⟨ox, od, J⟩ := bear_at B I hd
  exact PySem.W.kia_one (PySem.W.kitx_exc C.cl C.ga C.gt C.sb C.ca C.cn C.ct C.cm) I.kIn J e (fun z => nomatch z) fun tk => ⟨.bl b, H, I.tok tk, rfl, q⟩
theorem call_isxT (C : ExK X.K D) (B : Bears X a D d) : CallR X (.builtin "isinstance") (rIsxT X.K a D d) := by
  intro pins s σ H xs us Q I r h
  obtain ⟨tp, cs, ws, b, rfl, hT, k, hd, e, q⟩ := h
  obtain ⟨u1, u2, rfl, r1, r2⟩ := vals2 r
  cases (show u1 = Value.ref a from r1)
  cases (show u2 = Value.ref tp from r2)
  obtain ⟨ox, od, J⟩ := bear_at B I hd
  obtain ⟨_, its, rv, o, h1, h2, n, h3⟩ := (show ObjOk X.prog X.w H s.heap tp (.tup cs) from I.hok tp _ hT)
  have e3 := ClsV.all k rv
  subst e3
  obtain ⟨oc, od', dt, sl⟩ := o
  simp only at h2 h3
  subst h2 h3
  exact PySem.W.kia_tup (PySem.W.kitx_exc C.cl C.ga C.gt C.sb C.ca C.cn C.ct C.cm) I.kIn J h1 e (fun z => nomatch z) fun tk => ⟨.bl b, H, I.tok tk, rfl, q⟩
/-- e.f of the exception in hand -/
theorem pe_xat {e : Expr} {te : TE} {pos : Pos} {n : Str} (C : ExK X.K D) (B : Bears X a D d) (hno : PySem.W.findIn X.K (.ref D) n = some none) (he : PE X e te) (hb : attributeBase e n X.env (eval e X.env) = eval e X.env) :
    PE X (.Attribute e n pos) (fun σ H Q => te σ H fun x H1 => x = .ref a ∧ ∃ (dd : Addr) (fs : List (Str × V)) (v : V), d = some dd ∧ H1 dd = some (.xd fs) ∧ fs.lookup n = some v ∧ Q v H1) := by
  refine ⟨fun pins s σ H Q I h => ?_⟩
  refine attr_of hb (thn (he.run pins s σ H _ I h) fun u s1 hh => ?_)
  obtain ⟨x, H1, J, rx, ex, dd, fs, v, ed, ea, l, q⟩ := hh
  subst ex
  cases (show u = Value.ref a from rx)
  subst ed
  obtain ⟨oe, hp, hz, vs, hv⟩ := B
  have hget := (J.pin (a, oe) (List.mem_append_left _ hp)).1
  obtain ⟨mA, hns, hr⟩ := (show ObjOk X.prog X.w H1 s1.heap dd (.xd fs) from J.hok dd _ ea)
  obtain ⟨od, ho, hl⟩ := lookIn_ns hns
  obtain ⟨w, hw, rw'⟩ := RelO.some_of (v := v) (o := mA n) (by rw [← l]; exact hr n)
  have J2 : PySem.W.InstAt s1.heap a oe D (some od) := ⟨hget, hz.1, by unfold PySem.W.notCls; rw [hv] <;> rfl, by rw [hz.2.1]; exact ho⟩
  exact HandSPX.exc_get J.kIn J2 C.ga C.gt C.sb (PySem.W.findObj_own C.hd hno rfl (by rw [hl, hw])) (handed_of rw') ⟨v, H1, J.tok _, rw', q⟩
end
end Mn
set_option Elab.async false
set_option linter.all false
set_option maxRecDepth 100000
set_option maxHeartbeats 4000000
/-! MnX: exceptions with an own __init__: one field, stored behind Base.__init__(self, text). -/
namespace Mn
open PySem PySem.Spec PyProof.Rows
open L2 hiding Takes XE CX takes_of passes_call passAt PMk ps_raise ps_try_as ps_try_many HdsOk pmk_own MkP mk_of Sky.land
open L2N (CX PMk)

/-- what is asked of such a class -/
def oexB (K : PySem.W.Frag) (C : Addr) : Bool := match K.lookup C with
  | none => false
  | some o => (match o.cls, o.data, o.slots.toList with
    | .type t, .cls cd, [_, _, _, _, some (.builtin n), _] => t == "type" && (n == "ValueError.__new__" && (!cd.hasDel && (cd.hasDict && (match cd.mro with
      | .ref c :: bm => c == C && PySem.HandSPX.refsVE bm
      | _ => false))))
    | _, _, _ => false)
theorem oex_cls {K : PySem.W.Frag} {C : Addr} (h : oexB K C = true) :
    ∃ nm q N bs bm sn sub ab col dd k0 k1 k2 k3 k5, K.lookup C = some (excClassObj nm q C N bs bm true sn sub ab col dd k0 k1 k2 k3 k5 "ValueError.__new__") ∧ PySem.HandSPX.refsVE bm = true := by
  unfold oexB at h
  split at h
  · cases h
  · rename_i o ho
    obtain ⟨oc, od, dt, sl⟩ := o
    dsimp only at h
    split at h
    · rename_i t cd k0 k1 k2 k3 n k5 hs
      simp only [Bool.and_eq_true, beq_iff_eq, Bool.not_eq_true'] at h
      obtain ⟨rfl, rfl, hdel, hdict, h⟩ := h
      obtain ⟨nm, bs, mro, ns, qn, hd, sn, sub, ab, col, del⟩ := cd
      dsimp only at hdel hdict h
      subst hdel hdict
      split at h
      · rename_i c bm
        simp only [Bool.and_eq_true, beq_iff_eq] at h
        obtain ⟨rfl, hr⟩ := h
        have hsl : sl = #[k0, k1, k2, k3, some (.builtin "ValueError.__new__"), k5] := by
          obtain ⟨l⟩ := sl
          simp only at hs
          rw [hs]
        subst hsl
        exact ⟨nm, qn, ns, bs, bm, sn, sub, ab, col, od, k0, k1, k2, k3, k5, ho, hr⟩
      · cases h
    · cases h

/-- Base.__init__(self, ..), found at ValueError -/
structure UpV (K : PySem.W.Frag) (C : Addr) : Prop where
  rd : ClX.CRead K C (.type "type")
  at_ : PySem.W.findCls K (.ref C) (.type "type") "__init__" = some (.val (.builtin "ValueError.__init__"))
theorem pe_upv {X : Cx} {C0 : Addr} {y : Str} {e : Expr} {es : List Expr} {ta : TA} {p1 p2 pos : Pos} {pl : Sem Bool} (u : UpV X.K C0) (hg : Gl X y) (hm : X.mg y = some (.ref C0)) (ha : PA X (e :: es) ta)
    (hc : eval (.Call (.Attribute (.Name y p1) "__init__" p2) (e :: es) [] pos) X.env = (do
      let ov ← eval (.Name y p1) X.env
      standAt p2.atName
      let (f, first) ← holding [ov] (getMethod ov "__init__" pl)
      callWith pos f first (backTo pos (starEach (e :: es) X.env)) (backToKw pos (keywordEach [] X.env))))
    (hdb : (y == ("__debug__" : Str)) = false)
    (he : starEach (e :: es) X.env = (false, eval e X.env) :: starEach es X.env := by rfl) (hpl : (backTo pos (starEach es X.env)).any (·.1) = false := by rfl) :
    PE X (.Call (.Attribute (.Name y p1) "__init__" p2) (e :: es) [] pos) (tVeI X.K ta) := by
  refine ⟨fun pins s σ H Q I h => ?_⟩
  refine PySem.W.methodCall_KW (ld_glob I hg hm ?_ hdb) hc
  refine PySem.W.method_cls I.kIn u.rd.ga (PySem.W.cls_value I.kIn u.rd.rd u.at_ rfl ?_)
  show wpAny _ _ (callWith pos (Value.builtin "ValueError.__init__") [] (backTo pos (starEach (e :: es) X.env)) []) _ _ _
  refine PyProof.Rows.callWith_method1 (thn (ha.run pos pins _ σ H _ (I.tok _) h) fun us s1 ⟨vs, H1, I1, r1, a, C, ws, ev, hl, T, ea, q⟩ => ?_) he hpl
  subst ev
  cases r1 with
  | @cons _ u0 _ ur ra rw' =>
    obtain rfl : u0 = Value.ref a := ra
    have hlen : ur.length ≤ sizeLine := by
      rw [← Paired.length rw', sizeLine_eq]
      omega
    exact oinit_ok T I1 ea hlen fun s' J => ⟨.non, H1, J, rfl, q⟩

/-- what such an __init__ promises -/
def spIni (C : Addr) (f : Str) : Sp := fun vs H Q _ => ∃ (a : Addr) (y : V), vs = [.ref a, y] ∧ H a = some (exo a C none) ∧ ∀ dx, H dx = none → dx ≠ a → Q .non (upd (upd H dx (exd dx [(f, y)])) a (exo a C (some dx)))
/-- C(e), C's __init__ keeping spIni -/
def tMk1 (C : Addr) (f : Str) (ta : TA) : L2.St → Hp → XK → Prop := fun σ H Q => ta σ H fun vs H1 => ∃ y, vs = [y] ∧ ∀ d, H1 d = none → Q (.ref C) (some d) (upd H1 d (.xd [(f, y)]))
theorem put_back {H : Hp} {a d : Addr} {o o2 u v : HO} (ha : H a = none) (hd : d ≠ a) : upd (del (upd (upd (upd H a o) d u) a o2) a) d v = upd H d v := by
  funext b
  by_cases e : b = d
  · rw [e, upd_same, upd_same]
  · rw [upd_ne e, upd_ne e]
    by_cases e2 : b = a
    · rw [e2, del_same, ha]
    · rw [del_ne e2, upd_ne e2, upd_ne e, upd_ne e2]
theorem pmk_ini {X : Cx} {W : WX} {x f : Str} {C fI : Addr} {k : Nat} {fd : FuncData} {ps : List Str} {e : Expr} {ta : TA} {p pos : Pos} (T : OexC X.K C) (iC : PySem.W.findIn X.K (.ref C) "__init__" = some (some (.ref fI))) (tI : PySem.W.typeIn X.K (.ref fI) = some (.type "function"))
    (F1 : FnOk X.prog X.w X.K X.mg X.base (CX X.prog X.w) k fI fd ps (spIni C f)) (hr : Room (k + 1) X.A) (hb : Binds X.K fd ps []) (tk : L2N.Takes X W) (hg : Gl X x) (hm : X.mg x = some (.ref C)) (ha : PA X [e] ta)
    (hdb : (x == ("__debug__" : Str)) = false) (he : starEach [e] X.env = [(false, eval e X.env)]) : PMk X (.Call (.Name x p) [e] [] pos) (tMk1 C f ta) := by
  intro pins s σ H Q I h
  obtain ⟨nm, q, N, bs, bm, sn, sub, ab, col, dd, k0, k1, k2, k3, k5, hC, hbm⟩ := T.cls
  refine wpAny_Call_Name_kw (ld_glob I hg hm ?_ hdb)
  refine PySem.W.callWith_K (h₀ := X.base) I.ok.mod.kin T.kC (thn (ha.run pos pins s σ H _ I h) fun us s1 ⟨vs, H1, I1, r1, y, ev, q1⟩ => ⟨I1.kIn, ?_⟩) he rfl
  subst ev
  obtain ⟨hp, g, dr, tk', os⟩ := s1
  have hsz : hp.objs.size ≤ hp.objs.size + 1 := Nat.le_succ _
  have hn : H1 (hp.objs.size + 1) = none := I1.hok.fresh hsz
  have kk : ∀ b o, hp.get? b = some o → ((hp.push (PySem.W.kdv_tup us)).push (PySem.HandSPX.excO C hp.objs.size)).get? b = some o := fun b o e => Heap.get?_push_of_some _ (Heap.get?_push_of_some _ e)
  have hget : ((hp.push (PySem.W.kdv_tup us)).push (PySem.HandSPX.excO C hp.objs.size)).get? (hp.objs.size + 1) = some (PySem.HandSPX.excO C hp.objs.size) := by heap_get
  have I2 : Inv X pins σ (upd H1 (hp.objs.size + 1) (exo (hp.objs.size + 1) C none)) ⟨(hp.push (PySem.W.kdv_tup us)).push (PySem.HandSPX.excO C hp.objs.size), g, dr, tk', os⟩ :=
    I1.laid (t' := tk') (a := hp.objs.size + 1) (o := exo (hp.objs.size + 1) C none) (h' := (hp.push (PySem.W.kdv_tup us)).push (PySem.HandSPX.excO C hp.objs.size)) kk hsz (exo_ok hget)
  have r2 : Vals [V.ref (hp.objs.size + 1), y] (Value.ref (hp.objs.size + 1) :: us) := .cons rfl r1
  have hsp : spIni C f [V.ref (hp.objs.size + 1), y] (upd H1 (hp.objs.size + 1) (exo (hp.objs.size + 1) C none))
      (fun v H2 => v = .non ∧ ∃ d, d ≠ hp.objs.size + 1 ∧ H1 d = none ∧ H2 = upd (upd (upd H1 (hp.objs.size + 1) (exo (hp.objs.size + 1) C none)) d (exd d [(f, y)])) (hp.objs.size + 1) (exo (hp.objs.size + 1) C (some d))) (fun _ _ _ => False) :=
    ⟨_, y, rfl, upd_same, fun dx hd hne => ⟨rfl, dx, hne, by rwa [upd_ne hne] at hd, rfl⟩⟩
  have hl : (Value.ref (hp.objs.size + 1) :: us).length = ps.length := by rw [← r2.length]; exact F1.len _ _ _ _ hsp
  have hus : us.length ≤ sizeLine := by
    rw [← Paired.length r1, sizeLine_eq]
    show 1 ≤ _
    omega
  have b2 := hb _ (Value.ref (hp.objs.size + 1) :: us) I2.kIn (by rw [List.append_nil]; exact hl)
  rw [List.append_nil] at b2
  refine wpAny_call (PySem.HandSPX.call_own F.excBase_ValueError (fun Y => PySem.HandSPX.refsVE_contains Y bm hbm) (I1.kIn _ _ hC) (PySem.W.looks_findIn I1.kIn iC) (fun self => PySem.W.bind_fn I1.kIn self tI) hus
    (codeAny_mono (F1.run _ X.stack _ _ ⟨Value.ref (hp.objs.size + 1) :: us, []⟩ _ _ _ (fun _ _ _ => False) (hr.make C us []) (I2.env0.make C us []) b2 r2 hsp) fun r s' hq' => ?_))
  cases r with
  | error er => exact L2N.passes_call (E := fun _ _ _ => False) tk (fun _ _ _ _ z => z.elim) pins σ _ _ er s' I2 hq'
  | ok fl =>
    cases fl with
    | ret u =>
      obtain ⟨v, H2, os2, bare2, un2, hok2, rv, ev, d, hne, hd1, e2⟩ := hq'
      subst ev
      have ea : H2 (hp.objs.size + 1) = some (exo (hp.objs.size + 1) C (some d)) := by rw [e2, upd_same]
      have ed : H2 d = some (exd d [(f, y)]) := by rw [e2, upd_ne hne, upd_same]
      obtain ⟨h2, g2, d2, t2, os'⟩ := s'
      obtain ⟨t0, G, J, kG, ge, hoe, na⟩ := mk_end0 (d2 := d2) (t2 := t2) I1 hsz kk un2 hok2 os2 bare2 ea ed hd1
      have eH : upd (del H2 (hp.objs.size + 1)) d (.xd [(f, y)]) = upd H1 d (.xd [(f, y)]) := by rw [e2]; exact put_back hn hne
      rw [eH] at J na
      refine ⟨rv, hp.objs.size + 1, _, _, ⟨G, g2, d2, t2, os'⟩, _, .ref C, some d, rfl, J, kG, ge, hoe, ⟨rfl, rfl, fun vs hv => ?_⟩, rfl, rfl, na, rfl, bare2, raises_own T.exC T.tyC, q1 d hd1⟩
      cases hv
      rfl
    | next => exact False.elim hq'
    | brk => exact False.elim hq'
    | cont => exact False.elim hq'
end Mn
set_option Elab.async false
set_option linter.all false
set_option maxRecDepth 100000
set_option maxHeartbeats 2000000
/-! Mn3: what a run asks; operators. -/
namespace Mn
open PySem PySem.Spec PyProof.Rows
open L2 hiding ixN atI

abbrev XW := Value → Option Addr → Hp → Prop
/-- an exception of class c with its fields -/
def RepX (fx : Fx) (g : Gh) (H : Hp) (cls : Value) (d : Option Addr) (c : Nat) (p : List D) : Prop :=
  cls = .ref (fx.cA c) ∧ XRep fx g H d c p
/-- what a run to r asks of Q and W -/
def RunG {α β : Type} (fx : Fx) (Rep : Gh → Hp → β → α → Prop) (g : Gh) (H : Hp) (r : R α) (Q : β → Hp → Prop) (W : XW) : Prop := match r with
  | .ok t S' => ∀ g' v H', Grow g g' H H' → Rel fx g' S' H' → Rep g' H' v t → Q v H'
  | .exc c p S' => ∀ g' cls d H', Grow g g' H H' → Rel fx g' S' H' → RepX fx g' H' cls d c p → W cls d H'
  | .bad => False
abbrev Run (fx : Fx) := RunG (β := V) fx (RepT fx)
abbrev RunA (fx : Fx) := RunG (β := List V) fx (RepTs fx)
section
variable {α β γ δ : Type} {fx : Fx} {g g' : Gh} {H H' : Hp} {S : Store} {W : XW}
theorem RunG.grow {Rep : Gh → Hp → β → α → Prop} {r : R α} {Q : β → Hp → Prop} (w : Grow g g' H H') (h : RunG fx Rep g H r Q W) : RunG fx Rep g' H' r Q W := by
  cases r with
  | ok t S' => exact fun g2 v H2 w2 rl rp => h g2 v H2 (w.trans w2) rl rp
  | exc c p S' => exact fun g2 cls d H2 w2 rl rp => h g2 cls d H2 (w.trans w2) rl rp
  | bad => exact h
theorem RunG.mono {Rep : Gh → Hp → β → α → Prop} {r : R α} {Q Q' : β → Hp → Prop} (h : RunG fx Rep g H r Q W) (q : ∀ v H', Q v H' → Q' v H') : RunG fx Rep g H r Q' W := by
  cases r with
  | ok t S' => exact fun g2 v H2 w2 rl rp => q _ _ (h g2 v H2 w2 rl rp)
  | exc c p S' => exact h
  | bad => exact h
theorem RunG.bnd {Rep : Gh → Hp → β → α → Prop} {Rep2 : Gh → Hp → δ → γ → Prop} {r : R α} {k : α → Store → R γ} {Q : δ → Hp → Prop} (h : RunG fx Rep2 g H (r.bnd k) Q W) :
    RunG fx Rep g H r (fun x H1 => ∃ g1 S1 a, Grow g g1 H H1 ∧ Rel fx g1 S1 H1 ∧ Rep g1 H1 x a ∧ RunG fx Rep2 g1 H1 (k a S1) Q W) W := by
  cases r with
  | ok t S' => exact fun g2 v H2 w2 rl rp => ⟨g2, S', t, w2, rl, rp, RunG.grow w2 h⟩
  | exc c p S' => exact h
  | bad => exact h
/-- .. and what the first part came to -/
theorem RunG.bnde {Rep : Gh → Hp → β → α → Prop} {Rep2 : Gh → Hp → δ → γ → Prop} {r : R α} {k : α → Store → R γ} {Q : δ → Hp → Prop} (h : RunG fx Rep2 g H (r.bnd k) Q W) :
    RunG fx Rep g H r (fun x H1 => ∃ g1 S1 a, r = .ok a S1 ∧ Grow g g1 H H1 ∧ Rel fx g1 S1 H1 ∧ Rep g1 H1 x a ∧ RunG fx Rep2 g1 H1 (k a S1) Q W) W := by
  cases r with
  | ok t S' => exact fun g2 v H2 w2 rl rp => ⟨g2, S', t, rfl, w2, rl, rp, RunG.grow w2 h⟩
  | exc c p S' => exact h
  | bad => exact h
theorem RunG.fin {Rep : Gh → Hp → β → α → Prop} {a : α} {v : β} {Q : β → Hp → Prop} (h : RunG fx Rep g H (.ok a S) Q W) (rl : Rel fx g S H) (rp : Rep g H v a) : Q v H := h g v H (Grow.refl _ _) rl rp
end
/-! ### slots -/
structure Slots (fx : Fx) (g : Gh) (H : Hp) (τ : Sl) (σ : L2.St) : Prop where
  le : τ.length ≤ σ.length
  at_ : ∀ (i : Nat) (t : T), τ[i]? = some (some t) → ∃ v, σ[i]? = some (some v) ∧ RepT fx g H v t
theorem Slots.grow {fx : Fx} {g g' : Gh} {H H' : Hp} {τ : Sl} {σ : L2.St} (w : Grow g g' H H') (s : Slots fx g H τ σ) : Slots fx g' H' τ σ :=
  ⟨s.le, fun i t e => let ⟨v, h1, h2⟩ := s.at_ i t e; ⟨v, h1, h2.grow w⟩⟩
theorem Slots.set {fx : Fx} {g : Gh} {H : Hp} {τ : Sl} {σ : L2.St} {v : V} {t : T} (i : Nat) (s : Slots fx g H τ σ) (r : RepT fx g H v t) : Slots fx g H (τ.set i (some t)) (σ.set i (some v)) := by
  refine ⟨by simpa using s.le, fun j u e => ?_⟩
  by_cases h : i = j
  · subst h
    have hl : i < τ.length := by
      have := (List.getElem?_eq_some_iff.mp e).1
      simpa using this
    rw [List.getElem?_set_self hl] at e
    cases e
    exact ⟨v, List.getElem?_set_self (Nat.lt_of_lt_of_le hl s.le), r⟩
  · rw [List.getElem?_set_ne h] at e
    rw [List.getElem?_set_ne h]
    exact s.at_ j u e
theorem Slots.clear {fx : Fx} {g : Gh} {H : Hp} {τ : Sl} {σ : L2.St} (i : Nat) (s : Slots fx g H τ σ) : Slots fx g H (τ.set i none) σ := by
  refine ⟨by simpa using s.le, fun j u e => ?_⟩
  by_cases h : i = j
  · subst h
    have hl : i < τ.length := by
      have := (List.getElem?_eq_some_iff.mp e).1
      simpa using this
    rw [List.getElem?_set_self hl] at e
    cases e
  · rw [List.getElem?_set_ne h] at e
    exact s.at_ j u e
/-- an expression's reading -/
def rdG {α β : Type} (fx : Fx) (Rep : Gh → Hp → β → α → Prop) (W : WX) (m : Sl → Store → R α) : L2.St → Hp → (β → Hp → Prop) → Prop := fun σ H Q =>
  ∃ g τ S, Rel fx g S H ∧ Slots fx g H τ σ ∧ RunG fx Rep g H (m τ S) Q (fun c d H' => W c d σ H')
abbrev rd (fx : Fx) (W : WX) (m : Sl → Store → R T) : TE := rdG fx (RepT fx) W m
abbrev rdA (fx : Fx) (W : WX) (m : Sl → Store → R (List T)) : TA := rdG fx (RepTs fx) W m
abbrev rdB (fx : Fx) (W : WX) (m : Sl → Store → R Bool) : TT := rdG fx (fun _ _ (b : Bool) (b' : Bool) => b = b') W m
theorem _root_.L2.PE.imp {X : Cx} {e : Expr} {t t' : TE} (h : PE X e t) (i : ∀ σ H Q, t' σ H Q → t σ H Q) : PE X e t' := ⟨fun pins s σ H Q I q => h.run pins s σ H Q I (i σ H Q q)⟩
theorem _root_.L2.PT.imp {X : Cx} {e : Expr} {t t' : TT} (h : PT X e t) (i : ∀ σ H Q, t' σ H Q → t σ H Q) : PT X e t' := ⟨fun pins s σ H Q I q => h.run pins s σ H Q I (i σ H Q q)⟩
theorem _root_.L2.PW.imp {X : Cx} {e : Expr} {t t' : TT} (h : PW X e t) (i : ∀ σ H Q, t' σ H Q → t σ H Q) : PW X e t' := ⟨fun wh pins s σ H Q I q => h.run wh pins s σ H Q I (i σ H Q q)⟩
theorem _root_.L2.PA.imp {X : Cx} {es : List Expr} {t t' : TA} (h : PA X es t) (i : ∀ σ H Q, t' σ H Q → t σ H Q) : PA X es t' := ⟨fun pos pins s σ H Q I q => h.run pos pins s σ H Q I (i σ H Q q)⟩
theorem _root_.L2.PS.imp {X : Cx} {e : Stmt} {t t' : TS} (h : PS X e t) (i : ∀ D σ H, t' D σ H → t D σ H) : PS X e t' := ⟨fun pins s σ H Q I q => h.run pins s σ H Q I (i Q σ H q)⟩
theorem _root_.L2.PSs.imp {X : Cx} {e : List Stmt} {t t' : TS} (h : PSs X e t) (i : ∀ D σ H, t' D σ H → t D σ H) : PSs X e t' := ⟨fun pins s σ H Q I q => h.run pins s σ H Q I (i Q σ H q)⟩
theorem _root_.L2.PI.imp {X : Cx} {tg e : Expr} {t t' : TI} (h : PI X tg e t) (i : ∀ σ H Q, t' σ H Q → t σ H Q) : PI X tg e t' := ⟨fun pins s σ H Q I q => h.run pins s σ H Q I (i σ H Q q)⟩

section
variable {fx : Fx} {g : Gh} {H : Hp} {S : Store} {W : XW} {Q : VK}
/-- a new list -/
theorem run_mkL {md : Bool} {ds : List D} {vs : List V} (h : Run fx g H (mkL md ds S) Q W) (rl : Rel fx g S H) (rs : RepDs fx g.F g.bs H vs ds) : vs.length ≤ sizeLine ∧ ∀ p, H p = none → Q (.ref p) (upd H p (.lst vs)) := by
  unfold mkL at h
  split at h
  · rename_i hl
    refine ⟨by rw [rs.length, sizeLine_eq]; omega, fun p hp => ?_⟩
    split at h
    · have w := grow_cell (o := .lst vs) rl hp
      refine h _ _ _ w (rl.newL hp ⟨vs, upd_same, rs.grow w⟩) (.cell ?_)
      show (g.as ++ [p])[S.loc.length]? = some p
      rw [← rl.lL]; simp
    · have w := grow_new (o := .lst vs) rl hp
      exact h _ _ _ w (rl.newF hp) (.d (.lst (.inr rfl) upd_same (rs.grow w)))
  · exact h.elim
theorem run_newT {ds : List D} {vs : List V} (h : Run fx g H (.ok (.d (.tup ds)) S) Q W) (rl : Rel fx g S H) (rs : RepDs fx g.F g.bs H vs ds) (p : Addr) (hp : H p = none) : Q (.ref p) (upd H p (.tup vs)) := by
  have w := grow_new (o := .tup vs) rl hp
  exact h _ _ _ w (rl.newF hp) (.d (.tup (.inl ⟨.inr rfl, .inl upd_same⟩) (rs.grow w)))
/-- read as a list -/
theorem rdL_rep {t : T} {x : V} {ds : List D} (rl : Rel fx g S H) (r : RepT fx g H x t) (e : S.rdL t = some ds) : ∃ a vs, x = .ref a ∧ H a = some (.lst vs) ∧ RepDs fx g.F g.bs H vs ds := by
  cases r with
  | d r =>
    cases r with
    | lst h h2 q => simp [Store.rdL] at e; subst e; exact ⟨_, _, rfl, h2, q⟩
    | gref h =>
      simp only [Store.rdL] at e
      split at e
      · cases e
        obtain ⟨vs, h1, h2⟩ := rl.cG _ _ _ h (by assumption)
        exact ⟨_, vs, rfl, h1, h2⟩
      · cases e
    | _ => simp [Store.rdL] at e
  | cell h =>
    simp only [Store.rdL] at e
    split at e
    · cases e
      obtain ⟨vs, h1, h2⟩ := rl.cL _ _ _ h (by assumption)
      exact ⟨_, vs, rfl, h1, h2⟩
    · cases e
  | _ => simp [Store.rdL] at e
/-- what stands to be read -/
inductive Red (fx : Fx) (g : Gh) (H : Hp) : V → D → Prop where
  | flat {v : V} {d : D} : flatV v = true → RepD fx g.F g.bs H v d → Red fx g H v d
  | lst {a : Addr} {vs : List V} {ds : List D} : SqL fx.K H a vs → RepDs fx g.F g.bs H vs ds → Red fx g H (.ref a) (.lst ds)
  | tup {a : Addr} {vs : List V} {ds : List D} : SqT fx.K H a vs → RepDs fx g.F g.bs H vs ds → Red fx g H (.ref a) (.tup ds)
  | dct {a : Addr} {vs : List V} {ks : List Key} {ds : List D} : H a = some (.dK (ks.zip vs)) → ks.length = vs.length → RepDs fx g.F g.bs H vs ds → Red fx g H (.ref a) (.dct ks ds)
  | obj {a dx : Addr} {c : Nat} {fvs : List (Str × V)} {vs : List V} {fs : List D} : H a = some (.ins (fx.cA c) dx fvs) → ClsG fx c → FldOk c fvs vs → RepDs fx g.F g.bs H vs fs → Red fx g H (.ref a) (.obj c fs)
theorem rd_red {t : T} {x : V} {d : D} (rl : Rel fx g S H) (r : RepT fx g H x t) (e : S.rd t = some d) : Red fx g H x d := by
  cases r with
  | d r =>
    cases r with
    | non => simp [Store.rd] at e; subst e; exact .flat rfl .non
    | bl b => simp [Store.rd] at e; subst e; exact .flat rfl (.bl b)
    | int i => simp [Store.rd] at e; subst e; exact .flat rfl (.int i)
    | str z => simp [Store.rd] at e; subst e; exact .flat rfl (.str z)
    | lst h h2 q => simp [Store.rd] at e; subst e; exact .lst (SqL.of h2) q
    | tup h q => simp [Store.rd] at e; subst e; exact .tup h.sq q
    | obj h1 h2 h3 h4 q => simp [Store.rd] at e; subst e; exact .obj h2 h3 h4 q
    | dct h1 h2 h3 h4 q => simp [Store.rd] at e; subst e; subst h3; exact .dct h2 h4 q
    | gref h =>
      simp only [Store.rd] at e
      split at e
      · cases e
        obtain ⟨vs, h1, h2⟩ := rl.cG _ _ _ h (by assumption)
        exact .lst (SqL.of h1) h2
      · cases e
        obtain ⟨vs, h1, h2, h3⟩ := rl.cG _ _ _ h (by assumption)
        exact .dct h1 h2 h3
      · cases e
  | cell h =>
    simp only [Store.rd] at e
    split at e
    · cases e
      obtain ⟨vs, h1, h2⟩ := rl.cL _ _ _ h (by assumption)
      exact .lst (SqL.of h1) h2
    · cases e
      obtain ⟨vs, h1, h2, h3⟩ := rl.cL _ _ _ h (by assumption)
      exact .dct h1 h2 h3
    · cases e
  | lst h q =>
    simp only [Store.rd] at e
    split at e
    · cases e
      exact .lst h.sq (RepTs.unDs q (by assumption))
    · cases e
  | _ => simp [Store.rd] at e
theorem rt_int {x : V} {i : Int} (h : RepT fx g H x (.d (.int i))) : x = .int i := by
  cases h with
  | d h => cases h; rfl
theorem rt_str {x : V} {i : Str} (h : RepT fx g H x (.d (.str i))) : x = .str i := by
  cases h with
  | d h => cases h; rfl
theorem rt_bl {x : V} {i : Bool} (h : RepT fx g H x (.d (.bl i))) : x = .bl i := by
  cases h with
  | d h => cases h; rfl
theorem rt_non {x : V} (h : RepT fx g H x (.d .non)) : x = .non := by
  cases h with
  | d h => cases h; rfl
theorem rt_lst {x : V} {ds : List D} (h : RepT fx g H x (.d (.lst ds))) : ∃ a vs, x = .ref a ∧ g.F a ∧ H a = some (.lst vs) ∧ RepDs fx g.F g.bs H vs ds := by
  cases h with
  | d h =>
    cases h with
    | lst h1 h2 h3 => exact ⟨_, _, rfl, h1, h2, h3⟩
theorem rt_tup {x : V} {ds : List D} (h : RepT fx g H x (.d (.tup ds))) : ∃ a vs, x = .ref a ∧ FT fx.K g.F H a vs ∧ RepDs fx g.F g.bs H vs ds := by
  cases h with
  | d h =>
    cases h with
    | tup h1 h2 => exact ⟨_, _, rfl, h1, h2⟩
end


/-! ### == of data -/
open PySem.SeqAt in
section
mutual
/-- a value of the heap as data -/
inductive Kn (h : Heap) : Value → D → Prop where
  | non : Kn h .none .non
  | bl (b : Bool) : Kn h (.bool b) (.bl b)
  | int (i : Int) (t : Tok) : Kn h (.int i t) (.int i)
  | str (x : Str) (t : Tok) : Kn h (.str x t) (.str x)
  | lst {l : Addr} {its : Array Value} {ds : List D} : h.IsList l its → Kns h its.toList ds → Kn h (.ref l) (.lst ds)
  | tup {l : Addr} {its : Array Value} {ds : List D} : h.IsTuple l its → Kns h its.toList ds → Kn h (.ref l) (.tup ds)
inductive Kns (h : Heap) : List Value → List D → Prop where
  | nil : Kns h [] []
  | cons {v : Value} {vs : List Value} {d : D} {ds : List D} : Kn h v d → Kns h vs ds → Kns h (v :: vs) (d :: ds)
end
theorem Kns.length {h : Heap} : ∀ {vs : List Value} {ds : List D}, Kns h vs ds → vs.length = ds.length
  | _, _, .nil => rfl
  | _, _, .cons _ r => by simp [Kns.length r]
theorem Kns.get {h : Heap} : ∀ {vs : List Value} {ds : List D}, Kns h vs ds → ∀ (j : Nat) (p : j < vs.length) (q : j < ds.length), Kn h vs[j] ds[j]
  | _, _, .cons a _, 0, _, _ => a
  | _, _, .cons _ r, j + 1, p, q => Kns.get r j (by simpa using p) (by simpa using q)
theorem isList_inj {h : Heap} {a : Addr} {x y : Array Value} (p : h.IsList a x) (q : h.IsList a y) : x = y := by
  obtain ⟨o, e, _, n, d⟩ := p
  obtain ⟨o', e', _, n', d'⟩ := q
  rw [e] at e'; cases e'
  rw [d] at d'; cases d'; rfl
theorem isTuple_inj {h : Heap} {a : Addr} {x y : Array Value} (p : h.IsTuple a x) (q : h.IsTuple a y) : x = y := by
  obtain ⟨o, e, _, n, d⟩ := p
  obtain ⟨o', e', _, n', d'⟩ := q
  rw [e] at e'; cases e'
  rw [d] at d'; cases d'; rfl
theorem list_no_tuple {h : Heap} {a : Addr} {x y : Array Value} (p : h.IsList a x) (q : h.IsTuple a y) : False := by
  obtain ⟨o, e, c, _⟩ := p
  obtain ⟨o', e', c', _⟩ := q
  rw [e] at e'; cases e'
  rw [c] at c'
  exact absurd c' (by decide)
mutual
theorem Kn.one {h : Heap} : ∀ {v : Value} {d e : D}, Kn h v d → Kn h v e → d = e
  | _, _, _, .non, .non => rfl
  | _, _, _, .bl _, .bl _ => rfl
  | _, _, _, .int _ _, .int _ _ => rfl
  | _, _, _, .str _ _, .str _ _ => rfl
  | _, _, _, .lst p r, .lst q r' => by
    have e := isList_inj p q
    subst e
    rw [Kns.one r r']
  | _, _, _, .tup p r, .tup q r' => by
    have e := isTuple_inj p q
    subst e
    rw [Kns.one r r']
  | _, _, _, .lst p _, .tup q _ => (list_no_tuple p q).elim
  | _, _, _, .tup p _, .lst q _ => (list_no_tuple q p).elim
theorem Kns.one {h : Heap} : ∀ {v : List Value} {d e : List D}, Kns h v d → Kns h v e → d = e
  | _, _, _, .nil, .nil => rfl
  | _, _, _, .cons a r, .cons b r' => by rw [Kn.one a b, Kns.one r r']
end
mutual
theorem eqv_self : ∀ (n : Nat) (d : D), D.ly n d = true → D.eqv d d = true
  | n, .non, _ => rfl
  | n, .bl b, _ => by simp [D.eqv]
  | n, .int i, _ => by simp [D.eqv]
  | n, .str x, _ => by simp [D.eqv]
  | 0, .tup ds, h => by simp [D.ly] at h
  | n + 1, .tup ds, h => by simp only [D.eqv]; exact eqvs_self n ds (by simpa only [D.ly] using h)
  | 0, .lst ds, h => by simp [D.ly] at h
  | n + 1, .lst ds, h => by simp only [D.eqv]; exact eqvs_self n ds (by simpa only [D.ly] using h)
  | n, .obj c fs, h => by cases n <;> simp [D.ly] at h
  | n, .dct k fs, h => by cases n <;> simp [D.ly] at h
  | n, .gref k, h => by cases n <;> simp [D.ly] at h
theorem eqvs_self : ∀ (n : Nat) (ds : List D), ds.all (D.ly n) = true → D.eqvs ds ds = true
  | n, [], _ => rfl
  | n, d :: ds, h => by
    simp only [List.all_cons, Bool.and_eq_true] at h
    simp only [D.eqvs, eqv_self n d h.1, eqvs_self n ds h.2, Bool.and_self]
end
/-- the places of two rows, one by one -/
def peq (ds es : List D) (j : Nat) : Bool := (ds.getD j .non).eqv (es.getD j .non)
theorem peq_succ (d e : D) (ds es : List D) (j : Nat) : peq (d :: ds) (e :: es) (j + 1) = peq ds es j := rfl
theorem eqvs_all : ∀ ds es : List D, ((List.range (min ds.length es.length)).all (peq ds es) && (ds.length == es.length)) = D.eqvs ds es
  | [], [] => rfl
  | [], _ :: _ => by simp [D.eqvs]
  | _ :: _, [] => by simp [D.eqvs]
  | d :: ds, e :: es => by
    have ih := eqvs_all ds es
    have h1 : min (d :: ds).length (e :: es).length = min ds.length es.length + 1 := by simp only [List.length_cons]; omega
    rw [h1, List.range_succ_eq_map, List.all_cons, List.all_map]
    have h2 : (peq (d :: ds) (e :: es) ∘ Nat.succ) = peq ds es := by funext j; rfl
    have h3 : ((d :: ds).length == (e :: es).length) = (ds.length == es.length) := by simp
    have h4 : peq (d :: ds) (e :: es) 0 = d.eqv e := rfl
    rw [h2, h3, h4, Bool.and_assoc, ih]
    simp only [D.eqvs]
theorem eqvs_same {ds es : List D} (h : ds.length = es.length) : (List.range ds.length).all (peq ds es) = D.eqvs ds es := by
  have := eqvs_all ds es
  rw [← h, Nat.min_self] at this
  simpa using this
theorem eqvs_other {ds es : List D} (h : ds.length ≠ es.length) : D.eqvs ds es = false := by
  rw [← eqvs_all ds es]
  simp [h]
theorem peq_get {ds es : List D} {j : Nat} (p : j < ds.length) (q : j < es.length) : peq ds es j = ds[j].eqv es[j] := by
  unfold peq
  rw [List.getD_eq_getElem?_getD, List.getD_eq_getElem?_getD, List.getElem?_eq_getElem p, List.getElem?_eq_getElem q]
  rfl
theorem dec_ii (a b : Int) : decide (a = b) = (a == b) := by
  by_cases e : a = b
  · subst e; simp
  · rw [decide_eq_false e]; exact (beq_eq_false_iff_ne.mpr e).symm
theorem dec_ss (a b : Str) : decide (a = b) = (a == b) := by
  by_cases e : a = b
  · subst e; simp
  · rw [decide_eq_false e]; exact (beq_eq_false_iff_ne.mpr e).symm
theorem ly_at {n : Nat} {ds : List D} (h : ds.all (D.ly n) = true) {j : Nat} (p : j < ds.length) : D.ly n ds[j] = true := List.all_eq_true.mp h _ (List.getElem_mem p)
theorem kn_non {s : Shared} {e : D} {b : Value} {A : Around} (hb : Kn s.heap b e) (hu : A.units < cLine) : EqAt A s .none b (D.non.eqv e) := by
  cases hb with
  | non => exact EqAt.same _
  | bl y => exact EqAt.none_bool y
  | int y t => exact EqAt.none_int y t
  | str y t => exact EqAt.none_str y t
  | lst p _ => exact EqAt.none_list p hu
  | tup p _ => exact EqAt.none_tuple p hu
theorem kn_bl {s : Shared} {e : D} {b : Value} {A : Around} (x : Bool) (hb : Kn s.heap b e) (hu : A.units < cLine) : EqAt A s (.bool x) b ((D.bl x).eqv e) := by
  cases hb with
  | non => exact EqAt.bool_none x
  | bl y => exact EqAt.bool_bool x y
  | int y t => rw [show (D.bl x).eqv (.int y) = ((if x then 1 else 0) == y) from dec_ii _ _]; exact EqAt.bool_int x y t
  | str y t => exact EqAt.bool_str x y t
  | lst p _ => exact EqAt.bool_list x p hu
  | tup p _ => exact EqAt.bool_tuple x p hu
theorem kn_int {s : Shared} {e : D} {b : Value} {A : Around} (x : Int) (t : Tok) (hb : Kn s.heap b e) (hu : A.units < cLine) : EqAt A s (.int x t) b ((D.int x).eqv e) := by
  cases hb with
  | non => exact EqAt.int_none x t
  | bl y => rw [show (D.int x).eqv (.bl y) = (x == (if y then 1 else 0)) from dec_ii _ _]; exact EqAt.int_bool x t y
  | int y u => rw [show (D.int x).eqv (.int y) = (x == y) from dec_ii _ _]; exact EqAt.int_int x t y u
  | str y u => exact EqAt.int_str x t y u
  | lst p _ => exact EqAt.int_list x t p hu
  | tup p _ => exact EqAt.int_tuple x t p hu
theorem kn_str {s : Shared} {e : D} {b : Value} {A : Around} (x : Str) (t : Tok) (hb : Kn s.heap b e) (hu : A.units < cLine) : EqAt A s (.str x t) b ((D.str x).eqv e) := by
  cases hb with
  | non => exact EqAt.str_none x t
  | bl y => exact EqAt.str_bool x t y
  | int y u => exact EqAt.str_int x t y u
  | str y u => rw [show (D.str x).eqv (.str y) = (x == y) from dec_ss _ _]; exact EqAt.str_str x t y u
  | lst p _ => exact EqAt.str_list x t p hu
  | tup p _ => exact EqAt.str_tuple x t p hu
def RoomN (A : Around) (n : Nat) : Prop := A.units + n < cLine
/-- the longer cases, the rest handed in -/
theorem kn_lst {s : Shared} {n : Nat} {ds : List D} {e : D} {l : Addr} {its : Array Value} {b : Value} {A : Around} (hd : D.ly (n + 1) (.lst ds) = true) (he : D.ly (n + 1) e = true) (p : s.heap.IsList l its) (r : Kns s.heap its.toList ds) (hb : Kn s.heap b e)
    (hu : A.units + (n + 1) < cLine)
    (ih : ∀ (j : Nat) (p : j < its.toList.length) (q : j < ds.length) (e : D) (b : Value) (A : Around), D.ly n e = true → Kn s.heap b e → RoomN A n → EqAt A s its.toList[j] b (ds[j].eqv e)) : EqAt A s (.ref l) b ((D.lst ds).eqv e) := by
  have hu' : A.units < cLine := Nat.lt_of_le_of_lt (Nat.le_add_right _ _) hu
  have hu1 : A.in1.units + n < cLine := by show A.units + 1 + n < cLine; omega
  cases hb with
  | non => exact EqAt.list_none p hu'
  | bl y => exact EqAt.list_bool y p hu'
  | int y t => exact EqAt.list_int y t p hu'
  | str y t => exact EqAt.list_str y t p hu'
  | tup q _ => exact EqAt.list_tuple p q hu'
  | lst q r' =>
    rename_i l' its' es
    by_cases hl : l = l'
    · subst hl
      have e1 := isList_inj p q
      subst e1
      rw [Kns.one r' r, eqv_self (n + 1) (.lst ds) hd]
      exact EqAt.same _
    · refine EqAt.of_refs hl ?_
      have l1 := r.length
      have l2 := r'.length
      simp only [Array.length_toList] at l1 l2
      show RcAt A s (.ref l) (.ref l') (D.eqvs ds es)
      by_cases hz : its.size = its'.size
      · have h1 : D.eqvs ds es = (List.range its.size).all (peq ds es) := by rw [l1]; exact (eqvs_same (by omega)).symm
        rw [h1]
        refine RcAt.lists p q hz hu' fun j j1 j2 => ?_
        rw [peq_get (by omega) (by omega)]
        exact ih j (by simpa using j1) (by omega) _ _ A.in1 (ly_at (by simpa only [D.ly] using he) (by omega)) (r'.get j (by simpa using j2) (by omega)) hu1
      · rw [eqvs_other (by omega)]
        exact RcAt.lists_lengths p q (by simpa using hz) hu'
theorem kn_tup {s : Shared} {n : Nat} {ds : List D} {e : D} {l : Addr} {its : Array Value} {b : Value} {A : Around} (hd : D.ly (n + 1) (.tup ds) = true) (he : D.ly (n + 1) e = true) (p : s.heap.IsTuple l its) (r : Kns s.heap its.toList ds) (hb : Kn s.heap b e)
    (hu : A.units + (n + 1) < cLine)
    (ih : ∀ (j : Nat) (p : j < its.toList.length) (q : j < ds.length) (e : D) (b : Value) (A : Around), D.ly n e = true → Kn s.heap b e → RoomN A n → EqAt A s its.toList[j] b (ds[j].eqv e)) : EqAt A s (.ref l) b ((D.tup ds).eqv e) := by
  have hu' : A.units < cLine := Nat.lt_of_le_of_lt (Nat.le_add_right _ _) hu
  have hu1 : A.in1.units + n < cLine := by show A.units + 1 + n < cLine; omega
  cases hb with
  | non => exact EqAt.tuple_none p hu'
  | bl y => exact EqAt.tuple_bool y p hu'
  | int y t => exact EqAt.tuple_int y t p hu'
  | str y t => exact EqAt.tuple_str y t p hu'
  | lst q _ => exact EqAt.tuple_list p q hu'
  | tup q r' =>
    rename_i l' its' es
    by_cases hl : l = l'
    · subst hl
      have e1 := isTuple_inj p q
      subst e1
      rw [Kns.one r' r, eqv_self (n + 1) (.tup ds) hd]
      exact EqAt.same _
    · refine EqAt.of_refs hl ?_
      have l1 := r.length
      have l2 := r'.length
      simp only [Array.length_toList] at l1 l2
      show RcAt A s (.ref l) (.ref l') (D.eqvs ds es)
      rw [← eqvs_all ds es, ← l1, ← l2]
      refine RcAt.tuples p q hu' fun j j1 j2 => ?_
      rw [peq_get (by omega) (by omega)]
      exact ih j (by simpa using j1) (by omega) _ _ A.in1 (ly_at (by simpa only [D.ly] using he) (by omega)) (r'.get j (by simpa using j2) (by omega)) hu1
theorem in0 {a n : Nat} (h : a + n < cLine) : a < cLine := Nat.lt_of_le_of_lt (Nat.le_add_right _ _) h
mutual
theorem kn_eq {s : Shared} : ∀ (n : Nat) (d : D), D.ly n d = true → ∀ (e : D) (a b : Value) (A : Around), D.ly n e = true → Kn s.heap a d → Kn s.heap b e → RoomN A n → EqAt A s a b (d.eqv e)
  | _, .non, _ => fun e a b A he ha hb hu => by cases ha; exact kn_non hb (in0 hu)
  | _, .bl _, _ => fun e a b A he ha hb hu => by cases ha; exact kn_bl _ hb (in0 hu)
  | _, .int _, _ => fun e a b A he ha hb hu => by cases ha; exact kn_int _ _ hb (in0 hu)
  | _, .str _, _ => fun e a b A he ha hb hu => by cases ha; exact kn_str _ _ hb (in0 hu)
  | 0, .lst _, hd => absurd hd (by simp [D.ly])
  | n + 1, .lst ds, hd => fun e a b A he ha hb hu => by
    have ih := kns_eq (s := s) n ds (by simpa only [D.ly] using hd)
    cases ha with
    | lst p r => exact kn_lst hd he p r hb hu (ih _ r)
  | 0, .tup _, hd => absurd hd (by simp [D.ly])
  | n + 1, .tup ds, hd => fun e a b A he ha hb hu => by
    have ih := kns_eq (s := s) n ds (by simpa only [D.ly] using hd)
    cases ha with
    | tup p r => exact kn_tup hd he p r hb hu (ih _ r)
  | n, .obj c fs, hd => absurd hd (by cases n <;> simp [D.ly])
  | n, .dct c fs, hd => absurd hd (by cases n <;> simp [D.ly])
  | n, .gref c, hd => absurd hd (by cases n <;> simp [D.ly])
theorem kns_eq {s : Shared} : ∀ (n : Nat) (ds : List D), ds.all (D.ly n) = true → ∀ (vs : List Value), Kns s.heap vs ds → ∀ (j : Nat) (p : j < vs.length) (q : j < ds.length) (e : D) (b : Value) (A : Around), D.ly n e = true → Kn s.heap b e → RoomN A n → EqAt A s vs[j] b (ds[j].eqv e)
  | n, [], _ => fun vs r j p q => absurd q (Nat.not_lt_zero j)
  | n, d :: ds, h => fun vs r j p q e b A he hb hu => by
    have h1 : D.ly n d = true := by simp only [List.all_cons, Bool.and_eq_true] at h; exact h.1
    have h2 : ds.all (D.ly n) = true := by simp only [List.all_cons, Bool.and_eq_true] at h; exact h.2
    have i1 := kn_eq (s := s) n d h1
    have i2 := kns_eq (s := s) n ds h2
    cases r with
    | cons k r' =>
      cases j with
      | zero => exact i1 e _ b A he k hb hu
      | succ j => exact i2 _ r' j (by simpa using p) (by simpa using q) e b A he hb hu
end
end
end Mn
set_option Elab.async false
set_option linter.all false
set_option maxRecDepth 100000
set_option maxHeartbeats 4000000
/-! Mn4: operators by values. -/
namespace Mn
open PySem PySem.Spec PyProof.Rows
open L2 hiding ixN atI

def r2 (fx : Fx) (f : T → T → Store → R T) : R2 := fun x y H Q => ∃ g S tx ty W', Rel fx g S H ∧ RepT fx g H x tx ∧ RepT fx g H y ty ∧ Run fx g H (f tx ty S) Q W'
def r1v (fx : Fx) (f : T → Store → R T) : V → Hp → VK → Prop := fun x H Q => ∃ g S tx W', Rel fx g S H ∧ RepT fx g H x tx ∧ Run fx g H (f tx S) Q W'
def rNv (fx : Fx) (f : List T → Store → R T) : List V → Hp → VK → Prop := fun xs H Q => ∃ g S ts W', Rel fx g S H ∧ RepTs fx g H xs ts ∧ Run fx g H (f ts S) Q W'
theorem _root_.L2.Inv.lstR {X : Cx} {pins : List (Addr × Obj)} {σ : L2.St} {H : Hp} {s : Shared} {l : Addr} {xs : List V} (I : Inv X pins σ H s) (h : Rd H l (.lst xs)) :
    ∃ (its : List Value) (n : Nat), Vals xs its ∧ xs.length = its.length ∧ s.heap.get? l = some { cls := .type "list", data := .seq its.toArray n } := by
  obtain ⟨z, its, n, r, e⟩ := h.ok I.hok
  exact ⟨its, n, r, r.length, e⟩
section
variable {X : Cx} {fx : Fx}
/-- list + list, one of them perhaps frozen -/
theorem cat_lists {pins : List (Addr × Obj)} {σ : L2.St} {H : Hp} {s : Shared} {Q : VK} {l b : Addr} {xs ys : List V} (I : Inv X pins σ H s) (h1 : H l = some (.lst xs)) (h2 : H b = some (.lst ys)) (hz : (xs ++ ys).length ≤ sizeLine) (q : ∀ p, H p = none → Q (.ref p) (upd H p (.lst (xs ++ ys)))) :
    wpAny (model X.prog X.w) X.A (binaryOp .Add (.ref l) (.ref b)) (EP X pins σ Q) X.xe s := by
  obtain ⟨its, n, r, hl, e⟩ := I.lstR (.inl h1)
  obtain ⟨its2, n2, r2, hl2, e2⟩ := I.lstR (.inl h2)
  rw [List.length_append] at hz
  refine PySem.P.add_list e e2 ?_ (by rw [List.size_toArray, List.size_toArray]; omega)
  have ea : its.toArray ++ its2.toArray = (its ++ its2).toArray := by simp
  rw [ea]
  exact ⟨.ref _, _, I.lnew (t' := s.toks) (r.append r2) (by rw [List.length_append]; omega), rfl, q _ I.fresh⟩
theorem or_add (md : Bool) (hX : X.K = fx.K) : OpR X (binaryOp .Add) (r2 fx (addS md)) := by
  intro pins s σ H x y v u Q I rx ry h
  obtain ⟨g, S, tx, ty, W', rl, hx, hy, h⟩ := h
  unfold addS at h
  split at h
  · obtain rfl := rt_int hx; obtain rfl := rt_int hy
    exact op_add pins s σ H _ _ v u Q I rx ry ⟨_, _, rfl, rfl, h.fin rl (.d (.int _))⟩
  · obtain rfl := rt_str hx; obtain rfl := rt_str hy
    unfold mkS at h
    split at h
    · rename_i a b z
      refine op_add_str pins s σ H _ _ v u Q I rx ry ⟨_, _, rfl, rfl, ?_, h.fin rl (.d (.str _))⟩
      rw [sizeLine_eq]
      have z2 : (a.cps ++ b.cps).size ≤ 100000 := z
      rw [Array.size_append] at z2
      show a.cps.size + b.cps.size ≤ 16777216
      omega
    · exact h.elim
  · obtain ⟨a, vs, rfl, fa, ra⟩ := rt_tup hx
    obtain ⟨b, ws, rfl, fb, rb⟩ := rt_tup hy
    split at h
    · rename_i hz
      have la := ra.length
      have lb := rb.length
      refine op_catA pins s σ H _ _ v u Q I rx ry ⟨_, _, _, _, rfl, rfl, hX ▸ fa.sq, hX ▸ fb.sq, by rw [sizeLine_eq]; omega, fun e => ?_, fun e e2 => ?_, fun e e2 p hp => ?_⟩
      · subst e; cases ra; exact h.fin rl (.d (.tup fb rb))
      · subst e2; cases rb; rw [List.append_nil] at h; exact h.fin rl (.d (.tup fa ra))
      · exact run_newT h rl (RepDs.append rb ra) p hp
    · exact h.elim
  · split at h
    · rename_i xs ys e1 e2
      obtain ⟨a, vs, rfl, ha, ra⟩ := rdL_rep rl hx e1
      obtain ⟨b, ws, rfl, hb, rb⟩ := rdL_rep rl hy e2
      obtain ⟨q1, q2⟩ := run_mkL h rl (RepDs.append rb ra)
      cases (show v = Value.ref a from rx)
      cases (show u = Value.ref b from ry)
      exact cat_lists I ha hb q1 q2
    · exact h.elim
theorem or_sub : OpR X (binaryOp .Sub) (r2 fx subS) := by
  intro pins s σ H x y v u Q I rx ry h
  obtain ⟨g, S, tx, ty, W', rl, hx, hy, h⟩ := h
  unfold subS at h
  split at h
  · obtain rfl := rt_int hx; obtain rfl := rt_int hy
    exact op_sub pins s σ H _ _ v u Q I rx ry ⟨_, _, rfl, rfl, h.fin rl (.d (.int _))⟩
  · exact h.elim
theorem mulOk_ok {i j : Int} (h : mulOk i j = true) : IntMulOk i j := by
  have h3 : i.natAbs.log2 + j.natAbs.log2 < 60000000 := of_decide_eq_true h
  have b : ∀ x : Int, Builtin.Int.intBits x ≤ x.natAbs.log2 + 1 := fun x => by
    unfold Builtin.Int.intBits
    split <;> omega
  have h1 := b i
  have h2 := b j
  unfold IntMulOk
  intro z
  have z2 := (Bool.and_eq_true_iff.mp z).2
  unfold Builtin.Int.intTooBig at z2
  have z3 := of_decide_eq_true z2
  have e : bitsLine = 134217728 := by decide
  rw [e] at z3
  omega
theorem rep_size (a : Array Nat) : ∀ (n : Nat) (b : Array Nat), ((List.replicate n a).foldl (· ++ ·) b).size = b.size + n * a.size
  | 0, b => by simp
  | n + 1, b => by
    rw [List.replicate_succ, List.foldl_cons, rep_size a n, Array.size_append, Nat.succ_mul]
    omega
theorem op_mul_str : OpR X (binaryOp .Mult) (fun x y H Q => ∃ i j, x = .str i ∧ y = .int j ∧ 2 ≤ j ∧ j ≤ 1000 ∧ 1 ≤ i.length ∧ i.length ≤ 100 ∧ Q (.str (repStr j.toNat i)) H) := by
  intro pins s σ H x y v u Q I rx ry h
  obtain ⟨i, j, rfl, rfl, h1, h2, h3, h4, q⟩ := h
  obtain ⟨t, rfl⟩ := rx
  obtain ⟨t', rfl⟩ := ry
  have hm : i.length * j.toNat ≤ 100 * 1000 := Nat.mul_le_mul h4 (by omega)
  refine PySem.P.mul_str ?_ (fun _ _ => ?_) (fun _ _ => ?_) ?_
  · rw [decide_eq_false (by omega), decide_eq_false (by omega)]
    rfl
  · have : (100 : Int) ≤ (2 ^ 63 - 1) / j := (Int.le_ediv_iff_mul_le (by omega)).mpr (by omega)
    omega
  · show decide (i.length * j.toNat > _) = false
    exact decide_eq_false (by rw [sizeLine_eq]; omega)
  · rw [if_neg (by omega), if_neg (by
      rw [Bool.or_eq_true, beq_iff_eq, beq_iff_eq]
      omega)]
    refine ⟨?_, ⟨.str (repStr j.toNat i), H, I.tok _, ⟨_, rfl⟩, q⟩⟩
    have e := rep_size i.cps j.toNat #[]
    show ((List.replicate j.toNat i.cps).foldl (· ++ ·) #[]).size ≤ _
    have h5 : j.toNat * i.cps.size = i.length * j.toNat := Nat.mul_comm _ _
    rw [e, h5]
    show 0 + _ ≤ 16777216
    omega
theorem or_mul (md : Bool) : OpR X (binaryOp .Mult) (r2 fx (mulS md)) := by
  intro pins s σ H x y v u Q I rx ry h
  obtain ⟨g, S, tx, ty, W', rl, hx, hy, h⟩ := h
  unfold mulS at h
  split at h
  · split at h
    · rename_i hm
      obtain rfl := rt_int hx; obtain rfl := rt_int hy
      exact opI (fun _ _ _ _ _ _ _ hc q => mul_int q hc) pins s σ H _ _ v u Q I rx ry ⟨_, _, rfl, rfl, mulOk_ok hm, h.fin rl (.d (.int _))⟩
    · exact h.elim
  · rename_i xs j
    split at h
    · rename_i hz
      obtain ⟨a, vs, rfl, fa, ha, ra⟩ := rt_lst hx
      obtain rfl := rt_int hy
      have rr : ∀ n : Nat, RepDs fx g.F g.bs H (List.replicate n vs).flatten (List.replicate n xs).flatten := fun n => by
        induction n with
        | zero => exact .nil
        | succ n ih => rw [List.replicate_succ, List.replicate_succ, List.flatten_cons, List.flatten_cons]; exact RepDs.append ih ra
      obtain ⟨q1, q2⟩ := run_mkL h rl (rr _)
      have l1 := ra.length
      refine op_rep pins s σ H _ _ v u Q I rx ry ⟨_, _, _, rfl, rfl, ha, by omega, by omega, ?_, q2⟩
      rw [sizeLine_eq]
      exact Nat.le_trans (Nat.mul_le_mul (show vs.length ≤ 100 by omega) (show j.toNat ≤ 1000 by omega)) (by decide)
    · exact h.elim
  · split at h
    · rename_i hz
      obtain rfl := rt_str hx; obtain rfl := rt_int hy
      exact op_mul_str pins s σ H _ _ v u Q I rx ry ⟨_, _, rfl, rfl, hz.1, hz.2.1, hz.2.2.1, hz.2.2.2, h.fin rl (.d (.str _))⟩
    · exact h.elim
  · exact h.elim
theorem or_fdiv : OpR X (binaryOp .FloorDiv) (r2 fx fdivS) := by
  intro pins s σ H x y v u Q I rx ry h
  obtain ⟨g, S, tx, ty, W', rl, hx, hy, h⟩ := h
  unfold fdivS at h
  split at h
  · split at h
    · rename_i hm
      obtain rfl := rt_int hx; obtain rfl := rt_int hy
      exact op_fdivW pins s σ H _ _ v u Q I rx ry ⟨_, _, rfl, rfl, hm, h.fin rl (.d (.int _))⟩
    · exact h.elim
  · exact h.elim
theorem or_mod : OpR X (binaryOp .Mod) (r2 fx modS) := by
  intro pins s σ H x y v u Q I rx ry h
  obtain ⟨g, S, tx, ty, W', rl, hx, hy, h⟩ := h
  unfold modS at h
  split at h
  · split at h
    · rename_i hm
      obtain rfl := rt_int hx; obtain rfl := rt_int hy
      exact op_mod pins s σ H _ _ v u Q I rx ry ⟨_, _, rfl, rfl, hm, h.fin rl (.d (.int _))⟩
    · exact h.elim
  · exact h.elim
theorem or_pow : OpR X (binaryOp .Pow) (r2 fx powS) := by
  intro pins s σ H x y v u Q I rx ry h
  obtain ⟨g, S, tx, ty, W', rl, hx, hy, h⟩ := h
  unfold powS at h
  split at h
  · split at h
    · rename_i hm
      obtain rfl := rt_int hx; obtain rfl := rt_int hy
      exact op_pow pins s σ H _ _ v u Q I rx ry ⟨_, _, rfl, rfl, ⟨hm.1, by omega, by omega⟩, h.fin rl (.d (.int _))⟩
    · exact h.elim
  · exact h.elim
/-! ### unary, comparisons -/
theorem or_neg : UnR X (unaryOp .USub) (r1v fx negS) := by
  intro pins s σ H x v Q I rx h
  obtain ⟨g, S, tx, W', rl, hx, h⟩ := h
  unfold negS at h
  split at h
  · obtain rfl := rt_int hx
    exact un_neg pins s σ H _ v Q I rx ⟨_, rfl, h.fin rl (.d (.int _))⟩
  · exact h.elim
theorem or_ord {op : CmpOp} {f : Int → Int → Bool} (ho : OpR X (compareOp op) (rI0 fun i j => .bl (f i j))) : OpR X (compareOp op) (r2 fx (ordS f)) := by
  intro pins s σ H x y v u Q I rx ry h
  obtain ⟨g, S, tx, ty, W', rl, hx, hy, h⟩ := h
  unfold ordS at h
  split at h
  · obtain rfl := rt_int hx; obtain rfl := rt_int hy
    exact ho pins s σ H _ _ v u Q I rx ry ⟨_, _, rfl, rfl, h.fin rl (.d (.bl _))⟩
  · exact h.elim
end
end Mn
set_option Elab.async false
set_option linter.all false
set_option maxRecDepth 100000
set_option maxHeartbeats 4000000
/-! Mn5: ==, !=, in, is. -/
namespace Mn
open PySem PySem.Spec PyProof.Rows PySem.SeqAt
open L2 hiding ixN atI

theorem rc_non {s : Shared} {e : D} {b : Value} {A : Around} (hb : Kn s.heap b e) (hu : A.units < cLine) : RcAt A s .none b ((D.non.eqv e)) := by
  cases hb with
  | non  => exact RcAt.none_none
  | bl y => exact RcAt.none_bool  y
  | int y u => exact RcAt.none_int  y u
  | str y u => exact RcAt.none_str  y u
  | lst p _ => exact RcAt.none_list  p hu
  | tup p _ => exact RcAt.none_tuple  p hu
theorem rc_bl {s : Shared} {e : D} {b : Value} {A : Around} (x : Bool) (hb : Kn s.heap b e) (hu : A.units < cLine) : RcAt A s (.bool x) b (((D.bl x).eqv e)) := by
  cases hb with
  | non  => exact RcAt.bool_none x
  | bl y => exact RcAt.bool_bool x y
  | int y u => rw [show (D.bl x).eqv (.int y) = ((if x then 1 else 0) == y) from dec_ii _ _]; exact RcAt.bool_int x y u
  | str y u => exact RcAt.bool_str x y u
  | lst p _ => exact RcAt.bool_list x p hu
  | tup p _ => exact RcAt.bool_tuple x p hu
theorem rc_int {s : Shared} {e : D} {b : Value} {A : Around} (x : Int) (t : Tok) (hb : Kn s.heap b e) (hu : A.units < cLine) : RcAt A s (.int x t) b (((D.int x).eqv e)) := by
  cases hb with
  | non  => exact RcAt.int_none x t
  | bl y => rw [show (D.int x).eqv (.bl y) = (x == (if y then 1 else 0)) from dec_ii _ _]; exact RcAt.int_bool x t y
  | int y u => rw [show (D.int x).eqv (.int y) = (x == y) from dec_ii _ _]; exact RcAt.int_int x t y u
  | str y u => exact RcAt.int_str x t y u
  | lst p _ => exact RcAt.int_list x t p hu
  | tup p _ => exact RcAt.int_tuple x t p hu
theorem rc_str {s : Shared} {e : D} {b : Value} {A : Around} (x : Str) (t : Tok) (hb : Kn s.heap b e) (hu : A.units < cLine) : RcAt A s (.str x t) b (((D.str x).eqv e)) := by
  cases hb with
  | non  => exact RcAt.str_none x t
  | bl y => exact RcAt.str_bool x t y
  | int y u => exact RcAt.str_int x t y u
  | str y u => rw [show (D.str x).eqv (.str y) = (x == y) from dec_ss _ _]; exact RcAt.str_str x t y u
  | lst p _ => exact RcAt.str_list x t p hu
  | tup p _ => exact RcAt.str_tuple x t p hu
theorem rc_lst {s : Shared} {n : Nat} {ds : List D} {e : D} {l : Addr} {its : Array Value} {b : Value} {A : Around} (hd : D.ly (n + 1) (.lst ds) = true) (he : D.ly (n + 1) e = true) (p : s.heap.IsList l its) (r : Kns s.heap its.toList ds) (hb : Kn s.heap b e) (hu : RoomN A (n + 1)) :
    RcAt A s (.ref l) b (((D.lst ds).eqv e)) := by
  have hu' : A.units < cLine := in0 hu
  have hu1 : RoomN A.in1 n := by unfold RoomN at hu ⊢; show A.units + 1 + n < cLine; omega
  have hd' : ds.all (D.ly n) = true := by simpa only [D.ly] using hd
  cases hb with
  | non => exact RcAt.list_none p hu'
  | bl y => exact RcAt.list_bool y p hu'
  | int y t => exact RcAt.list_int y t p hu'
  | str y t => exact RcAt.list_str y t p hu'
  | tup q _ => exact RcAt.list_tuple p q hu'
  | lst q r' =>
    rename_i l' its' es
    have he' : es.all (D.ly n) = true := by simpa only [D.ly] using he
    have l1 := r.length
    have l2 := r'.length
    simp only [Array.length_toList] at l1 l2
    have ih : ∀ (j : Nat) (h1 : j < its.size) (h2 : j < its'.size), EqAt A.in1 s its[j] its'[j] (peq ds es j) := fun j j1 j2 => by
      rw [peq_get (by omega) (by omega)]
      exact kns_eq n ds hd' _ r j (by simpa using j1) (by omega) _ _ A.in1 (ly_at he' (by omega)) (r'.get j (by simpa using j2) (by omega)) hu1
    show RcAt A s (.ref l) (.ref l') ((D.eqvs ds es))
    by_cases hz : its.size = its'.size
    · have h1 : D.eqvs ds es = (List.range its.size).all (peq ds es) := by rw [l1]; exact (eqvs_same (by omega)).symm
      rw [h1]
      exact RcAt.lists p q hz hu' ih
    · rw [eqvs_other (by omega)]
      exact RcAt.lists_lengths p q (by simpa using hz) hu'
theorem rc_tup {s : Shared} {n : Nat} {ds : List D} {e : D} {l : Addr} {its : Array Value} {b : Value} {A : Around} (hd : D.ly (n + 1) (.tup ds) = true) (he : D.ly (n + 1) e = true) (p : s.heap.IsTuple l its) (r : Kns s.heap its.toList ds) (hb : Kn s.heap b e) (hu : RoomN A (n + 1)) :
    RcAt A s (.ref l) b (((D.tup ds).eqv e)) := by
  have hu' : A.units < cLine := in0 hu
  have hu1 : RoomN A.in1 n := by unfold RoomN at hu ⊢; show A.units + 1 + n < cLine; omega
  have hd' : ds.all (D.ly n) = true := by simpa only [D.ly] using hd
  cases hb with
  | non => exact RcAt.tuple_none p hu'
  | bl y => exact RcAt.tuple_bool y p hu'
  | int y t => exact RcAt.tuple_int y t p hu'
  | str y t => exact RcAt.tuple_str y t p hu'
  | lst q _ => exact RcAt.tuple_list p q hu'
  | tup q r' =>
    rename_i l' its' es
    have he' : es.all (D.ly n) = true := by simpa only [D.ly] using he
    have l1 := r.length
    have l2 := r'.length
    simp only [Array.length_toList] at l1 l2
    have ih : ∀ (j : Nat) (h1 : j < its.size) (h2 : j < its'.size), EqAt A.in1 s its[j] its'[j] (peq ds es j) := fun j j1 j2 => by
      rw [peq_get (by omega) (by omega)]
      exact kns_eq n ds hd' _ r j (by simpa using j1) (by omega) _ _ A.in1 (ly_at he' (by omega)) (r'.get j (by simpa using j2) (by omega)) hu1
    show RcAt A s (.ref l) (.ref l') ((D.eqvs ds es))
    rw [← eqvs_all ds es, ← l1, ← l2]
    exact RcAt.tuples p q hu' ih
theorem rc_kn {s : Shared} {n : Nat} {d e : D} {a b : Value} {A : Around} (hd : D.ly (n + 1) d = true) (he : D.ly (n + 1) e = true) (ha : Kn s.heap a d) (hb : Kn s.heap b e) (hu : RoomN A (n + 1)) : RcAt A s a b ((d.eqv e)) := by
  cases ha with
  | non => exact rc_non hb (in0 hu)
  | bl x => exact rc_bl x hb (in0 hu)
  | int x t => exact rc_int x t hb (in0 hu)
  | str x t => exact rc_str x t hb (in0 hu)
  | lst p r => exact rc_lst hd he p r hb hu
  | tup p r => exact rc_tup hd he p r hb hu
theorem ne_non {s : Shared} {e : D} {b : Value} {A : Around} (hb : Kn s.heap b e) (hu : A.units < cLine) : RcNeAt A s .none b (!(D.non.eqv e)) := by
  cases hb with
  | non  => exact RcNeAt.none_none
  | bl y => exact RcNeAt.none_bool  y
  | int y u => exact RcNeAt.none_int  y u
  | str y u => exact RcNeAt.none_str  y u
  | lst p _ => exact RcNeAt.none_list  p hu
  | tup p _ => exact RcNeAt.none_tuple  p hu
theorem ne_bl {s : Shared} {e : D} {b : Value} {A : Around} (x : Bool) (hb : Kn s.heap b e) (hu : A.units < cLine) : RcNeAt A s (.bool x) b (!((D.bl x).eqv e)) := by
  cases hb with
  | non  => exact RcNeAt.bool_none x
  | bl y => exact RcNeAt.bool_bool x y
  | int y u => rw [show (D.bl x).eqv (.int y) = ((if x then 1 else 0) == y) from dec_ii _ _]; exact RcNeAt.bool_int x y u
  | str y u => exact RcNeAt.bool_str x y u
  | lst p _ => exact RcNeAt.bool_list x p hu
  | tup p _ => exact RcNeAt.bool_tuple x p hu
theorem ne_int {s : Shared} {e : D} {b : Value} {A : Around} (x : Int) (t : Tok) (hb : Kn s.heap b e) (hu : A.units < cLine) : RcNeAt A s (.int x t) b (!((D.int x).eqv e)) := by
  cases hb with
  | non  => exact RcNeAt.int_none x t
  | bl y => rw [show (D.int x).eqv (.bl y) = (x == (if y then 1 else 0)) from dec_ii _ _]; exact RcNeAt.int_bool x t y
  | int y u => rw [show (D.int x).eqv (.int y) = (x == y) from dec_ii _ _]; exact RcNeAt.int_int x t y u
  | str y u => exact RcNeAt.int_str x t y u
  | lst p _ => exact RcNeAt.int_list x t p hu
  | tup p _ => exact RcNeAt.int_tuple x t p hu
theorem ne_str {s : Shared} {e : D} {b : Value} {A : Around} (x : Str) (t : Tok) (hb : Kn s.heap b e) (hu : A.units < cLine) : RcNeAt A s (.str x t) b (!((D.str x).eqv e)) := by
  cases hb with
  | non  => exact RcNeAt.str_none x t
  | bl y => exact RcNeAt.str_bool x t y
  | int y u => exact RcNeAt.str_int x t y u
  | str y u => rw [show (D.str x).eqv (.str y) = (x == y) from dec_ss _ _]; exact RcNeAt.str_str x t y u
  | lst p _ => exact RcNeAt.str_list x t p hu
  | tup p _ => exact RcNeAt.str_tuple x t p hu
theorem ne_lst {s : Shared} {n : Nat} {ds : List D} {e : D} {l : Addr} {its : Array Value} {b : Value} {A : Around} (hd : D.ly (n + 1) (.lst ds) = true) (he : D.ly (n + 1) e = true) (p : s.heap.IsList l its) (r : Kns s.heap its.toList ds) (hb : Kn s.heap b e) (hu : RoomN A (n + 1)) :
    RcNeAt A s (.ref l) b (!((D.lst ds).eqv e)) := by
  have hu' : A.units < cLine := in0 hu
  have hu1 : RoomN A.in1 n := by unfold RoomN at hu ⊢; show A.units + 1 + n < cLine; omega
  have hd' : ds.all (D.ly n) = true := by simpa only [D.ly] using hd
  cases hb with
  | non => exact RcNeAt.list_none p hu'
  | bl y => exact RcNeAt.list_bool y p hu'
  | int y t => exact RcNeAt.list_int y t p hu'
  | str y t => exact RcNeAt.list_str y t p hu'
  | tup q _ => exact RcNeAt.list_tuple p q hu'
  | lst q r' =>
    rename_i l' its' es
    have he' : es.all (D.ly n) = true := by simpa only [D.ly] using he
    have l1 := r.length
    have l2 := r'.length
    simp only [Array.length_toList] at l1 l2
    have ih : ∀ (j : Nat) (h1 : j < its.size) (h2 : j < its'.size), EqAt A.in1 s its[j] its'[j] (peq ds es j) := fun j j1 j2 => by
      rw [peq_get (by omega) (by omega)]
      exact kns_eq n ds hd' _ r j (by simpa using j1) (by omega) _ _ A.in1 (ly_at he' (by omega)) (r'.get j (by simpa using j2) (by omega)) hu1
    show RcNeAt A s (.ref l) (.ref l') (!(D.eqvs ds es))
    by_cases hz : its.size = its'.size
    · have h1 : D.eqvs ds es = (List.range its.size).all (peq ds es) := by rw [l1]; exact (eqvs_same (by omega)).symm
      rw [h1]
      exact RcNeAt.lists p q hz hu' ih
    · rw [eqvs_other (by omega)]
      exact RcNeAt.lists_lengths p q (by simpa using hz) hu'
theorem ne_tup {s : Shared} {n : Nat} {ds : List D} {e : D} {l : Addr} {its : Array Value} {b : Value} {A : Around} (hd : D.ly (n + 1) (.tup ds) = true) (he : D.ly (n + 1) e = true) (p : s.heap.IsTuple l its) (r : Kns s.heap its.toList ds) (hb : Kn s.heap b e) (hu : RoomN A (n + 1)) :
    RcNeAt A s (.ref l) b (!((D.tup ds).eqv e)) := by
  have hu' : A.units < cLine := in0 hu
  have hu1 : RoomN A.in1 n := by unfold RoomN at hu ⊢; show A.units + 1 + n < cLine; omega
  have hd' : ds.all (D.ly n) = true := by simpa only [D.ly] using hd
  cases hb with
  | non => exact RcNeAt.tuple_none p hu'
  | bl y => exact RcNeAt.tuple_bool y p hu'
  | int y t => exact RcNeAt.tuple_int y t p hu'
  | str y t => exact RcNeAt.tuple_str y t p hu'
  | lst q _ => exact RcNeAt.tuple_list p q hu'
  | tup q r' =>
    rename_i l' its' es
    have he' : es.all (D.ly n) = true := by simpa only [D.ly] using he
    have l1 := r.length
    have l2 := r'.length
    simp only [Array.length_toList] at l1 l2
    have ih : ∀ (j : Nat) (h1 : j < its.size) (h2 : j < its'.size), EqAt A.in1 s its[j] its'[j] (peq ds es j) := fun j j1 j2 => by
      rw [peq_get (by omega) (by omega)]
      exact kns_eq n ds hd' _ r j (by simpa using j1) (by omega) _ _ A.in1 (ly_at he' (by omega)) (r'.get j (by simpa using j2) (by omega)) hu1
    show RcNeAt A s (.ref l) (.ref l') (!(D.eqvs ds es))
    rw [← eqvs_all ds es, ← l1, ← l2]
    exact RcNeAt.tuples p q hu' ih
theorem ne_kn {s : Shared} {n : Nat} {d e : D} {a b : Value} {A : Around} (hd : D.ly (n + 1) d = true) (he : D.ly (n + 1) e = true) (ha : Kn s.heap a d) (hb : Kn s.heap b e) (hu : RoomN A (n + 1)) : RcNeAt A s a b (!(d.eqv e)) := by
  cases ha with
  | non => exact ne_non hb (in0 hu)
  | bl x => exact ne_bl x hb (in0 hu)
  | int x t => exact ne_int x t hb (in0 hu)
  | str x t => exact ne_str x t hb (in0 hu)
  | lst p r => exact ne_lst hd he p r hb hu
  | tup p r => exact ne_tup hd he p r hb hu

section
variable {X : Cx} {fx : Fx} {g : Gh} {pins : List (Addr × Obj)} {σ : L2.St} {H : Hp} {s : Shared}
theorem IsTup.isT {h : Heap} {a : Addr} {its : Array Value} (p : IsTup h a its) : h.IsTuple a its := p
mutual
theorem repD_kn (hX : X.K = fx.K) (I : Inv X pins σ H s) : ∀ (n : Nat) {v : V} {d : D} {u : Value}, D.ly n d = true → RepD fx g.F g.bs H v d → RelV v u → Kn s.heap u d
  | n, _, .non, _, _, .non, r => by cases (show _ = Value.none from r); exact .non
  | n, _, .bl b, _, _, .bl _, r => by cases (show _ = Value.bool b from r); exact .bl b
  | n, _, .int i, _, _, .int _, r => by obtain ⟨t, rfl⟩ := r; exact .int i t
  | n, _, .str x, _, _, .str _, r => by obtain ⟨t, rfl⟩ := r; exact .str x t
  | 0, _, .lst _, _, h, _, _ => by simp [D.ly] at h
  | 0, _, .tup _, _, h, _, _ => by simp [D.ly] at h
  | n + 1, _, .lst ds, _, h, .lst h1 h2 h3, r => by
    cases (show _ = Value.ref _ from r)
    obtain ⟨its, rv, p, _⟩ := I.list (.inl (.inl h2))
    exact .lst p.isList (repDs_kn hX I n (by simpa only [D.ly] using h) h3 rv)
  | n + 1, _, .tup ds, _, h, .tup h1 h3, r => by
    cases (show _ = Value.ref _ from r)
    obtain ⟨its, rv, p, _⟩ := I.tuple (show SqT X.K H _ _ from hX ▸ h1.sq)
    exact .tup (show s.heap.IsTuple _ its.toArray from p) (repDs_kn hX I n (by simpa only [D.ly] using h) h3 rv)
  | n, _, .obj c fs, _, h, _, _ => by cases n <;> simp [D.ly] at h
  | n, _, .dct c fs, _, h, _, _ => by cases n <;> simp [D.ly] at h
  | n, _, .gref c, _, h, _, _ => by cases n <;> simp [D.ly] at h
theorem repDs_kn (hX : X.K = fx.K) (I : Inv X pins σ H s) : ∀ (n : Nat) {vs : List V} {ds : List D} {us : List Value}, ds.all (D.ly n) = true → RepDs fx g.F g.bs H vs ds → Vals vs us → Kns s.heap us ds
  | n, _, [], _, _, .nil, .nil => .nil
  | n, _, d :: ds, _, h, .cons h1 h2, .cons r1 r2 => by
    simp only [List.all_cons, Bool.and_eq_true] at h
    exact .cons (repD_kn hX I n h.1 h1 r1) (repDs_kn hX I n h.2 h2 r2)
end
theorem red_kn (hX : X.K = fx.K) (I : Inv X pins σ H s) {n : Nat} {v : V} {d : D} {u : Value} (h : D.ly n d = true) (r : Red fx g H v d) (rv : RelV v u) : Kn s.heap u d := by
  cases r with
  | flat _ q => exact repD_kn hX I n h q rv
  | lst h1 h3 =>
    cases n with
    | zero => simp [D.ly] at h
    | succ n =>
      cases (show _ = Value.ref _ from rv)
      obtain ⟨its, rv, p, _⟩ := I.list (show SqL X.K H _ _ from hX ▸ h1)
      exact .lst p.isList (repDs_kn hX I n (by simpa only [D.ly] using h) h3 rv)
  | tup h1 h3 =>
    cases n with
    | zero => simp [D.ly] at h
    | succ n =>
      cases (show _ = Value.ref _ from rv)
      obtain ⟨its, rv, p, _⟩ := I.tuple (hX ▸ h1)
      exact .tup (show s.heap.IsTuple _ its.toArray from p) (repDs_kn hX I n (by simpa only [D.ly] using h) h3 rv)
  | dct _ _ _ => cases n <;> simp [D.ly] at h
  | obj _ _ _ _ => cases n <;> simp [D.ly] at h
end
section
variable {X : Cx} {fx : Fx}
theorem run_ofB {g : Gh} {H : Hp} {S : Store} {W : XW} {Q : VK} {o : Option Bool} {f : Bool → Bool} (h : Run fx g H (ofB o f S) Q W) (rl : Rel fx g S H) : ∃ b, o = some b ∧ Q (.bl (f b)) H := by
  cases o with
  | none => exact h.elim
  | some b => exact ⟨b, rfl, h.fin rl (.d (.bl _))⟩
section
variable {g : Gh} {pins : List (Addr × Obj)} {σ : L2.St} {H : Hp} {s : Shared} {S : Store}
theorem repDs_dp {n : Nat} (ih : ∀ {m : Nat} {v : V} {d : D} {u : Value}, (S.dp n d).ly m = true → RepD fx g.F g.bs H v d → RelV v u → Kn s.heap u (S.dp n d)) {m : Nat} : ∀ {vs : List V} {ds : List D} {us : List Value}, (ds.map (S.dp n)).all (D.ly m) = true → RepDs fx g.F g.bs H vs ds → Vals vs us → Kns s.heap us (ds.map (S.dp n))
  | _, [], _, _, .nil, .nil => .nil
  | _, d :: ds, _, h, .cons h1 h2, .cons r1 r2 => by
    simp only [List.map_cons, List.all_cons, Bool.and_eq_true] at h
    exact .cons (ih h.1 h1 r1) (repDs_dp ih h.2 h2 r2)
theorem repD_dp (hX : X.K = fx.K) (I : Inv X pins σ H s) (rl : Rel fx g S H) : ∀ (n : Nat) {m : Nat} {v : V} {d : D} {u : Value}, (S.dp n d).ly m = true → RepD fx g.F g.bs H v d → RelV v u → Kn s.heap u (S.dp n d) := by
  intro n
  induction n with
  | zero => exact fun {m v d u} h q r => repD_kn hX I m h q r
  | succ n ih =>
    intro m v d u h q r
    cases q with
    | non => exact repD_kn (g := g) hX I m h .non r
    | bl b => exact repD_kn (g := g) hX I m h (.bl b) r
    | int i => exact repD_kn (g := g) hX I m h (.int i) r
    | str x => exact repD_kn (g := g) hX I m h (.str x) r
    | @gref a k hb =>
      cases (show _ = Value.ref _ from r)
      simp only [Store.dp] at h ⊢
      split at h
      · rename_i xs e
        obtain ⟨vs, e1, e2⟩ := rl.cG _ _ _ hb e
        obtain ⟨its, rv, p, _⟩ := I.list (.inl (.inl e1))
        cases m with
        | zero => simp [D.ly] at h
        | succ m => exact .lst p.isList (repDs_dp ih (by simpa only [D.ly] using h) e2 rv)
      · cases m <;> simp [D.ly] at h
    | @lst a vs ds h1 h2 h3 =>
      cases (show _ = Value.ref _ from r)
      simp only [Store.dp] at h ⊢
      obtain ⟨its, rv, p, _⟩ := I.list (.inl (.inl h2))
      cases m with
      | zero => simp [D.ly] at h
      | succ m => exact .lst p.isList (repDs_dp ih (by simpa only [D.ly] using h) h3 rv)
    | @tup a vs ds h1 h3 =>
      cases (show _ = Value.ref _ from r)
      simp only [Store.dp] at h ⊢
      obtain ⟨its, rv, p, _⟩ := I.tuple (show SqT X.K H _ _ from hX ▸ h1.sq)
      cases m with
      | zero => simp [D.ly] at h
      | succ m => exact .tup (show s.heap.IsTuple _ its.toArray from p) (repDs_dp ih (by simpa only [D.ly] using h) h3 rv)
    | obj _ _ _ _ _ => simp only [Store.dp] at h; cases m <;> simp [D.ly] at h
    | dct _ _ _ _ _ => simp only [Store.dp] at h; cases m <;> simp [D.ly] at h
theorem red_dp (hX : X.K = fx.K) (I : Inv X pins σ H s) (rl : Rel fx g S H) {n m : Nat} {v : V} {d : D} {u : Value} (h : (S.dp n d).ly m = true) (r : Red fx g H v d) (rv : RelV v u) : Kn s.heap u (S.dp n d) := by
  cases n with
  | zero => exact red_kn hX I h r rv
  | succ n =>
    cases r with
    | flat _ q => exact repD_dp hX I rl (n + 1) h q rv
    | lst h1 h3 =>
      simp only [Store.dp] at h ⊢
      cases m with
      | zero => simp [D.ly] at h
      | succ m =>
        cases (show _ = Value.ref _ from rv)
        obtain ⟨its, rv, p, _⟩ := I.list (show SqL X.K H _ _ from hX ▸ h1)
        exact .lst p.isList (repDs_dp (fun {m v d u} => repD_dp hX I rl n) (by simpa only [D.ly] using h) h3 rv)
    | tup h1 h3 =>
      simp only [Store.dp] at h ⊢
      cases m with
      | zero => simp [D.ly] at h
      | succ m =>
        cases (show _ = Value.ref _ from rv)
        obtain ⟨its, rv, p, _⟩ := I.tuple (hX ▸ h1)
        exact .tup (show s.heap.IsTuple _ its.toArray from p) (repDs_dp (fun {m v d u} => repD_dp hX I rl n) (by simpa only [D.ly] using h) h3 rv)
    | dct _ _ _ => simp only [Store.dp] at h; cases m <;> simp [D.ly] at h
    | obj _ _ _ _ => simp only [Store.dp] at h; cases m <;> simp [D.ly] at h
theorem eqS_kn (hX : X.K = fx.K) (I : Inv X pins σ H s) (rl : Rel fx g S H) {tx ty : T} {x y : V} {v u : Value} {k : Bool} (h : eqS tx ty S = some k) (hx : RepT fx g H x tx) (hy : RepT fx g H y ty) (rx : RelV x v) (ry : RelV y u) :
    ∃ d e, d.ly lyMax = true ∧ e.ly lyMax = true ∧ Kn s.heap v d ∧ Kn s.heap u e ∧ k = d.eqv e := by
  unfold eqS at h
  split at h
  · rename_i d e e1 e2
    split at h
    · rename_i hl
      simp only [Bool.and_eq_true] at hl
      cases h
      exact ⟨d, e, hl.1, hl.2, red_kn hX I hl.1 (rd_red rl hx e1) rx, red_kn hX I hl.2 (rd_red rl hy e2) ry, rfl⟩
    · split at h
      · rename_i hl
        simp only [Bool.and_eq_true] at hl
        cases h
        exact ⟨_, _, hl.1, hl.2, red_dp hX I rl hl.1 (rd_red rl hx e1) rx, red_dp hX I rl hl.2 (rd_red rl hy e2) ry, rfl⟩
      · cases h
  · cases h
end
theorem or_eq (hX : X.K = fx.K) (hu : X.A.units + 64 < cLine) : OpR X (compareOp .Eq) (r2 fx fun a b S => ofB (eqS a b S) id S) := by
  intro pins s σ H x y v u Q I rx ry h
  obtain ⟨g, S, tx, ty, W', rl, hx, hy, h⟩ := h
  obtain ⟨k, e, q⟩ := run_ofB h rl
  obtain ⟨d1, d2, l1, l2, k1, k2, rfl⟩ := eqS_kn hX I rl e hx hy rx ry
  exact rc_kn (n := 11) l1 l2 k1 k2 (by unfold RoomN; omega) X.prog X.w _ _ ⟨.bl _, H, I, rfl, q⟩
theorem or_ne (hX : X.K = fx.K) (hu : X.A.units + 64 < cLine) : OpR X (compareOp .NotEq) (r2 fx fun a b S => ofB (eqS a b S) Bool.not S) := by
  intro pins s σ H x y v u Q I rx ry h
  obtain ⟨g, S, tx, ty, W', rl, hx, hy, h⟩ := h
  obtain ⟨k, e, q⟩ := run_ofB h rl
  obtain ⟨d1, d2, l1, l2, k1, k2, rfl⟩ := eqS_kn hX I rl e hx hy rx ry
  exact ne_kn (n := 11) l1 l2 k1 k2 (by unfold RoomN; omega) X.prog X.w _ _ ⟨.bl _, H, I, rfl, q⟩
/-! ### is -/
theorem isS_run {g : Gh} {H : Hp} {tx ty : T} {x y : V} {v u : Value} {k : Bool} (hx : RepT fx g H x tx) (hy : RepT fx g H y ty) (rx : RelV x v) (ry : RelV y u) (e : isS tx ty = some k) :
    (u = .none ∧ (v == Value.none) = k) ∨ (∃ a b, x = .bl a ∧ y = .bl b ∧ k = decide (a = b)) ∨ (∃ i t b, v = .int i t ∧ u = .bool b ∧ k = false) := by
  unfold isS at e
  split at e
  all_goals first | (cases e; done) | skip
  · cases e; obtain rfl := rt_non hx; obtain rfl := rt_non hy; cases (show v = Value.none from rx); cases (show u = Value.none from ry); exact .inl ⟨rfl, rfl⟩
  · cases e; obtain rfl := rt_bl hx; obtain rfl := rt_bl hy; refine .inr (.inl ⟨_, _, rfl, rfl, ?_⟩); rename_i a b; cases a <;> cases b <;> rfl
  · cases e; obtain rfl := rt_int hx; obtain rfl := rt_bl hy; obtain ⟨t, rfl⟩ := rx; cases (show u = Value.bool _ from ry); exact .inr (.inr ⟨_, _, _, rfl, rfl, rfl⟩)
  all_goals
    cases e
    obtain rfl := rt_non hy
    cases (show u = Value.none from ry)
    refine .inl ⟨rfl, ?_⟩
    first
      | (cases hx; cases (show v = Value.ref _ from rx); rfl; done)
      | (cases hx; rename_i hx; cases hx <;> first | (cases (show v = Value.bool _ from rx); rfl) | (cases (show v = Value.ref _ from rx); rfl) | (obtain ⟨t, rfl⟩ := rx; rfl))
theorem or_is : OpR X (compareOp .Is) (r2 fx fun a b S => ofB (isS a b) id S) := by
  intro pins s σ H x y v u Q I rx ry h
  obtain ⟨g, S, tx, ty, W', rl, hx, hy, h⟩ := h
  obtain ⟨k, e, q⟩ := run_ofB h rl
  rcases isS_run hx hy rx ry e with ⟨rfl, e⟩ | ⟨a, b, rfl, rfl, rfl⟩ | ⟨i, t, b, rfl, rfl, rfl⟩
  · exact is_none_gen (fin_bl I q e.symm)
  · exact op_isBl pins s σ H _ _ v u Q I rx ry ⟨_, _, rfl, rfl, q⟩
  · exact wpAny_pure ⟨.bl false, H, I, rfl, q⟩
theorem or_isnot : OpR X (compareOp .IsNot) (r2 fx fun a b S => ofB (isS a b) Bool.not S) := by
  intro pins s σ H x y v u Q I rx ry h
  obtain ⟨g, S, tx, ty, W', rl, hx, hy, h⟩ := h
  obtain ⟨k, e, q⟩ := run_ofB h rl
  rcases isS_run hx hy rx ry e with ⟨rfl, e⟩ | ⟨a, b, rfl, rfl, rfl⟩ | ⟨i, t, b, rfl, rfl, rfl⟩
  · exact isnot_none_gen (fin_bl I q (by rw [e]))
  · exact op_notBl pins s σ H _ _ v u Q I rx ry ⟨_, _, rfl, rfl, q⟩
  · exact wpAny_pure ⟨.bl true, H, I, rfl, q⟩

/-! ### in -/
open Classical in
/-- an item equals dx -/
noncomputable def keq (h : Heap) (dx : D) (y : Value) : Bool := if k : ∃ d, Kn h y d then (choose k).eqv dx else false
theorem keq_of {h : Heap} {dx d : D} {y : Value} (k : Kn h y d) : keq h dx y = d.eqv dx := by
  have z : ∃ d, Kn h y d := ⟨d, k⟩
  unfold keq
  rw [dif_pos z, Kn.one (Classical.choose_spec z) k]
theorem keq_any {h : Heap} {dx : D} : ∀ {vs : List Value} {ds : List D}, Kns h vs ds → vs.any (keq h dx) = ds.any fun d => d.eqv dx
  | _, _, .nil => rfl
  | _, _, .cons a r => by rw [List.any_cons, List.any_cons, keq_of a, keq_any r]
theorem kns_mem {h : Heap} : ∀ {vs : List Value} {ds : List D}, Kns h vs ds → ∀ y ∈ vs, ∃ d ∈ ds, Kn h y d
  | _, _, .cons a r, y, hy => by
    rcases List.mem_cons.mp hy with rfl | hy
    · exact ⟨_, List.mem_cons_self, a⟩
    · obtain ⟨d, hd, k⟩ := kns_mem r y hy
      exact ⟨d, List.mem_cons_of_mem _ hd, k⟩
theorem keq_at {s : Shared} {A : Around} {n : Nat} {its : Array Value} {ds : List D} {dx : D} {x : Value} (hd : ds.all (D.ly n) = true) (hx : D.ly n dx = true) (r : Kns s.heap its.toList ds) (kx : Kn s.heap x dx) (hu : RoomN A n) : ∀ y, y ∈ its → EqAt A s y x (keq s.heap dx y) := fun y hy => by
  obtain ⟨d, hd', k⟩ := kns_mem r y (by simpa using hy)
  rw [keq_of k]
  exact kn_eq n d (List.all_eq_true.mp hd d hd') dx y x A hx k kx hu
/-- the ways of «in» -/
inductive InW (fx : Fx) (g : Gh) (H : Hp) : V → V → Bool → Prop where
  | sub (x z : Str) : InW fx g H (.str x) (.str z) (subStr x z)
  | dct {a : Addr} {vs : List V} {ks : List Key} {k : Key} : H a = some (.dK (ks.zip vs)) → ks.length = vs.length → InW fx g H (kV k) (.ref a) (valV (ks.zip vs) k).isSome
  | seq {x y : V} {dx : D} {ds : List D} : dx.ly 12 = true → ds.all (D.ly 11) = true → Red fx g H x dx → (Red fx g H y (.lst ds) ∨ Red fx g H y (.tup ds)) → InW fx g H x y (ds.any fun d => d.eqv dx)
theorem look_val (k : Key) : ∀ (ks : List Key) (vs : List V) (ds : List D) {F : Addr → Prop} {bs : List Addr} {H : Hp}, ks.length = vs.length → RepDs fx F bs H vs ds → (look k ks ds = none ∧ valV (ks.zip vs) k = none) ∨ ∃ d v, look k ks ds = some d ∧ valV (ks.zip vs) k = some v ∧ RepD fx F bs H v d
  | [], [], [], _, _, _, _, _ => .inl ⟨rfl, rfl⟩
  | [], _ :: _, _, _, _, _, h, _ => by simp at h
  | _ :: _, [], _, _, _, _, h, _ => by simp at h
  | k' :: ks, v :: vs, d :: ds, F, bs, H, h, .cons a r => by
    have ih := look_val k ks vs ds (by simpa using h) r
    by_cases e : k' = k
    · subst e
      refine .inr ⟨d, v, ?_, ?_, a⟩
      · simp [look]
      · simp [valV]
    · have e1 : look k (k' :: ks) (d :: ds) = look k ks ds := by simp [look, e]
      have e2 : valV ((k' :: ks).zip (v :: vs)) k = valV (ks.zip vs) k := by simp [valV, e]
      rw [e1, e2]
      exact ih
theorem toKey_red {g : Gh} {H : Hp} {x : V} {d : D} {k : Key} (r : Red fx g H x d) (e : toKey d = some k) : x = kV k := by
  cases r with
  | flat _ q => cases q <;> simp [toKey] at e <;> subst e <;> rfl
  | _ => simp [toKey] at e
theorem inS_w {g : Gh} {H : Hp} {S : Store} {tx ty : T} {x y : V} {k : Bool} (rl : Rel fx g S H) (hx : RepT fx g H x tx) (hy : RepT fx g H y ty) (e : inS tx ty S = some k) : InW fx g H x y k := by
  unfold inS at e
  split at e
  · cases e; obtain rfl := rt_str hx; obtain rfl := rt_str hy; exact .sub _ _
  · split at e
    · rename_i k0 ks ds e1 e2
      split at e
      · cases e
        rename_i kk ek
        have r1 := rd_red rl hx e1
        obtain rfl := toKey_red r1 ek
        cases rd_red rl hy e2 with
        | flat f q => cases q; simp [flatV] at f
        | dct h1 h2 h3 =>
          rename_i a vs
          have e3 : (look kk ks ds).isSome = (valV (ks.zip vs) kk).isSome := by
            rcases look_val kk ks vs ds h2 h3 with ⟨z1, z2⟩ | ⟨d, v, z1, z2, _⟩
            · rw [z1, z2]; rfl
            · rw [z1, z2]; rfl
          rw [e3]
          exact .dct h1 h2
      · cases e
    · rename_i e1 e2
      split at e
      · rename_i hl
        simp only [Bool.and_eq_true] at hl
        cases e
        exact .seq hl.1 (by simpa only [D.ly, lyMax] using hl.2) (rd_red rl hx e1) (.inl (rd_red rl hy e2))
      · cases e
    · rename_i e1 e2
      split at e
      · rename_i hl
        simp only [Bool.and_eq_true] at hl
        cases e
        exact .seq hl.1 (by simpa only [D.ly, lyMax] using hl.2) (rd_red rl hx e1) (.inr (rd_red rl hy e2))
      · cases e
    · cases e
theorem ly_up : ∀ (n : Nat) (d : D), D.ly n d = true → D.ly (n + 1) d = true := by
  intro n
  induction n with
  | zero => intro d h; cases d <;> simp_all [D.ly]
  | succ n ih =>
    intro d h
    cases d with
    | tup ds =>
      have h' : ds.all (D.ly n) = true := by simpa only [D.ly] using h
      show ds.all (D.ly (n + 1)) = true
      exact List.all_eq_true.mpr fun x hx => ih x (List.all_eq_true.mp h' x hx)
    | lst ds =>
      have h' : ds.all (D.ly n) = true := by simpa only [D.ly] using h
      show ds.all (D.ly (n + 1)) = true
      exact List.all_eq_true.mpr fun x hx => ih x (List.all_eq_true.mp h' x hx)
    | _ => simp_all [D.ly]

theorem or_in (hX : X.K = fx.K) (hu : X.A.units + 65 < cLine) : OpR X (compareOp .In) (r2 fx fun a b S => ofB (inS a b S) id S) := by
  intro pins s σ H x y v u Q I rx ry h
  obtain ⟨g, S, tx, ty, W', rl, hx, hy, h⟩ := h
  obtain ⟨k, e, q⟩ := run_ofB h rl
  cases inS_w rl hx hy e with
  | sub a b => exact op_in_str pins s σ H _ _ v u Q I rx ry ⟨_, _, rfl, rfl, q⟩
  | dct h1 h2 =>
    cases (show u = Value.ref _ from ry)
    exact d_in (by omega) I (DGet.k h1) rx fun s3 I3 => ⟨.bl _, H, I3, rfl, q⟩
  | seq l1 l2 r1 r2 =>
    have kx := red_kn hX I l1 r1 rx
    rcases r2 with r2 | r2
    · cases red_kn hX I (n := 12) (by simpa only [D.ly] using l2) r2 ry with
      | lst p r => exact in_listAt (keq s.heap _) p (keq_at (n := 12) (List.all_eq_true.mpr fun z hz => ly_up 11 z (List.all_eq_true.mp l2 z hz)) l1 r kx (by unfold RoomN; show X.A.units + 1 + 12 < cLine; omega)) ⟨.bl _, H, I, by rw [← Array.any_toList, keq_any r]; rfl, q⟩
    · cases red_kn hX I (n := 12) (by simpa only [D.ly] using l2) r2 ry with
      | tup p r => exact in_tupleAt (keq s.heap _) p (keq_at (n := 12) (List.all_eq_true.mpr fun z hz => ly_up 11 z (List.all_eq_true.mp l2 z hz)) l1 r kx (by unfold RoomN; show X.A.units + 1 + 12 < cLine; omega)) ⟨.bl _, H, I, by rw [← Array.any_toList, keq_any r]; rfl, q⟩
theorem or_notin (hX : X.K = fx.K) (hu : X.A.units + 65 < cLine) : OpR X (compareOp .NotIn) (r2 fx fun a b S => ofB (inS a b S) Bool.not S) := by
  intro pins s σ H x y v u Q I rx ry h
  obtain ⟨g, S, tx, ty, W', rl, hx, hy, h⟩ := h
  obtain ⟨k, e, q⟩ := run_ofB h rl
  cases inS_w rl hx hy e with
  | sub a b => exact op_notin_str pins s σ H _ _ v u Q I rx ry ⟨_, _, rfl, rfl, q⟩
  | dct h1 h2 =>
    cases (show u = Value.ref _ from ry)
    exact d_notIn (by omega) I (DGet.k h1) rx fun s3 I3 => ⟨.bl _, H, I3, rfl, q⟩
  | seq l1 l2 r1 r2 =>
    have kx := red_kn hX I l1 r1 rx
    rcases r2 with r2 | r2
    · cases red_kn hX I (n := 12) (by simpa only [D.ly] using l2) r2 ry with
      | lst p r => exact notIn_listAt (keq s.heap _) p (keq_at (n := 12) (List.all_eq_true.mpr fun z hz => ly_up 11 z (List.all_eq_true.mp l2 z hz)) l1 r kx (by unfold RoomN; show X.A.units + 1 + 12 < cLine; omega)) ⟨.bl _, H, I, by rw [← Array.any_toList, keq_any r]; rfl, q⟩
    · cases red_kn hX I (n := 12) (by simpa only [D.ly] using l2) r2 ry with
      | tup p r => exact notIn_tupleAt (keq s.heap _) p (keq_at (n := 12) (List.all_eq_true.mpr fun z hz => ly_up 11 z (List.all_eq_true.mp l2 z hz)) l1 r kx (by unfold RoomN; show X.A.units + 1 + 12 < cLine; omega)) ⟨.bl _, H, I, by rw [← Array.any_toList, keq_any r]; rfl, q⟩
end
end Mn
set_option Elab.async false
set_option linter.all false
set_option maxRecDepth 100000
set_option maxHeartbeats 4000000
/-! Mn6: items, slices, calls of builtins by values. -/
namespace Mn
open PySem PySem.Spec PyProof.Rows PySem.SeqAt
open L2 hiding ixN atI

section
variable {fx : Fx} {g : Gh} {H : Hp} {S : Store} {W : XW} {Q : VK} {x : V}
theorem repTs_at {vs : List V} {ts : List T} {t : T} {i : Int} (r : RepTs fx g H vs ts) (h : ((ixN ts.length i).bind fun j => ts[j]?) = some t) : ∃ v, L2.atI vs i = some v ∧ RepT fx g H v t := by
  obtain ⟨j, h1, h2⟩ := Option.bind_eq_some_iff.mp h
  obtain ⟨v, e, q⟩ := r.get h2
  refine ⟨v, ?_, q⟩
  unfold L2.atI
  rw [r.length, show L2.ixN ts.length i = some j from h1]
  exact e
theorem repDs_at {F : Addr → Prop} {bs : List Addr} {vs : List V} {ts : List D} {t : D} {i : Int} (r : RepDs fx F bs H vs ts) (h : ((ixN ts.length i).bind fun j => ts[j]?) = some t) : ∃ v, L2.atI vs i = some v ∧ RepD fx F bs H v t := by
  obtain ⟨j, h1, h2⟩ := Option.bind_eq_some_iff.mp h
  obtain ⟨v, e, q⟩ := r.get h2
  refine ⟨v, ?_, q⟩
  unfold L2.atI
  rw [r.length, show L2.ixN ts.length i = some j from h1]
  exact e
theorem red_str {z : Str} (r : Red fx g H x (.str z)) : x = .str z := by
  cases r with
  | flat _ q => cases q; rfl
theorem red_lst {ds : List D} (r : Red fx g H x (.lst ds)) : ∃ a vs, x = .ref a ∧ SqL fx.K H a vs ∧ RepDs fx g.F g.bs H vs ds := by
  cases r with
  | flat f q => cases q; simp [flatV] at f
  | lst h q => exact ⟨_, _, rfl, h, q⟩
theorem red_tup {ds : List D} (r : Red fx g H x (.tup ds)) : ∃ a vs, x = .ref a ∧ SqT fx.K H a vs ∧ RepDs fx g.F g.bs H vs ds := by
  cases r with
  | flat f q => cases q; simp [flatV] at f
  | tup h q => exact ⟨_, _, rfl, h, q⟩
theorem red_dct {ks : List Key} {ds : List D} (r : Red fx g H x (.dct ks ds)) : ∃ a vs, x = .ref a ∧ H a = some (.dK (ks.zip vs)) ∧ ks.length = vs.length ∧ RepDs fx g.F g.bs H vs ds := by
  cases r with
  | flat f q => cases q; simp [flatV] at f
  | dct h1 h2 h3 => exact ⟨_, _, rfl, h1, h2, h3⟩
theorem rd_d {d : D} (h : ∀ k, d ≠ .gref k) : S.rd (.d d) = some d := by
  cases d <;> first | rfl | exact absurd rfl (h _)
end
section
variable {X : Cx} {fx : Fx}
theorem ix_dict (hu : X.A.units + 1 < cLine) : IxR X (fun x y H Q => ∃ a v, x = .ref a ∧ DGet H a y (some v) ∧ Q v H) := by
  intro value slice pins s σ H x y v u Q I rx ry h hs
  obtain ⟨a, w, rfl, g, q⟩ := h
  cases rx
  exact tail_any (dict_typeIs I g) PySem.F.slot_dict_getitem.lookup (d_getItem hu I g ry fun w' s3 I3 rw' => ⟨w, H, I3, rw', q⟩) hs
theorem or_ix (hX : X.K = fx.K) (hu : X.A.units + 1 < cLine) : IxR X (r2 fx ixS) := by
  intro value slice pins s σ H x y v u Q I rx ry h hs
  obtain ⟨g, S, tx, ty, W', rl, hx, hy, h⟩ := h
  unfold ixS at h
  split at h
  · cases hx with
    | tup f q =>
      obtain rfl := rt_int hy
      split at h
      · rename_i t e
        obtain ⟨w, e1, e2⟩ := repTs_at q e
        exact ix_tup value slice pins s σ H _ _ v u Q I rx ry ⟨_, _, _, _, rfl, rfl, hX ▸ f.sq, e1, h.fin rl e2⟩ hs
      · exact h.elim
  · cases hx with
    | lst f q =>
      obtain rfl := rt_int hy
      split at h
      · rename_i t e
        obtain ⟨w, e1, e2⟩ := repTs_at q e
        exact ix_list value slice pins s σ H _ _ v u Q I rx ry ⟨_, _, _, _, rfl, rfl, hX ▸ f.sq, e1, h.fin rl e2⟩ hs
      · exact h.elim
  · rename_i k _ _
    split at h
    · rename_i xs e0
      split at h
      · obtain rfl := rt_int hy
        split at h
        · rename_i t e
          obtain ⟨a, vs, rfl, f, q⟩ := red_lst (rd_red rl hx e0)
          obtain ⟨w, e1, e2⟩ := repDs_at q e
          exact ix_list value slice pins s σ H _ _ v u Q I rx ry ⟨_, _, _, _, rfl, rfl, hX ▸ f, e1, h.fin rl (.d e2)⟩ hs
        · exact h.elim
      · exact h.elim
    · rename_i xs e0
      split at h
      · obtain rfl := rt_int hy
        split at h
        · rename_i t e
          obtain ⟨a, vs, rfl, f, q⟩ := red_tup (rd_red rl hx e0)
          obtain ⟨w, e1, e2⟩ := repDs_at q e
          exact ix_tup value slice pins s σ H _ _ v u Q I rx ry ⟨_, _, _, _, rfl, rfl, hX ▸ f, e1, h.fin rl (.d e2)⟩ hs
        · exact h.elim
      · exact h.elim
    · rename_i z e0
      split at h
      · rename_i hz
        split at h
        · obtain rfl := rt_int hy
          split at h
          · rename_i c e
            obtain rfl := red_str (rd_red rl hx e0)
            exact ix_str value slice pins s σ H _ _ v u Q I rx ry ⟨_, _, _, rfl, rfl, by rw [sizeLine_eq]; omega, e, h.fin rl (.d (.str _))⟩ hs
          · exact h.elim
        · exact h.elim
      · exact h.elim
    · rename_i ks ds e0
      split at h
      · rename_i kk ek
        split at h
        · rename_i w0 e
          obtain ⟨a, vs, rfl, f, l, q⟩ := red_dct (rd_red rl hx e0)
          have hk : S.rd (.d k) = some k := rd_d (fun j z => by subst z; simp [toKey] at ek)
          obtain rfl := toKey_red (rd_red rl hy hk) ek
          rcases look_val kk ks vs ds l q with ⟨z1, z2⟩ | ⟨d, w, z1, z2, z3⟩
          · rw [z1] at e; cases e
          · rw [z1] at e; cases e
            exact ix_dict hu value slice pins s σ H _ _ v u Q I rx ry ⟨a, w, rfl, z2 ▸ DGet.k f, h.fin rl (.d z3)⟩ hs
        · exact h.elim
      · exact h.elim
    · exact h.elim
  · exact h.elim
/-! ### slices -/
def rSl (fx : Fx) (md : Bool) : V → Option Int → Option Int → Hp → VK → Prop := fun x lo hi H Q => ∃ g S tx W', Rel fx g S H ∧ RepT fx g H x tx ∧ Run fx g H (slcS md tx lo hi S) Q W'
theorem sIx_eq (n d : Nat) (o : Option Int) : HT.sIx n d o = sIx n d o := rfl
theorem repDs_cut {F : Addr → Prop} {bs : List Addr} {H : Hp} {vs : List V} {ds : List D} (r : RepDs fx F bs H vs ds) (lo hi : Option Int) : RepDs fx F bs H (cutV vs lo hi) (cut ds lo hi) := by
  unfold cutV cut
  rw [r.length]
  exact RepDs.take _ (RepDs.drop _ r)
theorem cutV_whole {vs : List V} {lo hi : Option Int} (h : HT.sIx vs.length 0 lo = 0 ∧ HT.sIx vs.length vs.length hi = vs.length) : cutV vs lo hi = vs := by
  unfold cutV
  rw [h.1, h.2]
  simp
theorem or_slc (md : Bool) (hX : X.K = fx.K) : SlR X (rSl fx md) := by
  intro pins s σ H x v vl vu lo hi sl Q I rx hs pl pu h
  obtain ⟨g, S, tx, W', rl, hx, h⟩ := h
  unfold slcS at h
  split at h
  · rename_i xs e0
    obtain ⟨a, vs, rfl, f, q⟩ := red_lst (rd_red rl hx e0)
    obtain ⟨q1, q2⟩ := run_mkL h rl (repDs_cut q lo hi)
    exact sl_list pins s σ H _ v vl vu lo hi sl Q I rx hs pl pu ⟨a, vs, rfl, hX ▸ f, q2⟩
  · rename_i xs e0
    obtain ⟨a, vs, rfl, f, q⟩ := red_tup (rd_red rl hx e0)
    have hd : ∃ F, FT fx.K g.F H a vs ∧ F = True := by
      cases tx with
      | d d =>
        cases hx with
        | d hx =>
          cases hx with
          | tup h1 h2 =>
            simp [Store.rd] at e0
            exact ⟨_, by rw [I.tuple_inj (show SqT X.K H _ vs from hX ▸ f) (show SqT X.K H _ _ from hX ▸ h1.sq)]; exact h1, rfl⟩
          | gref h1 => simp only [Store.rd] at e0; split at e0 <;> cases e0
          | _ => simp [Store.rd] at e0
      | cell k => simp only [Store.rd] at e0; split at e0 <;> cases e0
      | tup ts => simp [Store.rd] at e0
      | lst ts => simp only [Store.rd] at e0; split at e0 <;> cases e0
      | exc c p => simp [Store.rd] at e0
    obtain ⟨_, hd, _⟩ := hd
    refine sl_tupA pins s σ H _ v vl vu lo hi sl Q I rx hs pl pu ⟨a, vs, rfl, hX ▸ f, fun hw => ?_, fun _ p hp => ?_⟩
    · have r2 := repDs_cut q lo hi
      rw [cutV_whole hw] at r2
      exact h.fin rl (.d (.tup hd r2))
    · exact run_newT h rl (repDs_cut q lo hi) p hp
  · rename_i z e0
    split at h
    · obtain rfl := red_str (rd_red rl hx e0)
      exact sl_str pins s σ H _ v vl vu lo hi sl Q I rx hs pl pu ⟨z, rfl, by rw [sizeLine_eq]; omega, h.fin rl (.d (.str _))⟩
    · exact h.elim
  · exact h.elim
end
end Mn
set_option Elab.async false
set_option linter.all false
set_option maxRecDepth 100000
set_option maxHeartbeats 4000000
/-! Mn7: calls of builtins, methods of builtins by values. -/
namespace Mn
open PySem PySem.Spec PyProof.Rows PySem.SeqAt
open L2 hiding ixN atI

section
variable {fx : Fx} {g : Gh} {H : Hp} {S : Store} {W : XW} {Q : VK} {x : V}
theorem repTs1 {xs : List V} {a : T} (h : RepTs fx g H xs [a]) : ∃ x, xs = [x] ∧ RepT fx g H x a := by
  cases h with
  | cons h1 h2 => cases h2; exact ⟨_, rfl, h1⟩
theorem repTs2 {xs : List V} {a b : T} (h : RepTs fx g H xs [a, b]) : ∃ x y, xs = [x, y] ∧ RepT fx g H x a ∧ RepT fx g H y b := by
  cases h with
  | cons h1 h2 =>
    obtain ⟨y, rfl, h3⟩ := repTs1 h2
    exact ⟨_, _, rfl, h1, h3⟩
theorem repTs0 {xs : List V} (h : RepTs fx g H xs []) : xs = [] := by cases h; rfl
theorem repDs_ints {F : Addr → Prop} {bs : List Addr} : ∀ {xs : List D} {is : List Int} {vs : List V}, dInts xs = some is → RepDs fx F bs H vs xs → vs = is.map V.int
  | [], is, vs, e, r => by cases e; cases r; rfl
  | .int i :: xs, is, vs, e, r => by
    simp only [dInts] at e
    split at e
    · cases e
      cases r with
      | cons h1 h2 => cases h1; rw [repDs_ints (by assumption) h2]; rfl
    · cases e
  | .non :: xs, is, vs, e, r => by simp [dInts] at e
  | .bl _ :: xs, is, vs, e, r => by simp [dInts] at e
  | .str _ :: xs, is, vs, e, r => by simp [dInts] at e
  | .tup _ :: xs, is, vs, e, r => by simp [dInts] at e
  | .lst _ :: xs, is, vs, e, r => by simp [dInts] at e
  | .obj _ _ :: xs, is, vs, e, r => by simp [dInts] at e
  | .dct _ _ :: xs, is, vs, e, r => by simp [dInts] at e
  | .gref _ :: xs, is, vs, e, r => by simp [dInts] at e
theorem repDs_bls {F : Addr → Prop} {bs : List Addr} : ∀ {xs : List D} {is : List Bool} {vs : List V}, dBls xs = some is → RepDs fx F bs H vs xs → vs = is.map V.bl
  | [], is, vs, e, r => by cases e; cases r; rfl
  | .bl i :: xs, is, vs, e, r => by
    simp only [dBls] at e
    split at e
    · cases e
      cases r with
      | cons h1 h2 => cases h1; rw [repDs_bls (by assumption) h2]; rfl
    · cases e
  | .non :: xs, is, vs, e, r => by simp [dBls] at e
  | .int _ :: xs, is, vs, e, r => by simp [dBls] at e
  | .str _ :: xs, is, vs, e, r => by simp [dBls] at e
  | .tup _ :: xs, is, vs, e, r => by simp [dBls] at e
  | .lst _ :: xs, is, vs, e, r => by simp [dBls] at e
  | .obj _ _ :: xs, is, vs, e, r => by simp [dBls] at e
  | .dct _ _ :: xs, is, vs, e, r => by simp [dBls] at e
  | .gref _ :: xs, is, vs, e, r => by simp [dBls] at e
theorem repDs_strs {F : Addr → Prop} {bs : List Addr} : ∀ {xs : List D} {is : List Str} {vs : List V}, dStrs xs = some is → RepDs fx F bs H vs xs → vs = is.map V.str
  | [], is, vs, e, r => by cases e; cases r; rfl
  | .str i :: xs, is, vs, e, r => by
    simp only [dStrs] at e
    split at e
    · cases e
      cases r with
      | cons h1 h2 => cases h1; rw [repDs_strs (by assumption) h2]; rfl
    · cases e
  | .non :: xs, is, vs, e, r => by simp [dStrs] at e
  | .int _ :: xs, is, vs, e, r => by simp [dStrs] at e
  | .bl _ :: xs, is, vs, e, r => by simp [dStrs] at e
  | .tup _ :: xs, is, vs, e, r => by simp [dStrs] at e
  | .lst _ :: xs, is, vs, e, r => by simp [dStrs] at e
  | .obj _ _ :: xs, is, vs, e, r => by simp [dStrs] at e
  | .dct _ _ :: xs, is, vs, e, r => by simp [dStrs] at e
  | .gref _ :: xs, is, vs, e, r => by simp [dStrs] at e
/-- a value that stands in a cell of the frame or of all -/
theorem at_cell {t : T} {c : Cell} (rl : Rel fx g S H) (r : RepT fx g H x t) (e : S.at t = some c) (hl : c.live = true) : ∃ a, x = .ref a ∧ CellAt fx g H a c ∧
    ∀ (o : HO) (c' : Cell), (Grow g g H (upd H a o) → CellAt fx g (upd H a o) a c') → Grow g g H (upd H a o) ∧ Rel fx g (S.put t c') (upd H a o) := by
  cases r with
  | d r =>
    cases r with
    | gref h => exact ⟨_, rfl, rl.cG _ _ _ h e, fun o c' q => rl.setG h e q⟩
    | _ => simp [Store.at] at e
  | cell h => exact ⟨_, rfl, rl.cL _ _ _ h e, fun o c' q => rl.setL h e hl q⟩
  | _ => simp [Store.at] at e
theorem atL_at {t : T} {xs : List D} (e : atL S t = some xs) : S.at t = some (.lst xs) := by
  unfold atL at e
  split at e
  · cases e; assumption
  · cases e
theorem at_lst {t : T} {xs : List D} (rl : Rel fx g S H) (r : RepT fx g H x t) (e : atL S t = some xs) : ∃ a vs, x = .ref a ∧ H a = some (.lst vs) ∧ RepDs fx g.F g.bs H vs xs ∧
    ∀ (vs' : List V) (ds' : List D), RepDs fx g.F g.bs H vs' ds' → Grow g g H (upd H a (.lst vs')) ∧ Rel fx g (S.put t (.lst ds')) (upd H a (.lst vs')) := by
  obtain ⟨a, rfl, ⟨vs, h1, h2⟩, h3⟩ := at_cell rl r (atL_at e) rfl
  exact ⟨a, vs, rfl, h1, h2, fun vs' ds' q => h3 _ _ fun w => ⟨vs', upd_same, q.grow w⟩⟩
end
section
variable {X : Cx} {fx : Fx}
theorem or_len (hX : X.K = fx.K) : CallR X (.builtin "len") (rNv fx bLen) := by
  intro pins s σ H xs us Q I r h
  obtain ⟨g, S, ts, W', rl, hxs, h⟩ := h
  unfold bLen at h
  split at h
  · obtain ⟨x, rfl, hx⟩ := repTs1 hxs
    split at h
    · rename_i n e
      have q : Q (.int n) H := h.fin rl (.d (.int _))
      unfold lenS at e
      split at e
      · cases e
        cases hx with
        | tup f p => exact call_len pins s σ H _ us Q I r ⟨_, _, rfl, (show LenV X.K (.ref _) H _ from .inr ⟨_, hX ▸ f.sq, p.length.symm⟩), q⟩
      · cases e
        cases hx with
        | lst f p => exact call_len pins s σ H _ us Q I r ⟨_, _, rfl, (show LenV X.K (.ref _) H _ from .inl ⟨_, hX ▸ f.sq, p.length.symm⟩), q⟩
      · split at e
        · rename_i e0
          cases e
          obtain ⟨a, vs, rfl, f, p⟩ := red_lst (rd_red rl hx e0)
          exact call_len pins s σ H _ us Q I r ⟨_, _, rfl, (show LenV X.K (.ref _) H _ from .inl ⟨_, hX ▸ f, p.length.symm⟩), q⟩
        · rename_i e0
          cases e
          obtain ⟨a, vs, rfl, f, p⟩ := red_tup (rd_red rl hx e0)
          exact call_len pins s σ H _ us Q I r ⟨_, _, rfl, (show LenV X.K (.ref _) H _ from .inr ⟨_, hX ▸ f, p.length.symm⟩), q⟩
        · rename_i z e0
          split at e
          · cases e
            obtain rfl := red_str (rd_red rl hx e0)
            exact call_len pins s σ H _ us Q I r ⟨_, _, rfl, (show LenV X.K (.str z) H _ from ⟨by rw [sizeLine_eq]; omega, rfl⟩), q⟩
          · cases e
        · rename_i ks ds e0
          cases e
          obtain ⟨a, vs, rfl, f, l, p⟩ := red_dct (rd_red rl hx e0)
          refine call_lenD pins s σ H _ us Q I r ⟨_, _, rfl, f, ?_⟩
          rw [List.length_zip, ← l, Nat.min_self]
          exact q
        · cases e
    · exact h.elim
  · exact h.elim
theorem or_list (md : Bool) (hX : X.K = fx.K) : CallR X (.type "list") (rNv fx (bList md)) := by
  intro pins s σ H xs us Q I r h
  obtain ⟨g, S, ts, W', rl, hxs, h⟩ := h
  unfold bList at h
  split at h
  · obtain ⟨x, rfl, hx⟩ := repTs1 hxs
    split at h
    · rename_i e0
      obtain ⟨a, vs, rfl, f, p⟩ := red_lst (rd_red rl hx e0)
      obtain ⟨q1, q2⟩ := run_mkL h rl p
      exact call_list_of pins s σ H _ us Q I r ⟨_, _, rfl, .inl (hX ▸ f), q2⟩
    · rename_i e0
      obtain ⟨a, vs, rfl, f, p⟩ := red_tup (rd_red rl hx e0)
      obtain ⟨q1, q2⟩ := run_mkL h rl p
      exact call_list_of pins s σ H _ us Q I r ⟨_, _, rfl, .inr (hX ▸ f), q2⟩
    · exact h.elim
  · exact h.elim
theorem or_tuple (hX : X.K = fx.K) : CallR X (.type "tuple") (rNv fx bTuple) := by
  intro pins s σ H xs us Q I r h
  obtain ⟨g, S, ts, W', rl, hxs, h⟩ := h
  unfold bTuple at h
  split at h
  · obtain ⟨x, rfl, hx⟩ := repTs1 hxs
    split at h
    · rename_i e0
      obtain ⟨a, vs, rfl, f, p⟩ := red_lst (rd_red rl hx e0)
      exact call_tuple_of pins s σ H _ us Q I r ⟨_, _, rfl, .inl ⟨hX ▸ f, fun l hl => run_newT h rl p l hl⟩⟩
    · exact h.elim
  · exact h.elim
theorem or_min (hc : X.calm = true) : CallR X (.builtin "min") (rNv fx (bInt2 fun i j => if j < i then j else i)) := by
  intro pins s σ H xs us Q I r h
  obtain ⟨g, S, ts, W', rl, hxs, h⟩ := h
  unfold bInt2 at h
  split at h
  · obtain ⟨x, y, rfl, h1, h2⟩ := repTs2 hxs
    obtain rfl := rt_int h1
    obtain rfl := rt_int h2
    exact call_min2 hc pins s σ H _ us Q I r ⟨_, _, rfl, h.fin rl (.d (.int _))⟩
  · exact h.elim
theorem or_max (hc : X.calm = true) : CallR X (.builtin "max") (rNv fx (bInt2 fun i j => if j > i then j else i)) := by
  intro pins s σ H xs us Q I r h
  obtain ⟨g, S, ts, W', rl, hxs, h⟩ := h
  unfold bInt2 at h
  split at h
  · obtain ⟨x, y, rfl, h1, h2⟩ := repTs2 hxs
    obtain rfl := rt_int h1
    obtain rfl := rt_int h2
    exact call_max2 hc pins s σ H _ us Q I r ⟨_, _, rfl, h.fin rl (.d (.int _))⟩
  · exact h.elim
theorem or_abs : CallR X (.builtin "abs") (rNv fx bAbs) := by
  intro pins s σ H xs us Q I r h
  obtain ⟨g, S, ts, W', rl, hxs, h⟩ := h
  unfold bAbs at h
  split at h
  · obtain ⟨x, rfl, h1⟩ := repTs1 hxs
    obtain rfl := rt_int h1
    exact call_abs pins s σ H _ us Q I r ⟨_, rfl, h.fin rl (.d (.int _))⟩
  · exact h.elim
theorem or_int : CallR X (.type "int") (rNv fx bInt) := by
  intro pins s σ H xs us Q I r h
  obtain ⟨g, S, ts, W', rl, hxs, h⟩ := h
  unfold bInt at h
  split at h
  · obtain ⟨x, rfl, h1⟩ := repTs1 hxs
    obtain rfl := rt_int h1
    exact call_int1 pins s σ H _ us Q I r (.inl ⟨_, rfl, h.fin rl (.d (.int _))⟩)
  · obtain ⟨x, rfl, h1⟩ := repTs1 hxs
    obtain rfl := rt_bl h1
    exact call_int1 pins s σ H _ us Q I r (.inr ⟨_, rfl, h.fin rl (.d (.int _))⟩)
  · exact h.elim
theorem or_sum (hc : X.calm = true) : CallR X (.builtin "sum") (rNv fx bSum) := by
  intro pins s σ H xs us Q I r h
  obtain ⟨g, S, ts, W', rl, hxs, h⟩ := h
  unfold bSum at h
  split at h
  · obtain ⟨x, rfl, hx⟩ := repTs1 hxs
    split at h
    · rename_i e0
      split at h
      · rename_i e1
        obtain ⟨a, vs, rfl, f, p⟩ := rdL_rep rl hx e0
        obtain rfl := repDs_ints e1 p
        exact cr_sum hc pins s σ H _ us Q I r ⟨_, _, rfl, SqL.of f, h.fin rl (.d (.int _))⟩
      · exact h.elim
    · exact h.elim
  · exact h.elim
theorem or_all (hc : X.calm = true) : CallR X (.builtin "all") (rNv fx (bBools fun bs => bs.all id)) := by
  intro pins s σ H xs us Q I r h
  obtain ⟨g, S, ts, W', rl, hxs, h⟩ := h
  unfold bBools at h
  split at h
  · obtain ⟨x, rfl, hx⟩ := repTs1 hxs
    split at h
    · rename_i e0
      split at h
      · rename_i e1
        obtain ⟨a, vs, rfl, f, p⟩ := rdL_rep rl hx e0
        obtain rfl := repDs_bls e1 p
        exact cr_all hc pins s σ H _ us Q I r ⟨_, _, rfl, SqL.of f, h.fin rl (.d (.bl _))⟩
      · exact h.elim
    · exact h.elim
  · exact h.elim
theorem or_any (hc : X.calm = true) : CallR X (.builtin "any") (rNv fx (bBools fun bs => bs.any id)) := by
  intro pins s σ H xs us Q I r h
  obtain ⟨g, S, ts, W', rl, hxs, h⟩ := h
  unfold bBools at h
  split at h
  · obtain ⟨x, rfl, hx⟩ := repTs1 hxs
    split at h
    · rename_i e0
      split at h
      · rename_i e1
        obtain ⟨a, vs, rfl, f, p⟩ := rdL_rep rl hx e0
        obtain rfl := repDs_bls e1 p
        exact cr_any hc pins s σ H _ us Q I r ⟨_, _, rfl, SqL.of f, h.fin rl (.d (.bl _))⟩
      · exact h.elim
    · exact h.elim
  · exact h.elim
/-! ### methods -/
def rMt (fx : Fx) (f : T → List T → Store → R T) : V → List V → Hp → VK → Prop := fun x xs H Q => ∃ g S tx ts W', Rel fx g S H ∧ RepT fx g H x tx ∧ RepTs fx g H xs ts ∧ Run fx g H (f tx ts S) Q W'
theorem or_append : MtR X "list.append" (rMt fx mAppend) := by
  intro pins s σ H x xs v us Q I rx rv h
  obtain ⟨g, S, tx, ts, W', rl, hx, hxs, h⟩ := h
  unfold mAppend at h
  split at h
  · obtain ⟨y, rfl, hy⟩ := repTs1 hxs
    split at h
    · rename_i e
      split at h
      · obtain ⟨a, vs, rfl, h1, h2, h3⟩ := at_lst rl hx e
        cases hy with
        | d hy =>
          obtain ⟨w, rl2⟩ := h3 _ _ (RepDs.append (.cons hy .nil) h2)
          have l1 := h2.length
          exact mt_append pins s σ H _ _ v us Q I rx rv ⟨_, _, _, rfl, rfl, h1, by rw [sizeLine_eq]; omega, h _ _ _ w rl2 (.d .non)⟩
      · exact h.elim
    · exact h.elim
  · exact h.elim
theorem or_extend : MtR X "list.extend" (rMt fx mExtend) := by
  intro pins s σ H x xs v us Q I rx rv h
  obtain ⟨g, S, tx, ts, W', rl, hx, hxs, h⟩ := h
  unfold mExtend at h
  split at h
  · obtain ⟨y, rfl, hy⟩ := repTs1 hxs
    split at h
    · rename_i e e'
      split at h
      · obtain ⟨a, vs, rfl, h1, h2, h3⟩ := at_lst rl hx e
        obtain ⟨b, ws, rfl, k1, k2⟩ := rdL_rep rl hy e'
        obtain ⟨w, rl2⟩ := h3 _ _ (RepDs.append k2 h2)
        have l1 := h2.length
        have l2 := k2.length
        exact mt_extend pins s σ H _ _ v us Q I rx rv ⟨_, _, _, _, rfl, rfl, h1, k1, by rw [sizeLine_eq]; omega, h _ _ _ w rl2 (.d .non)⟩
      · exact h.elim
    · exact h.elim
  · exact h.elim
theorem repDs_dropLast {F : Addr → Prop} {bs : List Addr} {H : Hp} : ∀ {vs : List V} {ds : List D}, RepDs fx F bs H vs ds → RepDs fx F bs H vs.dropLast ds.dropLast
  | _, _, .nil => .nil
  | _, _, .cons h .nil => .nil
  | _, _, .cons h (.cons h2 r) => .cons h (repDs_dropLast (.cons h2 r))
theorem or_pop : MtR X "list.pop" (rMt fx mPop) := by
  intro pins s σ H x xs v us Q I rx rv h
  obtain ⟨g, S, tx, ts, W', rl, hx, hxs, h⟩ := h
  unfold mPop at h
  split at h
  · obtain rfl := repTs0 hxs
    split at h
    · rename_i xs e
      split at h
      · rename_i d e2
        obtain ⟨a, vs, rfl, h1, h2, h3⟩ := at_lst rl hx e
        obtain ⟨w, rl2⟩ := h3 _ _ (repDs_dropLast h2)
        obtain ⟨y, k1, k2⟩ := h2.get e2
        have l1 := h2.length
        rw [← l1] at k1
        exact mt_pop pins s σ H _ _ v us Q I rx rv ⟨_, _, _, rfl, rfl, h1, k1, h _ _ _ w rl2 (.d (k2.grow w))⟩
      · exact h.elim
    · exact h.elim
  · obtain ⟨y, rfl, hy⟩ := repTs1 hxs
    obtain rfl := rt_int hy
    split at h
    · rename_i xs e
      split at h
      · rename_i j e1
        split at h
        · rename_i d e2
          obtain ⟨a, vs, rfl, h1, h2, h3⟩ := at_lst rl hx e
          obtain ⟨w, rl2⟩ := h3 _ _ (RepDs.erase j h2)
          obtain ⟨y, k1, k2⟩ := h2.get e2
          have l1 := h2.length
          obtain ⟨s1, s2, s3, s4⟩ := L2.ixN_seq (show L2.ixN xs.length _ = some j from e1)
          have hz := (I.lstM h1).1
          rw [sizeLine_eq] at hz
          exact mt_popAt pins s σ H _ _ v us Q I rx rv ⟨_, _, _, _, _, rfl, rfl, h1, by omega, by omega, by rw [l1]; exact s1, k1, h _ _ _ w rl2 (.d (k2.grow w))⟩
        · exact h.elim
      · exact h.elim
    · exact h.elim
  · exact h.elim
theorem or_clear : MtR X "list.clear" (rMt fx mClear) := by
  intro pins s σ H x xs v us Q I rx rv h
  obtain ⟨g, S, tx, ts, W', rl, hx, hxs, h⟩ := h
  unfold mClear at h
  split at h
  · obtain rfl := repTs0 hxs
    split at h
    · rename_i xs e
      obtain ⟨a, vs, rfl, h1, h2, h3⟩ := at_lst rl hx e
      obtain ⟨w, rl2⟩ := h3 [] [] .nil
      exact mt_clear pins s σ H _ _ v us Q I rx rv ⟨_, _, rfl, rfl, h1, h _ _ _ w rl2 (.d .non)⟩
    · exact h.elim
  · exact h.elim
theorem or_reverse : MtR X "list.reverse" (rMt fx mReverse) := by
  intro pins s σ H x xs v us Q I rx rv h
  obtain ⟨g, S, tx, ts, W', rl, hx, hxs, h⟩ := h
  unfold mReverse at h
  split at h
  · obtain rfl := repTs0 hxs
    split at h
    · rename_i xs e
      obtain ⟨a, vs, rfl, h1, h2, h3⟩ := at_lst rl hx e
      obtain ⟨w, rl2⟩ := h3 _ _ (RepDs.rev h2)
      exact mt_reverse pins s σ H _ _ v us Q I rx rv ⟨_, _, rfl, rfl, h1, h _ _ _ w rl2 (.d .non)⟩
    · exact h.elim
  · exact h.elim
theorem or_upper : MtR X "str.upper" (rMt fx mUpper) := by
  intro pins s σ H x xs v us Q I rx rv h
  obtain ⟨g, S, tx, ts, W', rl, hx, hxs, h⟩ := h
  unfold mUpper at h
  split at h
  · obtain rfl := repTs0 hxs
    obtain rfl := rt_str hx
    split at h
    · exact mt_upper pins s σ H _ _ v us Q I rx rv ⟨_, rfl, rfl, by omega, h.fin rl (.d (.str _))⟩
    · exact h.elim
  · exact h.elim
theorem repDs_take {F : Addr → Prop} {bs : List Addr} {H : Hp} : ∀ (n : Nat) {vs : List V} {ds : List D}, RepDs fx F bs H vs ds → RepDs fx F bs H (vs.take n) (ds.take n)
  | 0, _, _, _ => by rw [List.take_zero, List.take_zero]; exact .nil
  | _ + 1, _, _, .nil => .nil
  | n + 1, _, _, .cons h r => .cons h (repDs_take n r)
theorem repDs_drop {F : Addr → Prop} {bs : List Addr} {H : Hp} : ∀ (n : Nat) {vs : List V} {ds : List D}, RepDs fx F bs H vs ds → RepDs fx F bs H (vs.drop n) (ds.drop n)
  | 0, _, _, r => r
  | _ + 1, _, _, .nil => .nil
  | n + 1, _, _, .cons _ r => repDs_drop n r
theorem or_insert : MtR X "list.insert" (rMt fx mInsert) := by
  intro pins s σ H x xs v us Q I rx rv h
  obtain ⟨g, S, tx, ts, W', rl, hx, hxs, h⟩ := h
  unfold mInsert at h
  split at h
  · obtain ⟨y, z, rfl, hy, hz⟩ := repTs2 hxs
    obtain rfl := rt_int hy
    cases hz with
    | d hz =>
      split at h
      · rename_i xs e
        split at h
        · rename_i hi
          obtain ⟨a, vs, rfl, h1, h2, h3⟩ := at_lst rl hx e
          have l1 := h2.length
          obtain ⟨w, rl2⟩ := h3 _ _ (RepDs.append (repDs_drop _ h2) (RepDs.append (.cons hz .nil) (repDs_take _ h2)))
          exact mt_insert pins s σ H _ _ v us Q I rx rv ⟨_, _, _, _, rfl, rfl, h1, by rw [sizeLine_eq]; omega, hi.1, by omega, h _ _ _ w rl2 (.d .non)⟩
        · exact h.elim
      · exact h.elim
  · exact h.elim
theorem find_least {α : Type} {p : α → Bool} : ∀ {xs : List α} {j : Nat}, xs.findIdx? p = some j → (∃ h : j < xs.length, p xs[j] = true) ∧ ∀ (m : Nat) (hm : m < xs.length), m < j → p xs[m] = false := fun {xs j} h => by
  obtain ⟨h1, h2, h3⟩ := List.findIdx?_eq_some_iff_getElem.mp h
  exact ⟨⟨h1, h2⟩, fun m hm hmj => by have := h3 m hmj; simpa using this⟩
theorem kns_get {h : Heap} : ∀ {vs : List Value} {ds : List D}, Kns h vs ds → ∀ (i : Nat) (h1 : i < vs.length) (h2 : i < ds.length), Kn h vs[i] ds[i]
  | _, _, .cons a r, 0, _, _ => a
  | _, _, .cons a r, i + 1, h1, h2 => kns_get r i (by simpa using h1) (by simpa using h2)
theorem kns_len {h : Heap} : ∀ {vs : List Value} {ds : List D}, Kns h vs ds → vs.length = ds.length
  | _, _, .nil => rfl
  | _, _, .cons a r => by rw [List.length_cons, List.length_cons, kns_len r]
theorem or_index (hX : X.K = fx.K) (hu : X.A.units + 65 < cLine) : MtR X "list.index" (rMt fx mIndex) := by
  intro pins s σ H x xs v us Q I rx rv h
  obtain ⟨g, S, tx, ts, W', rl, hx, hxs, h⟩ := h
  unfold mIndex at h
  split at h
  · rename_i dx
    obtain ⟨y, rfl, hy⟩ := repTs1 hxs
    split at h
    · rename_i ys e
      split at h
      · rename_i hl
        simp only [Bool.and_eq_true, decide_eq_true_eq] at hl
        obtain ⟨hl, h100⟩ := hl
        split at h
        · rename_i j ej
          obtain ⟨⟨jl, jp⟩, jn⟩ := find_least ej
          obtain ⟨uy, rfl, ry⟩ : ∃ uy, us = [uy] ∧ RelV y uy := by
            cases rv with
            | cons r1 r2 => cases r2; exact ⟨_, rfl, r1⟩
          have l2 : ys.all (D.ly 11) = true := by simpa only [D.ly, lyMax] using hl.2
          have ky : Kn s.heap uy dx := red_kn hX I (n := 12) hl.1 (rd_red rl hy (by
            have z := hl.1
            cases dx <;> first | rfl | (simp [D.ly, lyMax] at z))) ry
          have kl := red_kn hX I (n := 12) (by simpa only [D.ly] using l2) (rd_red rl hx e) rx
          cases kl with
          | @lst a its _ p r =>
            obtain ⟨⟨cls, dd, data, sls⟩, ho, hc, n, hd⟩ := id p
            simp only at hc hd
            subst hc hd
            have hlen := kns_len r
            have at_ : ∀ (m : Nat) (hm : m < its.size), keq s.heap dx its[m] = (ys[m]'(by rw [← hlen]; simpa using hm)).eqv dx := fun m hm => by
              have := kns_get r m (by simpa using hm) (by rw [← hlen]; simpa using hm)
              rw [keq_of (d := ys[m]'(by rw [← hlen]; simpa using hm))]
              simpa using this
            have hjs : j < its.size := by
              have : its.toList.length = ys.length := hlen
              simp only [Array.length_toList] at this
              omega
            have small : (j : Int) < 2 ^ 63 - 1 := by
              omega
            refine call_meets PySem.F.slot_list_index ⟨_, ho, rfl⟩ PySem.F.entry_list_index (PySem.F.args_list_index_2 _ _)
              (SeqAt.list_indexAt a its n dd sls uy (keq s.heap dx) j hjs small ?_ ?_) ⟨ho, keq_at (n := 12) (List.all_eq_true.mpr fun z hz => ly_up 11 z (List.all_eq_true.mp l2 z hz)) hl.1 r ky (by unfold RoomN; show X.A.units + 1 + 12 < cLine; omega), ?_⟩
            · rw [at_ j hjs]
              exact jp
            · intro m hm hmj
              rw [at_ m hm]
              exact jn m _ hmj
            · exact ⟨.int (j : Nat), H, I.tok _, ⟨_, rfl⟩, h.fin rl (.d (.int _))⟩
        · exact h.elim
      · exact h.elim
    · exact h.elim
  · exact h.elim
theorem or_join : MtR X "str.join" (rMt fx mJoin) := by
  intro pins s σ H x xs v us Q I rx rv h
  obtain ⟨g, S, tx, ts, W', rl, hx, hxs, h⟩ := h
  unfold mJoin at h
  split at h
  · obtain ⟨y, rfl, hy⟩ := repTs1 hxs
    obtain rfl := rt_str hx
    split at h
    · rename_i e0
      split at h
      · rename_i e1
        split at h
        · rename_i hz
          obtain ⟨a, vs, rfl, f, p⟩ := rdL_rep rl hy e0
          obtain rfl := repDs_strs e1 p
          exact mt_join pins s σ H _ _ v us Q I rx rv ⟨_, _, _, rfl, rfl, .inl (SqL.of f), hz, h.fin rl (.d (.str _))⟩
        · exact h.elim
      · exact h.elim
    · exact h.elim
  · exact h.elim
theorem or_starts : MtR X "str.startswith" (rMt fx mStarts) := by
  intro pins s σ H x xs v us Q I rx rv h
  obtain ⟨g, S, tx, ts, W', rl, hx, hxs, h⟩ := h
  unfold mStarts at h
  split at h
  · obtain ⟨y, rfl, hy⟩ := repTs1 hxs
    obtain rfl := rt_str hx
    obtain rfl := rt_str hy
    exact mt_startswith pins s σ H _ _ v us Q I rx rv ⟨_, _, rfl, rfl, h.fin rl (.d (.bl _))⟩
  · exact h.elim
theorem or_ends : MtR X "str.endswith" (rMt fx mEnds) := by
  intro pins s σ H x xs v us Q I rx rv h
  obtain ⟨g, S, tx, ts, W', rl, hx, hxs, h⟩ := h
  unfold mEnds at h
  split at h
  · obtain ⟨y, rfl, hy⟩ := repTs1 hxs
    obtain rfl := rt_str hx
    obtain rfl := rt_str hy
    exact mt_endswith pins s σ H _ _ v us Q I rx rv ⟨_, _, rfl, rfl, h.fin rl (.d (.bl _))⟩
  · exact h.elim
theorem or_digit : MtR X "str.isdigit" (rMt fx mDigit) := by
  intro pins s σ H x xs v us Q I rx rv h
  obtain ⟨g, S, tx, ts, W', rl, hx, hxs, h⟩ := h
  unfold mDigit at h
  split at h
  · obtain rfl := repTs0 hxs
    obtain rfl := rt_str hx
    exact mt_isdigit pins s σ H _ _ v us Q I rx rv ⟨_, rfl, rfl, trivial, h.fin rl (.d (.bl _))⟩
  · exact h.elim
end
end Mn
set_option Elab.async false
set_option linter.all false
set_option maxRecDepth 100000
set_option maxHeartbeats 4000000
/-! Mn8: fields, stores to items and fields, isinstance. -/
namespace Mn
open PySem PySem.Spec PyProof.Rows PySem.SeqAt
open L2 hiding ixN atI

/-! ### fields -/
theorem fname_inj : ∀ i, i < 28 → ∀ j, j < 28 → fname i = fname j → i = j := by decide +kernel
theorem flds_lt (c : Nat) : ∀ f ∈ flds c, f < 28 := by
  unfold flds
  split <;> decide
theorem lookup_map {α : Type} {f : Nat} (hf : f < 28) : ∀ (gs : List Nat) (xs : List α), (∀ g ∈ gs, g < 28) → ((gs.map fname).zip xs).lookup (fname f) = (gs.zip xs).lookup f
  | [], _, _ => rfl
  | _ :: _, [], _ => rfl
  | g :: gs, x :: xs, h => by
    have ih := lookup_map hf gs xs fun y hy => h y (List.mem_cons_of_mem _ hy)
    show List.lookup (fname f) ((fname g, x) :: (gs.map fname).zip xs) = List.lookup f ((g, x) :: gs.zip xs)
    by_cases e : f = g
    · subst e
      simp only [List.lookup_cons, beq_self_eq_true]
    · have e2 : fname f ≠ fname g := fun z => e (fname_inj f hf g (h g List.mem_cons_self) z)
      have b1 : (f == g) = false := beq_eq_false_iff_ne.mpr e
      have b2 : (fname f == fname g) = false := beq_eq_false_iff_ne.mpr e2
      simp only [List.lookup_cons, b1, b2]
      exact ih
theorem lookup_rep {fx : Fx} {F : Addr → Prop} {bs : List Addr} {H : Hp} {f : Nat} {d : D} : ∀ {gs : List Nat} {vs : List V} {ds : List D}, RepDs fx F bs H vs ds → (gs.zip ds).lookup f = some d → ∃ v, (gs.zip vs).lookup f = some v ∧ RepD fx F bs H v d ∧ f ∈ gs
  | [], _, _, _, h => by simp at h
  | g :: gs, _, _, .nil, h => by simp at h
  | g :: gs, v :: vs, d0 :: ds, .cons a r, h => by
    have h' : List.lookup f ((g, d0) :: gs.zip ds) = some d := h
    show ∃ w, List.lookup f ((g, v) :: gs.zip vs) = some w ∧ _
    by_cases e : f = g
    · subst e
      simp only [List.lookup_cons, beq_self_eq_true] at h' ⊢
      cases h'
      exact ⟨v, rfl, a, List.mem_cons_self⟩
    · have b1 : (f == g) = false := beq_eq_false_iff_ne.mpr e
      simp only [List.lookup_cons, b1] at h' ⊢
      obtain ⟨w, h1, h2, h3⟩ := lookup_rep r h'
      exact ⟨w, h1, h2, List.mem_cons_of_mem _ h3⟩
theorem fput_rep {fx : Fx} {F : Addr → Prop} {bs : List Addr} {H : Hp} {f : Nat} {d : D} {v : V} (q : RepD fx F bs H v d) : ∀ {gs : List Nat} {vs : List V} {ds ds' : List D}, RepDs fx F bs H vs ds → fput f d gs ds = some ds' → ∃ vs', fput f v gs vs = some vs' ∧ RepDs fx F bs H vs' ds'
  | [], _, _, _, _, h => by simp [fput] at h
  | g :: gs, _, _, _, .nil, h => by
    simp only [fput] at h ⊢
    split at h
    · cases h
      rename_i e
      exact ⟨[v], by simp [e], .cons q .nil⟩
    · cases h
  | g :: gs, w :: vs, d0 :: ds, ds', .cons a r, h => by
    simp only [fput] at h ⊢
    split at h
    · cases h
      rename_i e
      exact ⟨v :: vs, by simp [e], .cons q r⟩
    · rename_i e
      split at h
      · cases h
        obtain ⟨vs', h1, h2⟩ := fput_rep q r (by assumption)
        exact ⟨w :: vs', by rw [if_neg e, h1], .cons a h2⟩
      · cases h
theorem fput_len {α : Type} {f : Nat} {v : α} : ∀ {gs : List Nat} {vs vs' : List α}, fput f v gs vs = some vs' → vs.length ≤ gs.length → vs'.length ≤ gs.length ∧ f ∈ gs ∧ (vs'.length = if ((gs.zip vs).lookup f).isSome then vs.length else vs.length + 1)
  | [], _, _, h, _ => by simp [fput] at h
  | g :: gs, [], _, h, _ => by
    simp only [fput] at h
    split at h
    · cases h
      rename_i e
      subst e
      exact ⟨by simp, List.mem_cons_self, rfl⟩
    · cases h
  | g :: gs, w :: vs, vs', h, hl => by
    simp only [fput] at h
    show _ ∧ _ ∧ vs'.length = if (List.lookup f ((g, w) :: gs.zip vs)).isSome then _ else _
    split at h
    · cases h
      rename_i e
      subst e
      simp only [List.lookup_cons, beq_self_eq_true]
      exact ⟨hl, List.mem_cons_self, rfl⟩
    · rename_i e
      have b1 : (f == g) = false := beq_eq_false_iff_ne.mpr (Ne.symm e)
      simp only [List.lookup_cons, b1]
      split at h
      · cases h
        obtain ⟨h1, h2, h3⟩ := fput_len (vs := vs) (by assumption) (by simpa using hl)
        refine ⟨by simpa using h1, List.mem_cons_of_mem _ h2, ?_⟩
        rw [List.length_cons, h3, List.length_cons]
        split <;> rfl
      · cases h
theorem fput_look {α : Type} {f : Nat} {v : α} (hf : f < 28) : ∀ {gs : List Nat} {vs vs' : List α}, fput f v gs vs = some vs' → (∀ g ∈ gs, g < 28) → ∀ y, ((gs.map fname).zip vs').lookup y = if y = fname f then some v else ((gs.map fname).zip vs).lookup y
  | [], _, _, h, _, _ => by simp [fput] at h
  | g :: gs, [], _, h, _, y => by
    simp only [fput] at h
    split at h
    · cases h
      rename_i e
      subst e
      show List.lookup y ((fname g, v) :: (gs.map fname).zip []) = _
      by_cases e : y = fname g
      · subst e; simp
      · have b1 : (y == fname g) = false := beq_eq_false_iff_ne.mpr e
        simp [List.lookup_cons, b1, e]
    · cases h
  | g :: gs, w :: vs, vs', h, hl, y => by
    simp only [fput] at h
    show _ = if y = fname f then some v else List.lookup y ((fname g, w) :: (gs.map fname).zip vs)
    split at h
    · cases h
      rename_i e
      subst e
      show List.lookup y ((fname g, v) :: (gs.map fname).zip vs) = _
      by_cases e : y = fname g
      · subst e; simp
      · have b1 : (y == fname g) = false := beq_eq_false_iff_ne.mpr e
        simp [List.lookup_cons, b1, e]
    · rename_i e
      split at h
      · cases h
        rename_i r h1
        have ih := fput_look hf h1 (fun y hy => hl y (List.mem_cons_of_mem _ hy)) y
        show List.lookup y ((fname g, w) :: (gs.map fname).zip r) = _
        have ne : fname g ≠ fname f := fun z => e (fname_inj g (hl g List.mem_cons_self) f hf z)
        by_cases e2 : y = fname g
        · subst e2
          simp [ne]
        · have b1 : (y == fname g) = false := beq_eq_false_iff_ne.mpr e2
          simp only [List.lookup_cons, b1]
          exact ih
      · cases h
theorem putF_len (f : Str) (v : V) : ∀ fs : List (Str × V), (putF f v fs).length = if (fs.lookup f).isSome then fs.length else fs.length + 1
  | [] => rfl
  | (g, x) :: r => by
    have ih := putF_len f v r
    rw [show putF f v ((g, x) :: r) = (if g = f then (g, v) :: r else (g, x) :: putF f v r) from rfl]
    by_cases e : g = f
    · subst e; simp
    · have b1 : (f == g) = false := beq_eq_false_iff_ne.mpr (Ne.symm e)
      rw [if_neg e]
      simp only [List.lookup_cons, b1, List.length_cons, ih]
      split <;> rfl
theorem FldOk.put {c f : Nat} {fvs : List (Str × V)} {vs vs' : List V} {v : V} (h : FldOk c fvs vs) (hf : f < 28) (e : fput f v (flds c) vs = some vs') : FldOk c (putF (fname f) v fvs) vs' := by
  obtain ⟨l1, l2, l3⟩ := fput_len e h.few
  refine ⟨?_, l1, fun x => ?_⟩
  · rw [putF_len, l3, h.len, h.at_, show ((fnames c).zip vs).lookup (fname f) = _ from lookup_map hf (flds c) vs (flds_lt c)]
  · rw [lookup_putF, h.at_, show ((fnames c).zip vs').lookup x = _ from fput_look hf e (flds_lt c) x]
    rfl
theorem FldOk.short {c : Nat} {fvs : List (Str × V)} {vs : List V} (h : FldOk c fvs vs) : fvs.length < 1000 := by
  have h1 := h.len
  have h2 := h.few
  have h3 : (flds c).length ≤ 6 := by
    unfold flds
    split <;> decide
  omega
section
variable {fx : Fx} {g : Gh} {H : Hp} {S : Store} {W : XW} {Q : VK} {x : V}
theorem at_obj {t : T} {c : Nat} {ds : List D} (rl : Rel fx g S H) (r : RepT fx g H x t) (e : S.at t = some (.obj c ds)) : ∃ a dx fvs vs, x = .ref a ∧ H a = some (.ins (fx.cA c) dx fvs) ∧ ClsG fx c ∧ FldOk c fvs vs ∧ RepDs fx g.F g.bs H vs ds := by
  obtain ⟨a, rfl, ⟨dx, fvs, vs, h1, h2, h3, h4⟩, _⟩ := at_cell rl r e rfl
  exact ⟨a, dx, fvs, vs, rfl, h1, h2, h3, h4⟩
theorem obj_fld {a : Addr} {c f : Nat} {dx : Addr} {fvs : List (Str × V)} {vs : List V} {ds : List D} {d : D} (hf : f < 28) (h1 : H a = some (.ins (fx.cA c) dx fvs)) (h2 : ClsG fx c) (h3 : FldOk c fvs vs) (h4 : RepDs fx g.F g.bs H vs ds)
    (e : ((flds c).zip ds).lookup f = some d) : ∃ v, NoAttr fx.K (fx.cA c) (fname f) ∧ fvs.lookup (fname f) = some v ∧ RepD fx g.F g.bs H v d := by
  obtain ⟨v, e1, e2, e3⟩ := lookup_rep h4 e
  refine ⟨v, h2.no f e3, ?_, e2⟩
  rw [h3.at_, show ((fnames c).zip vs).lookup (fname f) = _ from lookup_map hf (flds c) vs (flds_lt c), e1]
theorem fld_look {c f : Nat} {fvs : List (Str × V)} {vs : List V} {ds : List D} {d : D} (hf : f < 28) (h3 : FldOk c fvs vs) (h4 : RepDs fx g.F g.bs H vs ds) (e : ((flds c).zip ds).lookup f = some d) :
    f ∈ flds c ∧ ∃ v, fvs.lookup (fname f) = some v ∧ RepD fx g.F g.bs H v d := by
  obtain ⟨v, e1, e2, e3⟩ := lookup_rep h4 e
  refine ⟨e3, v, ?_, e2⟩
  rw [h3.at_, show ((fnames c).zip vs).lookup (fname f) = _ from lookup_map hf (flds c) vs (flds_lt c), e1]
theorem at_attr {t : T} {f : Nat} (hf : f < 28) (rl : Rel fx g S H) (r : RepT fx g H x t) (h : Run fx g H (attrS t f S) Q W) : ∃ a C dx fs v, x = .ref a ∧ H a = some (.ins C dx fs) ∧ Cls fx.K C ∧ NoAttr fx.K C (fname f) ∧ fs.lookup (fname f) = some v ∧ Q v H := by
  unfold attrS at h
  split at h
  · split at h
    · rename_i e
      cases r with
      | d r =>
        cases r with
        | obj h0 h1 h2 h3 h4 =>
          obtain ⟨v, k1, k2, k3⟩ := obj_fld hf h1 h2 h3 h4 e
          exact ⟨_, _, _, _, v, rfl, h1, h2.cl, k1, k2, h.fin rl (.d k3)⟩
    · exact h.elim
  · split at h
    · rename_i e0
      split at h
      · rename_i e
        obtain ⟨a, dx, fvs, vs, rfl, h1, h2, h3, h4⟩ := at_obj rl r e0
        obtain ⟨v, k1, k2, k3⟩ := obj_fld hf h1 h2 h3 h4 e
        exact ⟨_, _, _, _, v, rfl, h1, h2.cl, k1, k2, h.fin rl (.d k3)⟩
      · exact h.elim
    · exact h.elim
/-- a field is stored -/
theorem at_setA {t v : T} {f : Nat} {S' : Store} {y : V} (hf : f < 28) (rl : Rel fx g S H) (r : RepT fx g H x t) (ry : RepT fx g H y v) (h : setAS t f v S = some S') : ∃ a C dx fs, x = .ref a ∧ H a = some (.ins C dx fs) ∧ Cls fx.K C ∧ NoAttr fx.K C (fname f) ∧ fs.length < 1000 ∧
    Grow g g H (upd H a (.ins C dx (putF (fname f) y fs))) ∧ Rel fx g S' (upd H a (.ins C dx (putF (fname f) y fs))) := by
  unfold setAS at h
  split at h
  · split at h
    · rename_i e
      split at h
      · rename_i gs e1
        cases h
        obtain ⟨a, rfl, ⟨dx, fvs, vs, h1, h2, h3, h4⟩, h5⟩ := at_cell rl r e rfl
        cases ry with
        | d ry =>
          obtain ⟨vs', k1, k2⟩ := fput_rep ry h4 e1
          obtain ⟨w, rl2⟩ := h5 (.ins (fx.cA _) dx (putF (fname f) y fvs)) (.obj _ gs) fun w => ⟨dx, _, vs', upd_same, h2, h3.put hf k1, k2.grow w⟩
          exact ⟨a, _, dx, fvs, rfl, h1, h2.cl, h2.no f (fput_len k1 h3.few).2.1, h3.short, w, rl2⟩
      · cases h
    · cases h
  · cases h
/-! ### a[i] = v -/
theorem dset_map {α β : Type} (k : Key) : ∀ (ks : List Key) (vs : List V) (v : V), ks.length = vs.length → ((ks.zip vs).map fun kv => if kv.1 = k then (kv.1, v) else kv) = ks.zip (dset k v ks vs)
  | [], [], _, _ => rfl
  | [], _ :: _, _, h => by simp at h
  | _ :: _, [], _, h => by simp at h
  | k' :: ks, w :: vs, v, h => by
    have ih := dset_map (α := α) (β := β) k ks vs v (by simpa using h)
    simp only [List.zip_cons_cons, List.map_cons, dset, ih]
    split <;> rfl
theorem dset_len {α : Type} (k : Key) (v : α) : ∀ (ks : List Key) (vs : List α), ks.length = vs.length → (dset k v ks vs).length = ks.length
  | [], [], _ => rfl
  | [], _ :: _, h => by simp at h
  | _ :: _, [], h => by simp at h
  | k' :: ks, w :: vs, h => by simp only [dset, List.length_cons, dset_len k v ks vs (by simpa using h)]
theorem dset_rep {F : Addr → Prop} {bs : List Addr} {k : Key} {v : V} {d : D} (q : RepD fx F bs H v d) : ∀ (ks : List Key) {vs : List V} {ds : List D}, RepDs fx F bs H vs ds → RepDs fx F bs H (dset k v ks vs) (dset k d ks ds)
  | [], _, _, _ => .nil
  | _ :: _, _, _, .nil => .nil
  | k' :: ks, _, _, .cons a r => by
    simp only [dset]
    refine .cons ?_ (dset_rep q ks r)
    split
    · exact q
    · exact a
theorem any_zip (k : Key) : ∀ (ks : List Key) (vs : List V), ks.length = vs.length → ((ks.zip vs).any fun kv => decide (kv.1 = k)) = ks.any fun j => decide (j = k)
  | [], [], _ => rfl
  | [], _ :: _, h => by simp at h
  | _ :: _, [], h => by simp at h
  | k' :: ks, w :: vs, h => by simp only [List.zip_cons_cons, List.any_cons, any_zip k ks vs (by simpa using h)]
theorem put_rep {F : Addr → Prop} {bs : List Addr} {k : Key} {v : V} {d : D} (q : RepD fx F bs H v d) {ks : List Key} {vs : List V} {ds : List D} (hl : ks.length = vs.length) (r : RepDs fx F bs H vs ds) :
    ∃ vs', putK (ks.zip vs) k v = (dput k d ks ds).1.zip vs' ∧ (dput k d ks ds).1.length = vs'.length ∧ RepDs fx F bs H vs' (dput k d ks ds).2 := by
  unfold putK dput
  rw [any_zip k ks vs hl]
  split
  · exact ⟨_, dset_map (α := Unit) (β := Unit) k ks vs v hl, (dset_len k v ks vs hl).symm, dset_rep q ks r⟩
  · refine ⟨vs ++ [v], ?_, by simp [hl], RepDs.append (.cons q .nil) r⟩
    rw [List.zip_append hl]
    rfl
def rSetI (fx : Fx) : V → V → V → Hp → (Hp → Prop) → Prop := fun o i v H Q => ∃ g S to ti tv S', Rel fx g S H ∧ RepT fx g H o to ∧ RepT fx g H i ti ∧ RepT fx g H v tv ∧ setIS to ti tv S = some S' ∧ ∀ H', Grow g g H H' → Rel fx g S' H' → Q H'
theorem or_setI {X : Cx} (hu : X.A.units + 1 < cLine) : PSet X (rSetI fx) := by
  intro pins s σ H o i v ov iv u Q I ro ri rv h
  obtain ⟨g, S, to, ti, tv, S', rl, ho, hi, hv, e, q⟩ := h
  unfold setIS at e
  split at e
  · rename_i k x
    split at e
    · rename_i xs e0
      split at e
      · split at e
        · rename_i j e1
          cases e
          obtain ⟨a, rfl, ⟨vs, h1, h2⟩, h3⟩ := at_cell rl ho e0 rfl
          obtain rfl := rt_int hi
          cases hv with
          | d hv =>
            obtain ⟨w, rl2⟩ := h3 (.lst (vs.set j v)) (.lst (xs.set j x)) fun w => ⟨_, upd_same, (RepDs.set hv j h2).grow w⟩
            exact set_list pins s σ H _ _ _ ov iv u Q I ro ri rv ⟨_, _, _, _, rfl, rfl, h1, by rw [h2.length]; exact e1, q _ w rl2⟩
        · cases e
      · cases e
    · rename_i ks ds e0
      split at e
      · rename_i kk ek
        split at e
        · rename_i hz
          cases e
          obtain ⟨a, rfl, ⟨vs, h1, hl, h2⟩, h3⟩ := at_cell rl ho e0 rfl
          have hk : S.rd (.d k) = some k := rd_d (fun j z => by rw [z] at ek; simp [toKey] at ek)
          obtain rfl := toKey_red (rd_red rl hi hk) ek
          cases hv with
          | d hv =>
            obtain ⟨vs', p1, p2, p3⟩ := put_rep (k := kk) hv hl h2
            obtain ⟨w, rl2⟩ := h3 (.dK (putK (ks.zip vs) kk v)) (.dct (dput kk x ks ds).1 (dput kk x ks ds).2) fun w => ⟨vs', by rw [upd_same, p1], p2, p3.grow w⟩
            cases (show ov = Value.ref a from ro)
            refine d_setItem hu I (DPut.k h1 ?_) ri rv fun s' I' => ⟨_, I', q _ w rl2⟩
            rw [List.length_zip, ← hl, Nat.min_self, sizeLine_eq]
            omega
        · cases e
      · cases e
    · cases e
  · cases e
/-! ### isinstance -/
def tyVal (fx : Fx) : Ty → Value
  | .non => .type "NoneType"
  | .bool => .type "bool"
  | .int => .type "int"
  | .str => .type "str"
  | .lst => .type "list"
  | .tup => .type "tuple"
  | .dct => .type "dict"
  | .ve => .type "ValueError"
  | .cls c => .ref (fx.cA c)
def tyVV (fx : Fx) : Ty → V
  | .non => .ty "NoneType"
  | .bool => .ty "bool"
  | .int => .ty "int"
  | .str => .ty "str"
  | .lst => .ty "list"
  | .tup => .ty "tuple"
  | .dct => .ty "dict"
  | .ve => .ty "ValueError"
  | .cls c => .ref (fx.cA c)
theorem tyV_cls (fx : Fx) (y : Ty) : ClsV (tyVV fx y) (tyVal fx y) := by
  cases y <;> first | exact .ty _ | exact .own _
structure KitG (fx : Fx) : Prop where
  is3 : ∀ k ∈ fx.ts, ∀ n ∈ ["NoneType", "bool", "int", "str", "list", "tuple", "dict", "ValueError"], PySem.W.kitOne fx.K (.type n) (.ref (fx.cA k)) = some false
def Ty.ok (ts : List Nat) : Ty → Bool
  | .non => false
  | .ve => false
  | .cls k => ts.contains k
  | _ => true
theorem kit_is (K : KitG fx) {y z : Ty} (hy : ∀ c, y = .cls c → ClsG fx c) (hz : z.ok fx.ts = true) : PySem.W.kitOne fx.K (tyVal fx y) (tyVal fx z) = some (y.is z) := by
  cases z with
  | non => cases hz
  | ve => cases hz
  | cls k =>
    have hk : k ∈ fx.ts := by simpa [Ty.ok] using hz
    cases y with
    | cls c => exact (hy c rfl).is1 k hk
    | _ => exact K.is3 k hk _ (by decide)
  | _ =>
    cases y with
    | cls c => exact (hy c rfl).is2 _ (by decide)
    | _ => exact kit_ty (by decide +kernel)
def Cell.ty : Cell → Option Ty
  | .lst _ => some Ty.lst
  | .dct _ _ => some .dct
  | .obj c _ => some (.cls c)
  | .dead => none
theorem tyS_g {k : Nat} {c : Cell} (e : S.glb[k]? = some c) : tyS (.d (.gref k)) S = c.ty := by
  cases c <;> simp [tyS, e, Cell.ty]
theorem tyS_l {k : Nat} {c : Cell} (e : S.loc[k]? = some c) : tyS (.cell k) S = c.ty := by
  cases c <;> simp [tyS, e, Cell.ty]
theorem cell_ty {a : Addr} {c : Cell} {y : Ty} (h : CellAt fx g H a c) (e : c.ty = some y) : TyX fx.K H (.ref a) (tyVal fx y) ∧ ∀ c, y = .cls c → ClsG fx c := by
  cases c with
  | dead => cases e
  | lst ds => cases e; obtain ⟨vs, h, _⟩ := h; exact ⟨.base (.lst h), fun c z => by cases z⟩
  | dct ks ds => cases e; obtain ⟨vs, h, _⟩ := h; exact ⟨.base (.dK h), fun c z => by cases z⟩
  | obj c ds =>
    cases e
    obtain ⟨dx, fvs, vs, h, k, _⟩ := h
    exact ⟨.base (.ins h k.cl k.ty1 k.ty2 k.ty3 k.ty4), fun c z => by cases z; exact k⟩
theorem ty_x {t : T} {y : Ty} (rl : Rel fx g S H) (r : RepT fx g H x t) (e : tyS t S = some y) : TyX fx.K H x (tyVal fx y) ∧ ∀ c, y = .cls c → ClsG fx c := by
  cases r with
  | d r =>
    cases r with
    | non => cases e; exact ⟨.base .non, fun c z => by cases z⟩
    | bl b => cases e; exact ⟨.base (.bl b), fun c z => by cases z⟩
    | int i => cases e; exact ⟨.base (.int i), fun c z => by cases z⟩
    | str z => cases e; exact ⟨.base (.str z), fun c z => by cases z⟩
    | lst h h2 q => cases e; exact ⟨.base (.lst h2), fun c z => by cases z⟩
    | tup h q =>
      cases e
      refine ⟨?_, fun c z => by cases z⟩
      rcases h with ⟨_, h | ⟨o, h⟩⟩ | ⟨o, its, n, h1, h2, _⟩
      · exact .base (.tup h)
      · exact .fTuple h
      · exact .kTuple h1 h2
    | obj h1 h2 h3 h4 q => cases e; exact ⟨.base (.ins h2 h3.cl h3.ty1 h3.ty2 h3.ty3 h3.ty4), fun c z => by cases z; exact h3⟩
    | dct h1 h2 h3 h4 q => cases e; exact ⟨.base (.dK h2), fun c z => by cases z⟩
    | gref h =>
      rename_i a k
      cases ec : S.glb[k]? with
      | none => simp [tyS, ec] at e
      | some c => exact cell_ty (rl.cG _ _ c h ec) (by rw [← e, tyS_g ec])
  | cell h =>
    rename_i a k
    cases ec : S.loc[k]? with
    | none => simp [tyS, ec] at e
    | some c => exact cell_ty (rl.cL _ _ c h ec) (by rw [← e, tyS_l ec])
  | lst h q => cases e
  | exc h q => cases e
  | tup h q =>
    cases e
    refine ⟨?_, fun c z => by cases z⟩
    rcases h with ⟨_, h | ⟨o, h⟩⟩ | ⟨o, its, n, h1, h2, _⟩
    · exact .base (.tup h)
    · exact .fTuple h
    · exact .kTuple h1 h2
theorem isTy_some {t : T} {ys : List Ty} {b : Bool} (h : isTy t S ys = some b) : ∃ y, tyS t S = some y ∧ b = ys.any fun z => y.is z := by
  unfold isTy at h
  split at h
  · cases h; exact ⟨_, by assumption, rfl⟩
  · cases h
theorem kit_any (K : KitG fx) {y : Ty} (hy : ∀ c, y = .cls c → ClsG fx c) : ∀ (zs : List Ty), (zs.all fun z => z.ok fx.ts) = true → PySem.W.kitAny fx.K (tyVal fx y) (zs.map (tyVal fx)) = some (zs.any fun z => y.is z)
  | [], _ => rfl
  | z :: zs, h => by
    simp only [List.all_cons, Bool.and_eq_true] at h
    refine kitAny_cons (kit_is K hy h.1) (fun e => ?_) fun e => ?_
    · rw [kit_any K hy zs h.2]; simp [e]
    · simp [e]
end
end Mn
set_option Elab.async false
set_option linter.all false
set_option maxRecDepth 100000
set_option maxHeartbeats 4000000
/-! Mn9: which text an expression stands for. -/
namespace Mn
open PySem PySem.Spec PyProof.Rows PySem.SeqAt
open L2 hiding ixN atI

/-- what is known of a place in the text: the slots' names, the scope, which of its cells are its own -/
structure SC where
  N : List Str
  sc : Scope
  fn : Str → Bool
  calm : Bool := true
/-- the names behind the numbers of Cxx -/
structure Nm where
  glo : List Str := []
  cal : List Str := []
  dis : List Str := []
  new : List Str := []
  newk : List (Str × Str) := []
  up : List (Str × Str) := []
  new0 : List Str := []
  rx : List Nat := []
  hot : List Nat := []
def SC.knd (c : SC) (x : Str) : Option NameKind := c.sc.names.lookup x
def SC.vis (c : SC) (i : Nat) (x : Str) : Bool := decide (c.N[i]? = some x) && (match c.knd x with
  | some .local => true
  | some .cell => true
  | some .free => true
  | _ => false) && !(x == ("__debug__" : Str)) && !(x == ("__classdict__" : Str))
def SC.loc (c : SC) (i : Nat) (x : Str) : Bool := decide (c.N[i]? = some x) && (match c.knd x with
  | some .local => true
  | some .cell => c.fn x
  | _ => false)
def SC.par (c : SC) (i j : Nat) (x y : Str) : Bool := decide (c.N[i]? = some x) && decide (c.N[j]? = some y) && decide (i ≠ j) && decide (x ≠ y) && decide (c.knd x = some .local) && decide (c.knd y = some .local) && decide (c.sc.kind = .function)
def SC.gl (c : SC) (x : Str) : Bool := decide (c.knd x = some .globalImplicit) && !(x == ("__debug__" : Str)) && !(x == ("super" : Str)) && !decide (x = ("__name__" : Str))
def SC.blk (c : SC) (scope : Scope) : SC := ⟨c.N, relS scope c.sc, fun x => scope.names.lookup x == some .cell, c.calm⟩
/-- nothing is asked of what runs around -/
def Bi.any? : Bi → Bool
  | .min => false
  | .max => false
  | .sum => false
  | .all => false
  | .any => false
  | _ => true

def BOp.py : BOp → Operator
  | .add => .Add
  | .sub => .Sub
  | .mul => .Mult
  | .fdiv => .FloorDiv
  | .mod => .Mod
  | .pow => .Pow
def COp.py : COp → CmpOp
  | .eq => .Eq
  | .ne => .NotEq
  | .lt => .Lt
  | .le => .LtE
  | .gt => .Gt
  | .ge => .GtE
  | .is => .Is
  | .isnot => .IsNot
  | .inn => .In
  | .notin => .NotIn
def Bi.nm : Bi → Str
  | .len => "len"
  | .list => "list"
  | .tuple => "tuple"
  | .min => "min"
  | .max => "max"
  | .abs => "abs"
  | .int => "int"
  | .str => "str"
  | .sum => "sum"
  | .all => "all"
  | .any => "any"
  | .sorted => "sorted"
  | .dict => "dict"
  | .repr => "repr"
  | .lenset => "len"
def Mt.nm : Mt → Str
  | .append => "append"
  | .extend => "extend"
  | .pop => "pop"
  | .clear => "clear"
  | .reverse => "reverse"
  | .insert => "insert"
  | .index => "index"
  | .count => "count"
  | .get => "get"
  | .dpop => "pop"
  | .setdefault => "setdefault"
  | .upper => "upper"
  | .split => "split"
  | .partition => "partition"
  | .join => "join"
  | .startswith => "startswith"
  | .endswith => "endswith"
  | .replace => "replace"
  | .isdigit => "isdigit"
def Ty.nm : Ty → Str
  | .non => ""
  | .bool => "bool"
  | .int => "int"
  | .str => "str"
  | .lst => "list"
  | .tup => "tuple"
  | .dct => "dict"
  | .ve => "ValueError"
  | .cls k => cname k
def Ty.okx (ts : List Nat) : Ty → Bool
  | .ve => true
  | .cls k => decide (40 ≤ k) && ts.contains k
  | _ => false
def bnames : List Str := ["ValueError", "len", "list", "tuple", "min", "max", "abs", "int", "str", "sum", "all", "any", "sorted", "dict", "repr", "bool", "isinstance", "range", "enumerate", "zip", "reversed", "set", "type"]

/-! ### targets -/
mutual
def mTg (c : SC) : Tg → Expr → Bool
  | .v i, x => match x with
    | .Name y _ => c.loc i y
    | _ => false
  | .t ts, x => match x with
    | .Tuple xs _ _ => c.calm && mTgs c ts xs
    | _ => false
def mTgs (c : SC) : Tgs → List Expr → Bool
  | .nil, xs => match xs with
    | [] => true
    | _ => false
  | .cons t ts, xs => match xs with
    | x :: xs => mTg c t x && mTgs c ts xs
    | _ => false
end
def ownT (c : SC) (tg : Tg) : List (Str × Nat) := (tgv tg).filterMap fun i => (c.N[i]?).map fun x => (x, i)

def It.pair : It → Bool
  | .enum _ => true
  | .zip _ _ => true
  | _ => false
def tupX : Expr → Bool
  | .Tuple _ _ _ => true
  | _ => false

/-! ### expressions -/
def mCon : D → Const → Bool
  | .non, .none => true
  | .bl a, .bool b => a == b
  | .int i, .int j => decide (i = j)
  | .str x, .str y => decide (x = y)
  | _, _ => false
def mTy1 (c : SC) (ok : Ty → Bool) (y : Ty) (x : Expr) : Bool := match x with
  | .Name z _ => c.gl z && decide (z = y.nm) && ok y
  | _ => false
def mTys (c : SC) (ok : Ty → Bool) : List Ty → List Expr → Bool
  | [], [] => true
  | y :: ys, x :: xs => mTy1 c ok y x && mTys c ok ys xs
  | _, _ => false
def mTy (c : SC) (ok : Ty → Bool) (ys : List Ty) (x : Expr) : Bool := match x with
  | .Tuple xs _ _ => mTys c ok ys xs && decide (xs.length ≤ 1000)
  | x => match ys with
    | [y] => mTy1 c ok y x
    | _ => false
mutual
def mE (nm : Nm) (ts : List Nat) : E → SC → Expr → Bool
  | .var i, c, x => match x with
    | .Name y _ => c.vis i y
    | _ => false
  | .con d, c, x => match x with
    | .Constant k _ _ => mCon d k
    | _ => false
  | .glo k, c, x => match x with
    | .Name y _ => c.gl y && decide (nm.glo[k]? = some y)
    | _ => false
  | .tup es, c, x => match x with
    | .Tuple xs _ _ => mEs nm ts es c xs
    | _ => false
  | .lst _ es, c, x => match x with
    | .List xs _ => mEs nm ts es c xs
    | _ => false
  | .dct _ es, c, x => match x with
    | .Dict ks vs _ => decide (ks.length ≤ 15) && mPs nm ts es c ks vs
    | _ => false
  | .bin _ o a b, c, x => match x with
    | .BinOp l p r _ => decide (p = o.py) && mE nm ts a c l && mE nm ts b c r
    | _ => false
  | .neg a, c, x => match x with
    | .UnaryOp .USub y _ => mE nm ts a c y
    | _ => false
  | .cmp o a b, c, x => match x with
    | .Compare l [p] [r] _ => decide (p = o.py) && mE nm ts a c l && mE nm ts b c r
    | _ => false
  | .chn o o' a b d, c, x => match x with
    | .Compare l [p, p'] [r, r'] _ => decide (p = o.py) && decide (p' = o'.py) && mE nm ts a c l && mE nm ts b c r && mE nm ts d c r'
    | _ => false
  | .not a, c, x => match x with
    | .UnaryOp .Not y _ => mE nm ts a c y
    | _ => false
  | .and es, c, x => match x with
    | .BoolOp .And xs _ => mEs nm ts es c xs
    | _ => false
  | .or es, c, x => match x with
    | .BoolOp .Or xs _ => mEs nm ts es c xs
    | _ => false
  | .ife t a b, c, x => match x with
    | .IfExp u l r _ => mE nm ts t c u && mE nm ts a c l && mE nm ts b c r
    | _ => false
  | .ix a b, c, x => match x with
    | .Subscript l r _ => mE nm ts a c l && mE nm ts b c r
    | _ => false
  | .slc _ a lo hi, c, x => match x with
    | .Subscript l (.Slice p q none _) _ => mE nm ts a c l &&
      (match p with
        | none => lo.isNon
        | some y => !lo.isNon && mE nm ts lo c y) &&
      (match q with
        | none => hi.isNon
        | some y => !hi.isNon && mE nm ts hi c y)
    | _ => false
  | .rev _ a, c, x => match x with
    | .Subscript l (.Slice none none (some (.UnaryOp .USub (.Constant (.int i) _ _) _)) _) _ => decide (i = 1) && mE nm ts a c l
    | _ => false
  | .bi _ o es, c, x => match x with
    | .Call (.Name y _) xs [] _ => c.gl y && decide (y = o.nm) && !xs.isEmpty && mEs nm ts es c xs && (c.calm || o.any?)
    | _ => false
  | .mt _ o a es, c, x => match x with
    | .Call (.Attribute l m p) xs [] q => decide (m = o.nm) && (p.endLine == q.line) && decide (xs.length < 20) && mE nm ts a c l && mEs nm ts es c xs
    | _ => false
  | .call k es, c, x => match x with
    | .Call (.Name y _) xs [] _ => c.gl y && decide (nm.cal[k]? = some y) && mEs nm ts es c xs && (c.calm || nm.hot.contains k)
    | _ => false
  | .meth k o es, c, x => match x with
    | .Call (.Attribute l m p) xs [] q => decide (nm.dis[k]? = some m) && (p.endLine == q.line) && decide (xs.length < 20) && mE nm ts o c l && mEs nm ts es c xs && c.calm
    | _ => false
  | .new _ k es, c, x => match x with
    | .Call (.Name y _) xs [] _ => c.gl y && decide (nm.new[k]? = some y) && mEs nm ts es c xs && c.calm
    | _ => false
  | .newK _ k es e, c, x => match x with
    | .Call (.Name y _) xs [⟨some a, v, _⟩] _ => c.gl y && decide (nm.newk[k]? = some (y, a)) && mEs nm ts es c xs && mE nm ts e c v && c.calm
    | _ => false
  | .attr o f, c, x => match x with
    | .Attribute l g _ => decide (g = fname f) && decide (f < 28) && mE nm ts o c l
    | _ => false
  | .comp _ tg it ifs elt, c, x => match x with
    | .ListComp y [⟨t, i, cs, 0⟩] scope _ => mIt nm ts it c i && (!it.pair || tupX t) && blkC c.N c.sc scope (ownT c tg) && decide ((ownT c tg).map (·.2) = tgv tg) && mTg (c.blk scope) tg t && mEs nm ts ifs (c.blk scope) cs && mE nm ts elt (c.blk scope) y && c.calm
    | _ => false
  | .cmc _ tg e ifs elt, c, x => match x with
    | .ListComp y [⟨t, i, cs, 0⟩] scope _ => mE nm ts e c i && blkC c.N c.sc scope (ownT c tg) && decide ((ownT c tg).map (·.2) = tgv tg) && mTg (c.blk scope) tg t && mEs nm ts ifs (c.blk scope) cs && mE nm ts elt (c.blk scope) y && c.calm
    | _ => false
  | .isi a cs, c, x => match x with
    | .Call (.Name y _) [l, t] [] _ => c.gl y && decide (y = ("isinstance" : Str)) && mE nm ts a c l && mTy c (Ty.ok ts) cs t
    | _ => false
  | .frz a, c, x => mE nm ts a c x
  | .grf a, c, x => mE nm ts a c x
  | .isx i cs, c, x => match x with
    | .Call (.Name y _) [.Name z _, t] [] _ => c.gl y && decide (y = ("isinstance" : Str)) && c.vis i z && mTy c (Ty.okx ts) cs t
    | _ => false
  | .xat i f, c, x => match x with
    | .Attribute (.Name z _) g _ => c.vis i z && decide (g = fname f) && decide (f < 28)
    | _ => false
  | .up k es, c, x => match x with
    | .Call (.Attribute (.Name y _) m p) xs [] q => c.gl y && decide (nm.up[k]? = some (y, m)) && (p.endLine == q.line) && decide (xs.length < 20) && mEs nm ts es c xs && c.calm
    | _ => false
  | .new0 k, c, x => match x with
    | .Call (.Name y _) [] [] _ => c.gl y && decide (nm.new0[k]? = some y) && c.calm
    | _ => false
def mEs (nm : Nm) (ts : List Nat) : Es → SC → List Expr → Bool
  | .nil, _, xs => xs.isEmpty
  | .cons e es, c, xs => match xs with
    | x :: xs => mE nm ts e c x && mEs nm ts es c xs
    | [] => false
def mPs (nm : Nm) (ts : List Nat) : Es → SC → List (Option Expr) → List Expr → Bool
  | .nil, _, ks, vs => ks.isEmpty && vs.isEmpty
  | .cons e es, c, ks, vs => match es with
    | .nil => false
    | .cons e2 es2 => match ks, vs with
      | some k :: ks, v :: vs => mE nm ts e c k && mE nm ts e2 c v && mPs nm ts es2 c ks vs
      | _, _ => false
def mIt (nm : Nm) (ts : List Nat) : It → SC → Expr → Bool
  | .seq e, c, x => mE nm ts e c x
  | .rng es, c, x => match x with
    | .Call (.Name y _) xs [] _ => c.gl y && decide (y = ("range" : Str)) && decide (xs.length = 1 ∨ xs.length = 2) && mEs nm ts es c xs
    | _ => false
  | .enum e, c, x => match x with
    | .Call (.Name y _) [l] [] _ => c.gl y && decide (y = ("enumerate" : Str)) && mE nm ts e c l
    | _ => false
  | .zip a b, c, x => match x with
    | .Call (.Name y _) [l, r] [] _ => c.gl y && decide (y = ("zip" : Str)) && mE nm ts a c l && mE nm ts b c r
    | _ => false
  | .rvs e, c, x => match x with
    | .Call (.Name y _) [l] [] _ => c.gl y && decide (y = ("reversed" : Str)) && mE nm ts e c l
    | _ => false
  | .rvr es, c, x => match x with
    | .Call (.Name y _) [.Call (.Name z _) xs [] _] [] _ => c.gl y && decide (y = ("reversed" : Str)) && c.gl z && decide (z = ("range" : Str)) && decide (xs.length = 1 ∨ xs.length = 2) && mEs nm ts es c xs
    | _ => false
end

/-! ### what a text is not -/
/-- no star, no slice, no set, no call of super -/
def okX : Expr → Bool
  | .Starred _ _ => false
  | .Slice _ _ _ _ => false
  | .Set _ _ _ => false
  | .Call (.Name y _) [] [] _ => !(y == ("super" : Str))
  | _ => true
theorem gl_sup {c : SC} {y : Str} (h : c.gl y = true) : (y == ("super" : Str)) = false := by
  unfold SC.gl at h
  simp only [Bool.and_eq_true, Bool.not_eq_true'] at h
  exact h.1.2
theorem okX_call {y : Str} {p : Pos} {xs : List Expr} {kws : List Keyword} {pos : Pos} (h : (y == ("super" : Str)) = false) : okX (.Call (.Name y p) xs kws pos) = true := by
  unfold okX
  split <;> simp_all
theorem mE_okX {nm : Nm} {ts : List Nat} : ∀ (e : E) (c : SC) (x : Expr), mE nm ts e c x = true → okX x = true
  | .var i, c, x, h => by
    unfold mE at h; split at h
    · rfl
    · cases h
  | .con d, c, x, h => by
    unfold mE at h; split at h
    · rfl
    · cases h
  | .glo k, c, x, h => by
    unfold mE at h; split at h
    · rfl
    · cases h
  | .tup es, c, x, h => by
    unfold mE at h; split at h
    · rfl
    · cases h
  | .lst _ es, c, x, h => by
    unfold mE at h; split at h
    · rfl
    · cases h
  | .dct _ _, c, x, h => by
    unfold mE at h; split at h
    · rfl
    · cases h
  | .bin _ o a b, c, x, h => by
    unfold mE at h; split at h
    · rfl
    · cases h
  | .neg a, c, x, h => by
    unfold mE at h; split at h
    · rfl
    · cases h
  | .cmp o a b, c, x, h => by
    unfold mE at h; split at h
    · rfl
    · cases h
  | .chn o o' a b d, c, x, h => by
    unfold mE at h; split at h
    · rfl
    · cases h
  | .not a, c, x, h => by
    unfold mE at h; split at h
    · rfl
    · cases h
  | .and es, c, x, h => by
    unfold mE at h; split at h
    · rfl
    · cases h
  | .or es, c, x, h => by
    unfold mE at h; split at h
    · rfl
    · cases h
  | .ife t a b, c, x, h => by
    unfold mE at h; split at h
    · rfl
    · cases h
  | .ix a b, c, x, h => by
    unfold mE at h; split at h
    · rfl
    · cases h
  | .slc _ a lo hi, c, x, h => by
    unfold mE at h; split at h
    · rfl
    · cases h
  | .rev _ a, c, x, h => by
    unfold mE at h; split at h
    · rfl
    · cases h
  | .bi _ o es, c, x, h => by
    unfold mE at h; split at h
    · simp only [Bool.and_eq_true] at h
      exact okX_call (gl_sup h.1.1.1.1)
    · cases h
  | .mt _ o a es, c, x, h => by
    unfold mE at h; split at h
    · rfl
    · cases h
  | .call k es, c, x, h => by
    unfold mE at h; split at h
    · simp only [Bool.and_eq_true] at h
      exact okX_call (gl_sup h.1.1.1)
    · cases h
  | .meth k o es, c, x, h => by
    unfold mE at h; split at h
    · rfl
    · cases h
  | .new _ k es, c, x, h => by
    unfold mE at h; split at h
    · simp only [Bool.and_eq_true] at h
      exact okX_call (gl_sup h.1.1.1)
    · cases h
  | .newK _ k es e, c, x, h => by
    unfold mE at h; split at h
    · simp only [Bool.and_eq_true] at h
      exact okX_call (gl_sup h.1.1.1.1)
    · cases h
  | .attr o f, c, x, h => by
    unfold mE at h; split at h
    · rfl
    · cases h
  | .comp _ tg it ifs elt, c, x, h => by
    unfold mE at h; split at h
    · rfl
    · cases h
  | .cmc _ tg e ifs elt, c, x, h => by
    unfold mE at h; split at h
    · rfl
    · cases h
  | .isi a cs, c, x, h => by
    unfold mE at h; split at h
    · rfl
    · cases h
  | .frz a, c, x, h => by
    unfold mE at h
    exact mE_okX a c x h
  | .grf a, c, x, h => by
    unfold mE at h
    exact mE_okX a c x h
  | .isx i cs, c, x, h => by
    unfold mE at h; split at h
    · rfl
    · cases h
  | .xat i f, c, x, h => by
    unfold mE at h; split at h
    · rfl
    · cases h
  | .up k es, c, x, h => by
    unfold mE at h; split at h
    · rfl
    · cases h
  | .new0 k, c, x, h => by
    unfold mE at h; split at h
    · simp only [Bool.and_eq_true] at h
      exact okX_call (gl_sup h.1.1)
    · cases h
theorem ok_star {x : Expr} (h : okX x = true) (xs : List Expr) (env : Env) : starEach (x :: xs) env = (false, eval x env) :: starEach xs env := by
  cases x <;> first | rfl | cases h
theorem ok_attr {x : Expr} (h : okX x = true) (f : Str) (env : Env) (t : Sem Value) : attributeBase x f env t = t := by
  unfold attributeBase
  split
  · rename_i id _ _
    have h' : (id == ("super" : Str)) = false := by simpa [okX] using h
    rw [if_pos (by simp [bne, h'])]
  · rfl
theorem ok_set {x : Expr} (h : okX x = true) (env : Env) (v : Value) : foldedSetIterable x env v = pure v := by
  cases x <;> first | rfl | cases h
theorem ok_behind {x : Expr} (h : okX x = true) (op : CmpOp) : behindInMarks op x = false := by
  cases x <;> first | rfl | cases h
theorem ok_ix {x : Expr} (h : okX x = true) : PlainIx x := by
  intro o i
  cases x <;> first | rfl | cases h
/-- a test by its value -/
def plainT : Expr → Bool
  | .UnaryOp .Not _ _ => false
  | .BoolOp _ _ _ => false
  | .IfExp _ _ _ _ => false
  | .Compare _ _ _ _ => false
  | _ => true
theorem plain_true {x : Expr} (h : plainT x = true) (env : Env) : ∀ t, isTrue x env t = (do let v ← t; standAt x.pos; holding [v] (truthy v)) := by
  intro t
  cases x <;> first | rfl | (cases h; done) | skip
  rename_i op _ _
  cases op <;> first | rfl | cases h
theorem mEs_star {nm : Nm} {ts : List Nat} {env : Env} : ∀ (es : Es) (c : SC) (xs : List Expr), mEs nm ts es c xs = true → starEach xs env = xs.map fun x => (false, eval x env)
  | .nil, c, xs, h => by
    unfold mEs at h
    cases xs with
    | nil => rfl
    | cons x xs => cases h
  | .cons e es, c, xs, h => by
    unfold mEs at h
    cases xs with
    | nil => cases h
    | cons x xs =>
      simp only [Bool.and_eq_true] at h
      rw [ok_star (mE_okX e c x h.1), mEs_star es c xs h.2]
      rfl
theorem back_plain {xs : List Expr} {env : Env} {pos : Pos} (h : starEach xs env = xs.map fun x => (false, eval x env)) : (backTo pos (starEach xs env)).any (·.1) = false := by
  rw [h]
  unfold backTo
  simp
end Mn
set_option Elab.async false
set_option linter.all false
set_option maxRecDepth 100000
set_option maxHeartbeats 4000000
/-! MnH: a def called in an except suite; what is known of the exception handled is handed on. -/
namespace Mn
open PySem PySem.Spec PyProof.Rows
open L2 hiding Takes XE CX takes_of passes_call passAt PMk ps_raise ps_try_as ps_try_many HdsOk pmk_own MkP mk_of Sky.land
open L2N (CX Takes)

/-- what a def promises while an exception is handled that φ knows -/
structure FnX (P : Program) (w : World) (K : PySem.W.Frag) (mg : Str → Option Value) (base : Heap) (Y : CXT) (k : Nat) (f : Addr) (fd : FuncData) (ps : List Str) (φ : Addr × Obj → Prop) (sp : Sp) : Prop where
  len : ∀ vs H Q E, sp vs H Q E → vs.length = ps.length
  run : ∀ (A : Around) (outer : List Env) (s : Shared) (H : Hp) (args : Args) (us : List Value) (vs : List V) (Q : VK) (E : XK) (p : Addr × Obj), L2H.RoomH k A → L2H.Hot1 A p → φ p → L2H.PinOk outer H s p → Env0 P w K mg base A outer s H →
    BindsTo s fd args (ps.zip us) → Vals vs us → sp vs H Q E → codeAny (model P w) A (.call (.ref f) args) (CR Y outer P w H s Q E) s
theorem FnX.mono {P : Program} {w : World} {K : PySem.W.Frag} {mg : Str → Option Value} {base : Heap} {Y : CXT} {j k : Nat} {f : Addr} {fd : FuncData} {ps : List Str} {φ : Addr × Obj → Prop} {sp : Sp} (F : FnX P w K mg base Y j f fd ps φ sp) (h : j ≤ k) : FnX P w K mg base Y k f fd ps φ sp :=
  ⟨F.len, fun A outer s H args us vs Q E p hr => F.run A outer s H args us vs Q E p (hr.mono h)⟩
theorem fnx_of {Y : CXT} {P : Program} {w : World} {K : PySem.W.Frag} {mg : Str → Option Value} {base : Heap} {k : Nat} {f : Addr} {x qual : Str} {params : Arguments} {body : List Stmt} {scope : Scope} {dvs : List V} {kws : List (Str × V)} {fd : FuncData}
    {N ps : List Str} {φ : Addr × Obj → Prop} {sp : Sp} (F : FunD K x qual params body scope dvs kws f fd) (S : FnScope N ps scope) (len : ∀ vs H Q E, sp vs H Q E → vs.length = ps.length)
    (hbody : ∀ (cdv : Value) (A : Around) (outer : List Env) (s : Shared) (H : Hp) (vs : List V) (Q : VK) (E : XK) (p : Addr × Obj), L2H.Hot1 A p → φ p → L2H.RoomH k (A.deeper (envOfC qual scope s.heap.objs.size f cdv)) → sp vs H Q E →
      ∃ t, PSs (L2H.cxH Y P w K mg base N qual scope f cdv A outer s H E p) body t ∧ t { nx := fun _ H' => Q .non H', rt := Q } (start N vs) H) : FnX P w K mg base Y (k + 1) f fd ps φ sp := by
  obtain ⟨oc, od, dV, kV, doc, pm, an, cdv, ct, osl, rfl, lk, hcd, _, _⟩ := F.ex
  refine ⟨len, fun A outer s H args us vs Q E p hr hot hp hpin e0 hb r hsp => ?_⟩
  have KX : K.In s.heap := e0.mod.kin.keeps fun b o e => (e0.bs b o e).1
  have lim : s.heap.NoLimit := e0.mod.nolimit.keeps fun b o e => (e0.bs b o e).1
  have kinds : ∀ y ∈ ps.zip us, scope.names.lookup y.1 = some .local ∨ (scope.names.lookup y.1 = some .cell ∧ ((cellsFrom (s.heap.objs.size + 1) scope.names []).lookup y.1).isSome = true) := fun ⟨n, v⟩ hy => by
    rcases S.par n (List.of_mem_zip hy).1 with q | q
    · exact .inl q
    · exact .inr ⟨q, PySem.W.cellsFrom_some _ _ _ (.inl q)⟩
  refine codeAny_call_function hr.depth (KX _ _ lk) rfl S.co S.gen rfl (PySem.W.codeRec_of KX hcd) (hb _ _ _ _ ?_)
  refine wpAny_newFunctionEnv_cells S.kind kinds fun env he s1 x => ?_
  subst he
  refine ⟨lim.keeps x.toInCall.keep, codeAny_func ?_⟩
  obtain ⟨t, ht, hq⟩ := hbody cdv A outer s H vs Q E p hot hp (hr.deeper _) hsp
  have I := L2H.inv_startH (CX := Y) (P := P) (w := w) (qual := qual) (f := f) (cd := cdv) (E := E) S hpin e0 (len _ _ _ _ hsp) r x
  refine wpAny_mono (ht.run [] s1 (start N vs) H _ I hq) (fun fl s' hs => ?_) fun e s' hs => hs
  have fin : ∀ {σ' : L2.St} {H' : Hp} {v : V} {u : Value}, Inv (L2H.cxH Y P w K mg base N qual scope f cdv A outer s H E p) [] σ' H' s' → RelV v u → Q v H' → CE outer P w H s Q u s' :=
    fun {σ' H' v u} J rv q => ⟨v, H', J.os, J.bare, J.base, J.hok, rv, q⟩
  cases fl with
  | ret u =>
    obtain ⟨v, σ', H', J, rv, q⟩ := hs
    exact fin J rv q
  | next =>
    obtain ⟨σ', H', J, q⟩ := hs
    exact fin (v := V.non) (u := Value.none) J rfl q
  | brk =>
    obtain ⟨_, _, _, q⟩ := hs
    exact False.elim q
  | cont =>
    obtain ⟨_, _, _, q⟩ := hs
    exact False.elim q
/-- the callee runs while X's exception is handled -/
theorem fnx_runs {X : Cx} {W : L2.WX} {pins : List (Addr × Obj)} {σ : L2.St} {H : Hp} {s : Shared} {Q : VK} {k : Nat} {f : Addr} {fd : FuncData} {ps : List Str} {φ : Addr × Obj → Prop} {sp : Sp} {dvs : List V} {ds : List Value} {E : XK} {us : List Value} {vs : List V} {p : Addr × Obj}
    (F : FnX X.prog X.w X.K X.mg X.base (CX X.prog X.w) k f fd ps φ sp) (hr : L2H.RoomH k X.A) (hot : L2H.Hot1 X.A p) (hφ : φ p) (hp : p ∈ X.pn) (hb : Binds X.K fd ps ds) (hd : Vals dvs ds)
    (tk : Takes X W) (hE : ∀ cls d H', E cls d H' → W cls d σ H') (I : Inv X pins σ H s) (r : Vals vs us) (h : sp (vs ++ dvs) H Q E) : wpAny (model X.prog X.w) X.A (call (.ref f) us) (EP X pins σ Q) X.xe s := by
  have rr := r.append hd
  have hlen : (us ++ ds).length = ps.length := rr.length.symm.trans (F.len _ _ _ _ h)
  have P1 := I.pin p (List.mem_append_left _ hp)
  have hpin : L2H.PinOk X.stack H s p := ⟨P1.1, P1.2.1, fun hm => (List.mem_cons.mp (I.stkSub p.1 hm)).elim P1.2.2.1 P1.2.2.2.1, P1.2.2.2.2⟩
  have run := F.run X.A X.stack s H ⟨us, []⟩ (us ++ ds) (vs ++ dvs) Q E p hr hot hφ hpin I.env0 (hb s us I.kIn hlen) rr h
  refine wpAny_call (codeAny_mono run fun res s' hq => ?_)
  match res, hq with
  | .error e, hq => exact tk e s' (L2N.XE.of_call I (fun c d H' z => hE c d H' z) hq)
  | .ok (.ret u), hq => exact I.after hq
  | .ok .next, hq => exact False.elim hq
  | .ok .brk, hq => exact False.elim hq
  | .ok .cont, hq => exact False.elim hq
end Mn
set_option Elab.async false
set_option linter.all false
set_option maxRecDepth 100000
set_option maxHeartbeats 4000000
/-! Mn10: what a place must have; expressions, one by one. -/
namespace Mn
open PySem PySem.Spec PyProof.Rows PySem.SeqAt
open L2 hiding ixN atI Takes XE CX takes_of passes_call passAt
open L2N (Takes XE CX takes_of)

/-- a def's promise by its meaning -/
def spFn (fx : Fx) (f : Fn) : Sp := fun vs H Q E => ∃ g S ts, Rel fx g S H ∧ RepTs fx g H vs ts ∧ Run fx g H (f ts S) Q E
def Fix (fx : Fx) (dvs : List V) (ds : List D) : Prop := ∀ (F : Addr → Prop) (bs : List Addr) (H : Hp), RepDs fx F bs H dvs ds
def CalOk (fx : Fx) (X : Cx) (x : Str) (c : Cal) : Prop := ∃ (k : Nat) (f : Addr) (fd : FuncData) (ps : List Str) (ds : List Value) (dvs : List V),
  FnOk X.prog X.w X.K X.mg X.base (CX X.prog X.w) k f fd ps (spFn fx c.f) ∧ Room k X.A ∧ X.mg x = some (.ref f) ∧ PySem.W.keepIn X.K (.ref f) = true ∧ Binds X.K fd ps ds ∧ Vals dvs ds ∧ Fix fx dvs c.dv
/-- what is known of the exception handled -/
def PinE (fx : Fx) (e : Addr × Nat × Option Addr) (p : Addr × Obj) : Prop := p.1 = e.1 ∧ L2N.Zn (.ref (fx.cA e.2.1)) e.2.2 p.2 ∧ ∃ vs, p.2.data = .fields vs
/-- called in an except suite -/
def HotOk (fx : Fx) (X : Cx) (x : Str) (c : Cal) : Prop := ∃ (k : Nat) (f : Addr) (fd : FuncData) (ps : List Str) (ds : List Value) (dvs : List V),
  (∀ e, FnX X.prog X.w X.K X.mg X.base (CX X.prog X.w) k f fd ps (PinE fx e) (spFn (fx.wx (some e)) c.f)) ∧ L2H.RoomH k X.A ∧ X.mg x = some (.ref f) ∧ PySem.W.keepIn X.K (.ref f) = true ∧ Binds X.K fd ps ds ∧ Vals dvs ds ∧ Fix fx dvs c.dv
def DisOk (fx : Fx) (X : Cx) (m : Str) (c : Nat) (d : Cal) : Prop := ∃ (k : Nat) (f : Addr) (fd : FuncData) (ps : List Str) (ds : List Value) (dvs : List V),
  FnOk X.prog X.w X.K X.mg X.base (CX X.prog X.w) k f fd ps (spFn fx d.f) ∧ Room k X.A ∧ Meth X.K (fx.cA c) m f ∧ Binds X.K fd ps ds ∧ Vals dvs ds ∧ Fix fx dvs d.dv ∧ m ∉ fnames c
def NewOk (fx : Fx) (X : Cx) (x : Str) (c : Nat) (d : Cal) : Prop := ∃ (k : Nat) (f : Addr) (fd : FuncData) (ps : List Str) (ds : List Value) (dvs : List V),
  FnOk X.prog X.w X.K X.mg X.base (CX X.prog X.w) k f fd ps (spFn fx d.f) ∧ Room (k + 1) X.A ∧ X.mg x = some (.ref (fx.cA c)) ∧ Mk X.K (fx.cA c) f ∧ Binds X.K fd ps ds ∧ Vals dvs ds ∧ Fix fx dvs d.dv ∧ ClsG fx c
/-- a class made with one keyword, the last of the parameters -/
def NewKOk (fx : Fx) (X : Cx) (x a : Str) (c : Nat) (d : Cal) : Prop := ∃ (k : Nat) (f : Addr) (fd : FuncData) (ps : List Str) (n : Nat),
  FnOk X.prog X.w X.K X.mg X.base (CX X.prog X.w) k f fd ps (spFn fx d.f) ∧ Room (k + 1) X.A ∧ X.mg x = some (.ref (fx.cA c)) ∧ Mk X.K (fx.cA c) f ∧ KBn X.K fd ps (n + 1) [a] (fun us ws => us ++ ws) (fun vs zs => vs ++ zs) ∧ ps.length = n + 2 ∧ d.dv = [] ∧ ClsG fx c
/-- Base.m(self, ..) -/
def UpOk (fx : Fx) (X : Cx) (x m : Str) (d : Cal) : Prop := ∃ (k : Nat) (C f : Addr) (fd : FuncData) (ps : List Str) (ds : List Value) (dvs : List V),
  FnOk X.prog X.w X.K X.mg X.base (CX X.prog X.w) k f fd ps (spFn fx d.f) ∧ Room k X.A ∧ X.mg x = some (.ref C) ∧ UpC X.K C m f ∧ Binds X.K fd ps ds ∧ Vals dvs ds ∧ Fix fx dvs d.dv
def New0Ok (fx : Fx) (X : Cx) (x : Str) (c : Nat) : Prop := X.mg x = some (.ref (fx.cA c)) ∧ PySem.W.makesIn X.K (fx.cA c) = true ∧ PySem.W.findIn X.K (.ref (fx.cA c)) "__init__" = some (some (.builtin "object.__init__")) ∧ PySem.W.keepIn X.K (.ref (fx.cA c)) = true ∧ ClsG fx c
/-- an exception with an own __init__ -/
def RaiOk (fx : Fx) (X : Cx) (c : Nat) : Prop := ∃ (k : Nat) (fI : Addr) (fd : FuncData) (ps : List Str) (f : Nat), flds c = [f] ∧ OexC X.K (fx.cA c) ∧ PySem.W.findIn X.K (.ref (fx.cA c)) "__init__" = some (some (.ref fI)) ∧ PySem.W.typeIn X.K (.ref fI) = some (.type "function") ∧
  FnOk X.prog X.w X.K X.mg X.base (CX X.prog X.w) k fI fd ps (spIni (fx.cA c) (fname f)) ∧ Room (k + 1) X.A ∧ Binds X.K fd ps []
/-- what may be called -/
structure Tbl (fx : Fx) (cx : Cxx) (nm : Nm) (X : Cx) : Prop where
  cal : ∀ (k : Nat) (x : Str), nm.cal[k]? = some x → ∃ f, cx.cal[k]? = some f ∧ CalOk fx X x f
  dis : ∀ (k : Nat) (m : Str) (c : Nat) (f : Cal), nm.dis[k]? = some m → cx.find k c = some f → DisOk fx X m c f
  new : ∀ (k : Nat) (x : Str), nm.new[k]? = some x → ∃ c f, cx.new[k]? = some (c, f) ∧ NewOk fx X x c f
  newk : ∀ (k : Nat) (x : Str × Str), nm.newk[k]? = some x → ∃ c f, cx.newk[k]? = some (c, f) ∧ NewKOk fx X x.1 x.2 c f
  up : ∀ (k : Nat) (x : Str × Str), nm.up[k]? = some x → ∃ f, cx.up[k]? = some f ∧ UpOk fx X x.1 x.2 f
  new0 : ∀ (k : Nat) (x : Str), nm.new0[k]? = some x → ∃ c, cx.new0[k]? = some c ∧ New0Ok fx X x c
  rx : ∀ c ∈ nm.rx, RaiOk fx X c
/-- what is known of the classes of exceptions -/
structure ExG (fx : Fx) : Prop where
  k : ∀ c ∈ fx.ts, 40 ≤ c → ExK fx.K (fx.cA c)
  fn : ∀ c ∈ fx.ts, 40 ≤ c → ∀ f ∈ flds c, PySem.W.findIn fx.K (.ref (fx.cA c)) (fname f) = some none
  em : ∀ c ∈ fx.ts, 40 ≤ c → ∀ k ∈ fx.ts, 40 ≤ k → PySem.W.exmOne fx.K (.ref (fx.cA c)) (.ref (fx.cA k)) = some ((ups c).contains k)
  is : ∀ c ∈ fx.ts, 40 ≤ c → ∀ k ∈ fx.ts, 40 ≤ k → PySem.W.kitOne fx.K (.ref (fx.cA c)) (.ref (fx.cA k)) = some ((ups c).contains k)
  iv : ∀ c ∈ fx.ts, 40 ≤ c → PySem.W.kitOne fx.K (.ref (fx.cA c)) (.type "ValueError") = some true
  own : ∀ c ∈ fx.ts, 40 ≤ c → flds c = [] → PySem.W.excIn fx.K (fx.cA c) [.type "ValueError", .type "Exception", .type "BaseException", .type "object"] "ValueError.__new__" = true ∧ PySem.W.keepIn fx.K (.ref (fx.cA c)) = true ∧
    PySem.W.subIn fx.K (.ref (fx.cA c)) (.type "BaseException") = some true ∧ PySem.W.typeIn fx.K (.ref (fx.cA c)) = some (.type "type")
/-- what holds of all places of one run of a def -/
structure Pub (fx : Fx) (cx : Cxx) (nm : Nm) (X : Cx) : Prop where
  K : X.K = fx.K
  un : X.A.units + 65 < cLine
  bl : ∀ x ∈ bnames, X.mg x = none
  kit : KitG fx
  glo : ∀ (k : Nat) (x : Str), nm.glo[k]? = some x → ∃ (d : D) (v : V) (u : Value), cx.glo[k]? = some d ∧ X.mg x = some u ∧ RelV v u ∧ ∀ (F : Addr → Prop) (bs : List Addr) (H : Hp), RepD fx F bs H v d
  tb : X.calm = true → Tbl fx cx nm X
  ex : ExG fx
  cls : ∀ k ∈ fx.ts, X.mg (cname k) = some (.ref (fx.cA k))
  hot : ∀ i ∈ nm.hot, ∀ x : Str, nm.cal[i]? = some x → ∃ f, cx.cal[i]? = some f ∧ HotOk fx X x f
structure Good (fx : Fx) (cx : Cxx) (nm : Nm) (c : SC) (X : Cx) (W : WX) : Prop where
  pub : Pub fx cx nm X
  N : X.N = c.N
  nd : c.N.Nodup
  sc : X.env.scope = c.sc
  fn : X.fn = c.fn
  tk : Takes X W
  cm : c.calm = true → X.calm = true ∧ fx.ex = none
  bear : ∀ a k d, fx.ex = some (a, k, d) → Bears X a (fx.cA k) d
  hd : ∀ a k d, fx.ex = some (a, k, d) → X.A.handled = some (.ref a)
  hx : c.calm = false → ∃ e, fx.ex = some e
section
variable {fx : Fx} {cx : Cxx} {nm : Nm} {c : SC} {X : Cx} {W : WX}
theorem Good.hN (G : Good fx cx nm c X W) : X.N.Nodup := by rw [G.N]; exact G.nd
theorem Good.vis (G : Good fx cx nm c X W) {i : Nat} {x : Str} (h : c.vis i x = true) : X.N[i]? = some x ∧ Vis X.env.scope x ∧ (x == ("__debug__" : Str)) = false ∧ (x == ("__classdict__" : Str)) = false := by
  unfold SC.vis at h
  simp only [Bool.and_eq_true, Bool.not_eq_true', decide_eq_true_eq] at h
  obtain ⟨⟨⟨h1, h2⟩, h3⟩, h4⟩ := h
  refine ⟨by rw [G.N]; exact h1, ?_, h3, h4⟩
  unfold Vis
  rw [G.sc]
  unfold SC.knd at h2
  split at h2 <;> first | exact .inl (by assumption) | exact .inr (.inl (by assumption)) | exact .inr (.inr (by assumption)) | cases h2
theorem Good.loc (G : Good fx cx nm c X W) {i : Nat} {x : Str} (h : c.loc i x = true) : X.N[i]? = some x ∧ L2.Loc X.env.scope x ∧ (X.fn x = true ∨ X.env.scope.names.lookup x = some .local) := by
  unfold SC.loc at h
  simp only [Bool.and_eq_true, decide_eq_true_eq] at h
  obtain ⟨h1, h2⟩ := h
  refine ⟨by rw [G.N]; exact h1, ?_⟩
  unfold L2.Loc
  rw [G.sc, G.fn]
  unfold SC.knd at h2
  split at h2
  · exact ⟨.inl (by assumption), .inr (by assumption)⟩
  · exact ⟨.inr (by assumption), .inl h2⟩
  · cases h2
theorem Good.gl (G : Good fx cx nm c X W) {x : Str} (h : c.gl x = true) : Gl X x ∧ (x == ("__debug__" : Str)) = false ∧ x ≠ "__name__" := by
  unfold SC.gl at h
  simp only [Bool.and_eq_true, Bool.not_eq_true', decide_eq_true_eq, decide_eq_false_iff_not] at h
  obtain ⟨⟨⟨h1, h2⟩, h3⟩, h4⟩ := h
  refine ⟨?_, h2, h4⟩
  show X.env.scope.names.lookup x = _
  rw [G.sc]
  exact h1

/-! ### readings put together -/
variable {σ : L2.St} {H : Hp} {Q : VK}
theorem rd_nil {P : List V → Hp → Prop} (h : rdA fx W (fun _ S => .ok [] S) σ H P) : tNil σ H P := by
  obtain ⟨g, τ, S, rl, sl, h⟩ := h
  exact h.fin rl .nil
theorem rd_cons {m : Sl → Store → R T} {ms : Sl → Store → R (List T)} {P : List V → Hp → Prop} (h : rdA fx W (fun τ S => (m τ S).bnd fun t S1 => (ms τ S1).bnd fun ts S2 => .ok (t :: ts) S2) σ H P) : tCons (rd fx W m) (rdA fx W ms) σ H P := by
  obtain ⟨g, τ, S, rl, sl, h⟩ := h
  refine ⟨g, τ, S, rl, sl, h.bnd.mono fun v H1 ⟨g1, S1, a, w, rl1, rp, h1⟩ => ?_⟩
  refine ⟨g1, τ, S1, rl1, sl.grow w, h1.bnd.mono fun vs H2 ⟨g2, S2, b, w2, rl2, rp2, h2⟩ => ?_⟩
  exact h2.fin rl2 (.cons (rp.grow w2) rp2)
theorem rd_un {m : Sl → Store → R T} {f : T → Store → R T} (h : rd fx W (fun τ S => (m τ S).bnd f) σ H Q) : tUn (r1v fx f) (rd fx W m) σ H Q := by
  obtain ⟨g, τ, S, rl, sl, h⟩ := h
  exact ⟨g, τ, S, rl, sl, h.bnd.mono fun v H1 ⟨g1, S1, a, w, rl1, rp, h1⟩ => ⟨g1, S1, a, _, rl1, rp, h1⟩⟩
theorem rd_bin {m n : Sl → Store → R T} {f : T → T → Store → R T} (h : rd fx W (fun τ S => (m τ S).bnd fun x S1 => (n τ S1).bnd fun y S2 => f x y S2) σ H Q) : tOp (r2 fx f) (rd fx W m) (rd fx W n) σ H Q := by
  obtain ⟨g, τ, S, rl, sl, h⟩ := h
  refine ⟨g, τ, S, rl, sl, h.bnd.mono fun v H1 ⟨g1, S1, a, w, rl1, rp, h1⟩ => ?_⟩
  exact ⟨g1, τ, S1, rl1, sl.grow w, h1.bnd.mono fun u H2 ⟨g2, S2, b, w2, rl2, rp2, h2⟩ => ⟨g2, S2, a, b, _, rl2, rp.grow w2, rp2, h2⟩⟩
theorem rd_cb {ms : Sl → Store → R (List T)} {f : List T → Store → R T} (h : rd fx W (fun τ S => (ms τ S).bnd f) σ H Q) : tCB (rNv fx f) (rdA fx W ms) σ H Q := by
  obtain ⟨g, τ, S, rl, sl, h⟩ := h
  exact ⟨g, τ, S, rl, sl, h.bnd.mono fun v H1 ⟨g1, S1, a, w, rl1, rp, h1⟩ => ⟨g1, S1, a, _, rl1, rp, h1⟩⟩

/-! ### names, constants, displays -/
theorem s_var (G : Good fx cx nm c X W) {i : Nat} {x : Str} {pos : Pos} (h : c.vis i x = true) : PE X (.Name x pos) (rd fx W (ev cx (.var i))) := by
  obtain ⟨h1, h2, h3, h4⟩ := G.vis h
  refine (pe_var h1 h2 h3 h4).imp fun σ H Q h => ?_
  obtain ⟨g, τ, S, rl, sl, h⟩ := h
  simp only [ev] at h
  split at h
  · obtain ⟨v, e, r⟩ := sl.at_ i _ (by assumption)
    exact ⟨v, e, h.fin rl r⟩
  · exact h.elim
theorem s_con {d : D} {k : Const} {j : Nat} {pos : Pos} (h : mCon d k = true) : PE X (.Constant k j pos) (rd fx W (ev cx (.con d))) := by
  unfold mCon at h
  split at h
  · refine pe_non.imp fun σ H Q h => ?_
    obtain ⟨g, τ, S, rl, sl, h⟩ := h
    simp only [ev] at h
    exact h.fin rl (.d .non)
  · have e := eq_of_beq h
    subst e
    refine pe_bl.imp fun σ H Q h => ?_
    obtain ⟨g, τ, S, rl, sl, h⟩ := h
    simp only [ev] at h
    exact h.fin rl (.d (.bl _))
  · have e := of_decide_eq_true h
    subst e
    refine pe_int.imp fun σ H Q h => ?_
    obtain ⟨g, τ, S, rl, sl, h⟩ := h
    simp only [ev] at h
    exact h.fin rl (.d (.int _))
  · have e := of_decide_eq_true h
    subst e
    refine pe_str.imp fun σ H Q h => ?_
    obtain ⟨g, τ, S, rl, sl, h⟩ := h
    simp only [ev] at h
    exact h.fin rl (.d (.str _))
  · cases h
theorem s_glo (G : Good fx cx nm c X W) {k : Nat} {x : Str} {pos : Pos} (h : c.gl x = true) (hk : nm.glo[k]? = some x) : PE X (.Name x pos) (rd fx W (ev cx (.glo k))) := by
  obtain ⟨h1, h2, h3⟩ := G.gl h
  obtain ⟨d, v, u, e1, e2, e3, e4⟩ := G.pub.glo k x hk
  refine (pe_glob h1 e2 e3 h2).imp fun σ H Q h => ?_
  obtain ⟨g, τ, S, rl, sl, h⟩ := h
  simp only [ev, e1] at h
  exact h.fin rl (.d (e4 _ _ _))
theorem s_tup {es : Es} {xs : List Expr} {k : Nat} {pos : Pos} (ha : PA X xs (rdA fx W (evs cx es))) : PE X (.Tuple xs k pos) (rd fx W (ev cx (.tup es))) := by
  refine (pe_tup ha).imp fun σ H Q h => ?_
  obtain ⟨g, τ, S, rl, sl, h⟩ := h
  simp only [ev] at h
  refine ⟨g, τ, S, rl, sl, h.bnd.mono fun vs H1 ⟨g1, S1, ts, w, rl1, rp, h1⟩ => ?_⟩
  unfold mkTup at h1
  split at h1
  · rename_i hz
    refine ⟨by rw [rp.length, sizeLine_eq]; omega, fun p hp => ?_⟩
    split at h1
    · exact run_newT h1 rl1 (rp.unDs (by assumption)) p hp
    · have w2 := grow_new (o := .tup vs) rl1 hp
      exact h1 _ _ _ w2 (rl1.newF hp) (.tup (.inl ⟨.inr rfl, .inl upd_same⟩) (rp.grow w2))
  · exact h1.elim
theorem s_lst {md : Bool} {es : Es} {xs : List Expr} {pos : Pos} (ha : PA X xs (rdA fx W (evs cx es))) : PE X (.List xs pos) (rd fx W (ev cx (.lst md es))) := by
  refine (pe_lst ha).imp fun σ H Q h => ?_
  obtain ⟨g, τ, S, rl, sl, h⟩ := h
  simp only [ev] at h
  refine ⟨g, τ, S, rl, sl, h.bnd.mono fun vs H1 ⟨g1, S1, ts, w, rl1, rp, h1⟩ => ?_⟩
  unfold mkLst at h1
  split at h1
  · exact run_mkL h1 rl1 (rp.unDs (by assumption))
  · split at h1
    · exact h1.elim
    · rename_i hz
      simp only [Bool.or_eq_true, Bool.not_eq_true', decide_eq_false_iff_not, not_or, Decidable.not_not] at hz
      refine ⟨by rw [rp.length, sizeLine_eq]; omega, fun p hp => ?_⟩
      have w2 := grow_new (o := .lst vs) rl1 hp
      exact h1 _ _ _ w2 (rl1.newF hp) (.lst (.inl ⟨.inr rfl, .inl upd_same⟩) (rp.grow w2))

/-! ### operators -/
theorem s_bop (G : Good fx cx nm c X W) (md : Bool) (o : BOp) : OpR X (binaryOp o.py) (r2 fx (binS md o)) := by
  cases o with
  | add => exact or_add md G.pub.K
  | sub => exact or_sub
  | mul => exact or_mul md
  | fdiv => exact or_fdiv
  | mod => exact or_mod
  | pow => exact or_pow
theorem s_cop (G : Good fx cx nm c X W) (o : COp) : OpR X (compareOp o.py) (r2 fx (cmpS o)) := by
  have hu := G.pub.un
  cases o with
  | eq => exact or_eq G.pub.K (by omega)
  | ne => exact or_ne G.pub.K (by omega)
  | lt => exact or_ord op_lt
  | le => exact or_ord op_le
  | gt => exact or_ord op_gt
  | ge => exact or_ord op_ge
  | is => exact or_is
  | isnot => exact or_isnot
  | inn => exact or_in G.pub.K hu
  | notin => exact or_notin G.pub.K hu
theorem s_bin (G : Good fx cx nm c X W) {md : Bool} {o : BOp} {a b : E} {x y : Expr} {pos : Pos} (ha : PE X x (rd fx W (ev cx a))) (hb : PE X y (rd fx W (ev cx b))) : PE X (.BinOp x o.py y pos) (rd fx W (ev cx (.bin md o a b))) :=
  (pe_op (s_bop G md o) ha hb).imp fun σ H Q h => by
    simp only [ev] at h
    exact rd_bin h
theorem s_neg {a : E} {x : Expr} {pos : Pos} (ha : PE X x (rd fx W (ev cx a))) : PE X (.UnaryOp .USub x pos) (rd fx W (ev cx (.neg a))) :=
  (pe_un or_neg ha).imp fun σ H Q h => by
    simp only [ev] at h
    exact rd_un h
theorem s_cmp (G : Good fx cx nm c X W) {o : COp} {a b : E} {x y : Expr} {pos : Pos} (ha : PE X x (rd fx W (ev cx a))) (hb : PE X y (rd fx W (ev cx b))) (hy : okX y = true) : PE X (.Compare x [o.py] [y] pos) (rd fx W (ev cx (.cmp o a b))) :=
  (pe_cmpR (s_cop G o) ha hb (ok_behind hy _)).imp fun σ H Q h => by
    simp only [ev] at h
    exact rd_bin h
theorem rd_chn {o o' : COp} {a b d : E} (h : rd fx W (ev cx (.chn o o' a b d)) σ H Q) : tChain (r2 fx (cmpS o)) (r2 fx (cmpS o')) (rd fx W (ev cx a)) (rd fx W (ev cx b)) (rd fx W (ev cx d)) σ H Q := by
  obtain ⟨g, τ, S, rl, sl, h⟩ := h
  simp only [ev] at h
  refine ⟨g, τ, S, rl, sl, h.bnd.mono fun v H1 ⟨g1, S1, t1, w1, rl1, r1, h1⟩ => ?_⟩
  refine ⟨g1, τ, S1, rl1, sl.grow w1, h1.bnd.mono fun u H2 ⟨g2, S2, t2, w2, rl2, r2, h2⟩ => ?_⟩
  refine ⟨g2, S2, t1, t2, _, rl2, r1.grow w2, r2, h2.bnd.mono fun q H3 ⟨g3, S3, t3, w3, rl3, r3, h3⟩ => ?_⟩
  split at h3
  · obtain rfl := rt_bl r3
    refine ⟨true, rfl, ?_⟩
    rw [if_pos rfl]
    exact ⟨g3, τ, S3, rl3, (sl.grow w1).grow w2 |>.grow w3, h3.bnd.mono fun e H4 ⟨g4, S4, t4, w4, rl4, r4, h4⟩ => ⟨g4, S4, t2, t4, _, rl4, (r2.grow w3).grow w4, r4, h4⟩⟩
  · obtain rfl := rt_bl r3
    refine ⟨false, rfl, ?_⟩
    rw [if_neg (by decide)]
    exact h3.fin rl3 (.d (.bl _))
  · exact h3.elim
theorem s_chn (G : Good fx cx nm c X W) {o o' : COp} {a b d : E} {x y z : Expr} {pos : Pos} (ha : PE X x (rd fx W (ev cx a))) (hb : PE X y (rd fx W (ev cx b))) (hd : PE X z (rd fx W (ev cx d))) (hz : okX z = true) : PE X (.Compare x [o.py, o'.py] [y, z] pos) (rd fx W (ev cx (.chn o o' a b d))) :=
  (pe_chain (s_cop G o) (s_cop G o') ha hb hd (show behindInMarks o'.py z = false from ok_behind hz _)).imp fun σ H Q h => rd_chn h
/-! ### truths -/
def toB (x : T) (S : Store) : R Bool := match x with
  | .d (.bl b) => .ok b S
  | _ => .bad
theorem toB_run {g : Gh} {t : T} {S : Store} {P : Bool → Hp → Prop} {W' : XW} {v : V} (h : RunG fx (fun _ _ (b : Bool) (b' : Bool) => b = b') g H (toB t S) P W') (rl : Rel fx g S H) (r : RepT fx g H v t) : ∃ b, v = .bl b ∧ P b H := by
  unfold toB at h
  split at h
  · obtain rfl := rt_bl r
    exact ⟨_, rfl, h.fin rl rfl⟩
  · exact h.elim
theorem rd_tb {m : Sl → Store → R T} {P : Bool → Hp → Prop} (h : rdB fx W (fun τ S => (m τ S).bnd toB) σ H P) : tB (rd fx W m) σ H P := by
  obtain ⟨g, τ, S, rl, sl, h⟩ := h
  exact ⟨g, τ, S, rl, sl, h.bnd.mono fun v H1 ⟨g1, S1, a, w, rl1, rp, h1⟩ => toB_run h1 rl1 rp⟩
theorem t_val {a : E} {x : Expr} (hx : plainT x = true) (ha : PE X x (rd fx W (ev cx a))) : PT X x (rdB fx W fun τ S => (ev cx a τ S).bnd toB) :=
  (pt_val ha (plain_true hx X.env)).imp fun σ H P h => rd_tb h
theorem t_cmp (G : Good fx cx nm c X W) {o : COp} {a b : E} {x y : Expr} {pos : Pos} (ha : PE X x (rd fx W (ev cx a))) (hb : PE X y (rd fx W (ev cx b))) (hy : okX y = true) : PT X (.Compare x [o.py] [y] pos) (rdB fx W fun τ S => (ev cx (.cmp o a b) τ S).bnd toB) :=
  (pt_cmpR (s_cop G o) ha hb (ok_behind hy _)).imp fun σ H P h => by
    have h2 := rd_tb h
    simp only [ev] at h2
    exact rd_bin h2
theorem t_chn (G : Good fx cx nm c X W) {o o' : COp} {a b d : E} {x y z : Expr} {pos : Pos} (ha : PE X x (rd fx W (ev cx a))) (hb : PE X y (rd fx W (ev cx b))) (hd : PE X z (rd fx W (ev cx d))) (hz : okX z = true) : PT X (.Compare x [o.py, o'.py] [y, z] pos) (rdB fx W fun τ S => (ev cx (.chn o o' a b d) τ S).bnd toB) :=
  (pt_chain (s_cop G o) (s_cop G o') ha hb hd (show behindInMarks o'.py z = false from ok_behind hz _)).imp fun σ H P h => rd_chn (rd_tb h)
theorem rd_bB {α : Type} {m : Sl → Store → R T} {k : Bool → Store → R α} {β : Type} {Rep : Gh → Hp → β → α → Prop} {P : β → Hp → Prop} (h : rdG fx Rep W (fun τ S => (m τ S).bnd fun x S1 => (toB x S1).bnd k) σ H P) :
    rdB fx W (fun τ S => (m τ S).bnd toB) σ H fun b H1 => ∃ g1 τ S1, Rel fx g1 S1 H1 ∧ Slots fx g1 H1 τ σ ∧ RunG fx Rep g1 H1 (k b S1) P (fun c d H' => W c d σ H') := by
  obtain ⟨g, τ, S, rl, sl, h⟩ := h
  refine ⟨g, τ, S, rl, sl, ?_⟩
  have e : ((m τ S).bnd fun x S1 => (toB x S1).bnd k) = ((m τ S).bnd toB).bnd k := by
    cases m τ S <;> rfl
  have h : RunG fx Rep g H ((m τ S).bnd fun x S1 => (toB x S1).bnd k) P (fun c d H' => W c d σ H') := h
  rw [e] at h
  exact h.bnd.mono fun b H1 ⟨g1, S1, b', w, rl1, rp, h1⟩ => by
    have rp : b = b' := rp
    subst rp
    exact ⟨g1, τ, S1, rl1, sl.grow w, h1⟩
theorem s_not {a : E} {x : Expr} {pos : Pos} (ha : PT X x (rdB fx W fun τ S => (ev cx a τ S).bnd toB)) (hv : PE X x (rd fx W (ev cx a))) : PE X (.UnaryOp .Not x pos) (rd fx W (ev cx (.not a))) :=
  (pe_not hv).imp fun σ H Q h => by
    simp only [ev] at h
    obtain ⟨g, τ, S, rl, sl, h⟩ := h
    refine ⟨g, τ, S, rl, sl, h.bnd.mono fun v H1 ⟨g1, S1, a, w, rl1, rp, h1⟩ => ?_⟩
    split at h1
    · obtain rfl := rt_bl rp
      exact ⟨_, rfl, h1.fin rl1 (.d (.bl _))⟩
    · exact h1.elim
theorem t_not {a : E} {x : Expr} {pos : Pos} (ha : PT X x (rdB fx W fun τ S => (ev cx a τ S).bnd toB)) : PT X (.UnaryOp .Not x pos) (rdB fx W fun τ S => (ev cx (.not a) τ S).bnd toB) :=
  (pt_not ha).imp fun σ H P h => by
    have e : (fun τ S => (ev cx (.not a) τ S).bnd toB) = fun τ S => (ev cx a τ S).bnd fun x S1 => (toB x S1).bnd fun b S2 => .ok (!b) S2 := by
      funext τ S
      simp only [ev]
      cases ev cx a τ S with
      | ok t S1 =>
        cases t with
        | d d => cases d <;> rfl
        | _ => rfl
      | _ => rfl
    rw [e] at h
    obtain ⟨g, τ, S, rl, sl, h⟩ := rd_bB h
    exact ⟨g, τ, S, rl, sl, h.mono fun b H1 ⟨g1, τ1, S1, rl1, sl1, h1⟩ => h1.fin rl1 rfl⟩
theorem s_ife {t a b : E} {u x y : Expr} {pos : Pos} (ht : PT X u (rdB fx W fun τ S => (ev cx t τ S).bnd toB)) (ha : PE X x (rd fx W (ev cx a))) (hb : PE X y (rd fx W (ev cx b))) : PE X (.IfExp u x y pos) (rd fx W (ev cx (.ife t a b))) :=
  (pe_ifExp ht ha hb).imp fun σ H Q h => by
    obtain ⟨g, τ, S, rl, sl, h⟩ := h
    have e : ev cx (.ife t a b) τ S = (ev cx t τ S).bnd fun x S1 => (toB x S1).bnd fun b' S2 => if b' then ev cx a τ S2 else ev cx b τ S2 := by
      simp only [ev]
      cases ev cx t τ S with
      | ok t S1 =>
        cases t with
        | d d =>
          cases d with
          | bl b => cases b <;> rfl
          | _ => rfl
        | _ => rfl
      | _ => rfl
    rw [e] at h
    have e2 : ((ev cx t τ S).bnd fun x S1 => (toB x S1).bnd fun b' S2 => if b' then ev cx a τ S2 else ev cx b τ S2) = ((ev cx t τ S).bnd toB).bnd fun b' S2 => if b' then ev cx a τ S2 else ev cx b τ S2 := by
      cases ev cx t τ S <;> rfl
    rw [e2] at h
    refine ⟨g, τ, S, rl, sl, h.bnd.mono fun d H1 ⟨g1, S1, d', w, rl1, rp, h1⟩ => ?_⟩
    have rp : d = d' := rp
    subst rp
    cases d with
    | true => exact ⟨g1, τ, S1, rl1, sl.grow w, h1⟩
    | false => exact ⟨g1, τ, S1, rl1, sl.grow w, h1⟩
end
end Mn
set_option Elab.async false
set_option linter.all false
set_option maxRecDepth 100000
set_option maxHeartbeats 4000000
/-! Mn11: items, fields, calls. -/
namespace Mn
open PySem PySem.Spec PyProof.Rows PySem.SeqAt
open L2 hiding ixN atI Takes XE CX takes_of passes_call passAt
open L2N (Takes XE CX takes_of)

section
variable {fx : Fx} {cx : Cxx} {nm : Nm} {c : SC} {X : Cx} {W : WX} {ts : List Nat}
theorem s_ix (G : Good fx cx nm c X W) {a b : E} {x y : Expr} {pos : Pos} (ha : PE X x (rd fx W (ev cx a))) (hb : PE X y (rd fx W (ev cx b))) (hy : okX y = true) : PE X (.Subscript x y pos) (rd fx W (ev cx (.ix a b))) :=
  (pe_ix (or_ix G.pub.K (by have := G.pub.un; omega)) ha hb (ok_ix hy)).imp fun σ H Q h => by
    simp only [ev] at h
    exact rd_bin h
/-! ### slices -/
theorem _root_.L2.PO.imp {X : Cx} {e : Option Expr} {t t' : TO} (h : PO X e t) (i : ∀ σ H Q, t' σ H Q → t σ H Q) : PO X e t' := ⟨fun pins s σ H Q I q => h.run pins s σ H Q I (i σ H Q q)⟩
abbrev rdO (fx : Fx) (W : WX) (m : Sl → Store → R (Option Int)) : TO := rdG fx (fun _ _ (b : Option Int) (b' : Option Int) => b = b') W m
def evO (cx : Cxx) (e : E) : Sl → Store → R (Option Int) := fun τ S => if e.isNon then .ok none S else (ev cx e τ S).bnd ofI
theorem o_none {e : E} (h : e.isNon = true) : PO X none (rdO fx W (evO cx e)) :=
  po_none.imp fun σ H Q q => by
    obtain ⟨g, τ, S, rl, sl, q⟩ := q
    unfold evO at q
    rw [if_pos h] at q
    exact q.fin rl rfl
theorem o_some {e : E} {x : Expr} (h : e.isNon = false) (hx : PE X x (rd fx W (ev cx e))) : PO X (some x) (rdO fx W (evO cx e)) :=
  (po_some hx).imp fun σ H Q q => by
    obtain ⟨g, τ, S, rl, sl, q⟩ := q
    unfold evO at q
    rw [if_neg (by rw [h]; exact Bool.false_ne_true)] at q
    refine ⟨g, τ, S, rl, sl, q.bnd.mono fun v H1 ⟨g1, S1, a, w, rl1, rp, h1⟩ => ?_⟩
    unfold ofI at h1
    split at h1
    · obtain rfl := rt_int rp
      exact ⟨_, rfl, h1.fin rl1 rfl⟩
    · exact h1.elim
theorem s_slc (G : Good fx cx nm c X W) {md : Bool} {a lo hi : E} {x : Expr} {p q : Option Expr} {p2 pos : Pos} (ha : PE X x (rd fx W (ev cx a))) (hl : PO X p (rdO fx W (evO cx lo))) (hh : PO X q (rdO fx W (evO cx hi))) :
    PE X (.Subscript x (.Slice p q none p2) pos) (rd fx W (ev cx (.slc md a lo hi))) :=
  (pe_slice (or_slc md G.pub.K) ha hl hh).imp fun σ H Q h => by
    simp only [ev] at h
    obtain ⟨g, τ, S, rl, sl, h⟩ := h
    refine ⟨g, τ, S, rl, sl, h.bnd.mono fun v H1 ⟨g1, S1, t1, w1, rl1, r1, h1⟩ => ?_⟩
    refine ⟨g1, τ, S1, rl1, sl.grow w1, (show RunG fx (fun _ _ (b : Option Int) (b' : Option Int) => b = b') g1 H1 (evO cx lo τ S1) _ _ from h1.bnd.mono fun l H2 ⟨g2, S2, l', w2, rl2, r2, h2⟩ => ?_)⟩
    have r2 : l = l' := r2
    subst r2
    refine ⟨g2, τ, S2, rl2, (sl.grow w1).grow w2, (show RunG fx (fun _ _ (b : Option Int) (b' : Option Int) => b = b') g2 H2 (evO cx hi τ S2) _ _ from h2.bnd.mono fun u H3 ⟨g3, S3, u', w3, rl3, r3, h3⟩ => ?_)⟩
    have r3 : u = u' := r3
    subst r3
    exact ⟨g3, S3, t1, _, rl3, (r1.grow w2).grow w3, h3⟩
theorem s_rev {md : Bool} {a : E} {x : Expr} {k : Nat} {p1 p2 p3 pos : Pos} (ha : PE X x (rd fx W (ev cx a))) : PE X (.Subscript x (.Slice none none (some (.UnaryOp .USub (.Constant (.int 1) k p1) p2)) p3) pos) (rd fx W (ev cx (.rev md a))) :=
  (pe_revL ha).imp fun σ H Q h => by
    simp only [ev] at h
    obtain ⟨g, τ, S, rl, sl, h⟩ := h
    refine ⟨g, τ, S, rl, sl, h.bnd.mono fun v H1 ⟨g1, S1, t1, w1, rl1, r1, h1⟩ => ?_⟩
    unfold revS at h1
    split at h1
    · obtain ⟨b, vs, rfl, f, q⟩ := rdL_rep rl1 r1 (by assumption)
      exact ⟨b, vs, rfl, SqL.of f, (run_mkL h1 rl1 (RepDs.rev q)).2⟩
    · exact h1.elim
/-! ### builtins -/
theorem callR_bad {v : Value} {f : List T → Store → R T} (hf : ∀ ts S, f ts S = .bad) : CallR X v (rNv fx f) := by
  intro pins s σ H xs us Q I r h
  obtain ⟨g, S, ts, W', rl, hxs, h⟩ := h
  rw [hf] at h
  exact h.elim
theorem Good.bl (G : Good fx cx nm c X W) {x : Str} (h : (bnames.contains x) = true) : X.mg x = none := G.pub.bl x (by simpa using h)
theorem s_bi (G : Good fx cx nm c X W) {md : Bool} {o : Bi} {es : Es} {y : Str} {p pos : Pos} {x : Expr} {xs : List Expr} (hg : c.gl y = true) (hy : y = o.nm) (ha : PA X (x :: xs) (rdA fx W (evs cx es))) (hs : ∀ env, starEach (x :: xs) env = (x :: xs).map fun x => (false, eval x env)) (hs2 : ∀ env, starEach xs env = xs.map fun x => (false, eval x env)) (hq : (c.calm || o.any?) = true) :
    PE X (.Call (.Name y p) (x :: xs) [] pos) (rd fx W (ev cx (.bi md o es))) := by
  obtain ⟨g1, g2, g3⟩ := G.gl hg
  have he : starEach (x :: xs) X.env = (false, eval x X.env) :: starEach xs X.env := by rw [hs, hs2]; rfl
  have hpl : (backTo pos (starEach xs X.env)).any (·.1) = false := back_plain (hs2 _)
  have fin : ∀ {f : List T → Store → R T} {t : TE}, (∀ σ H Q, tCB (rNv fx (biS md o)) (rdA fx W (evs cx es)) σ H Q → t σ H Q) → PE X (.Call (.Name y p) (x :: xs) [] pos) t → PE X (.Call (.Name y p) (x :: xs) [] pos) (rd fx W (ev cx (.bi md o es))) := fun hi h => h.imp fun σ H Q q => hi σ H Q (by
    simp only [ev] at q
    exact rd_cb q)
  have cB : ∀ {id : String}, CallR X (.builtin id) (rNv fx (biS md o)) → bootBuiltins y = some (.builtin id) → X.mg y = none → PE X (.Call (.Name y p) (x :: xs) [] pos) (rd fx W (ev cx (.bi md o es))) := fun hc hv hm => (pe_callB hc g1 hm hv ha g3 g2 he hpl).imp fun σ H Q q => by
    simp only [ev] at q
    exact rd_cb q
  have cT : ∀ {id : String}, CallR X (.type id) (rNv fx (biS md o)) → bootBuiltins y = some (.type id) → X.mg y = none → PE X (.Call (.Name y p) (x :: xs) [] pos) (rd fx W (ev cx (.bi md o es))) := fun hc hv hm => (pe_callTy hc g1 hm hv ha g3 g2 he hpl).imp fun σ H Q q => by
    simp only [ev] at q
    exact rd_cb q
  subst hy
  have K := G.pub.K
  have C0 : o.any? = false → X.calm = true := fun z => by
    rw [z, Bool.or_false] at hq
    exact (G.cm hq).1
  cases o with
  | len => exact cB (or_len K) boot_len (G.bl (by decide))
  | list => exact cT (or_list md K) (by decide +kernel) (G.bl (by decide))
  | tuple => exact cT (or_tuple K) (by decide +kernel) (G.bl (by decide))
  | min => exact cB (or_min (C0 rfl)) boot_min (G.bl (by decide))
  | max => exact cB (or_max (C0 rfl)) boot_max (G.bl (by decide))
  | abs => exact cB or_abs boot_abs (G.bl (by decide))
  | int => exact cT or_int (by decide +kernel) (G.bl (by decide))
  | sum => exact cB (or_sum (C0 rfl)) boot_sum (G.bl (by decide))
  | all => exact cB (or_all (C0 rfl)) boot_all (G.bl (by decide))
  | any => exact cB (or_any (C0 rfl)) boot_any (G.bl (by decide))
  | str => exact cT (id := "str") (callR_bad fun _ _ => rfl) (by decide +kernel) (G.bl (by decide))
  | sorted => exact cB (callR_bad fun _ _ => rfl) boot_sorted (G.bl (by decide))
  | dict => exact cT (id := "dict") (callR_bad fun _ _ => rfl) (by decide +kernel) (G.bl (by decide))
  | repr => exact cB (callR_bad fun _ _ => rfl) boot_repr (G.bl (by decide))
  | lenset => exact cB (callR_bad fun _ _ => rfl) boot_len (G.bl (by decide))
/-! ### methods of builtins -/
theorem ty_lst {g : Gh} {H : Hp} {S : Store} {x : V} {t : T} (rl : Rel fx g S H) (r : RepT fx g H x t) (h : tyS t S = some .lst) : tyV fx.K "list" x H := by
  have z : ∀ {a : Addr} {vs : List V}, SqL fx.K H a vs → tyV fx.K "list" (.ref a) H := fun q => .inl ⟨rfl, _, q⟩
  cases r with
  | d r =>
    cases r with
    | lst h1 h2 q => exact z (SqL.of h2)
    | gref h1 =>
      simp only [tyS] at h
      split at h <;> first | (cases h; done) | skip
      obtain ⟨vs, e, _⟩ := rl.cG _ _ _ h1 (by assumption)
      exact z (SqL.of e)
    | _ => simp [tyS, D.ty] at h
  | cell h1 =>
    simp only [tyS] at h
    split at h <;> first | (cases h; done) | skip
    obtain ⟨vs, e, _⟩ := rl.cL _ _ _ h1 (by assumption)
    exact z (SqL.of e)
  | lst f q => simp [tyS] at h
  | tup f q => simp [tyS] at h
  | exc f q => simp [tyS] at h
theorem ty_str {g : Gh} {H : Hp} {S : Store} {x : V} {t : T} (r : RepT fx g H x t) (h : tyS t S = some .str) : tyV fx.K "str" x H := by
  cases r with
  | d r =>
    cases r with
    | str z => exact (rfl : "str" = "str")
    | gref h1 => simp only [tyS] at h; split at h <;> cases h
    | _ => simp [tyS, D.ty] at h
  | cell h1 => simp only [tyS] at h; split at h <;> cases h
  | lst f q => simp [tyS] at h
  | tup f q => simp [tyS] at h
  | exc f q => simp [tyS] at h
theorem ty_dct {g : Gh} {H : Hp} {S : Store} {x : V} {t : T} (rl : Rel fx g S H) (r : RepT fx g H x t) (h : tyS t S = some .dct) : tyV fx.K "dict" x H := by
  have z : ∀ {a : Addr} {kvs : List (Key × V)}, H a = some (.dK kvs) → tyV fx.K "dict" (.ref a) H := fun q => .inr (.inr (.inl ⟨rfl, .inl ⟨_, q⟩⟩))
  cases r with
  | d r =>
    cases r with
    | dct h1 h2 h3 h4 q => exact z h2
    | gref h1 =>
      simp only [tyS] at h
      split at h <;> first | (cases h; done) | skip
      obtain ⟨vs, e, _⟩ := rl.cG _ _ _ h1 (by assumption)
      exact z e
    | _ => simp [tyS, D.ty] at h
  | cell h1 =>
    simp only [tyS] at h
    split at h <;> first | (cases h; done) | skip
    obtain ⟨vs, e, _⟩ := rl.cL _ _ _ h1 (by assumption)
    exact z e
  | lst f q => simp [tyS] at h
  | tup f q => simp [tyS] at h
  | exc f q => simp [tyS] at h
theorem mtR_bad {id : String} {f : T → List T → Store → R T} (hf : ∀ t ts S, f t ts S = .bad) : MtR X id (rMt fx f) := by
  intro pins s σ H x xs v us Q I rx r h
  obtain ⟨g, S, tx, ts, W', rl, hx, hxs, h⟩ := h
  rw [hf] at h
  exact h.elim
theorem s_mt (G : Good fx cx nm c X W) {md : Bool} {o : Mt} {a : E} {es : Es} {m : Str} {p q : Pos} {l : Expr} {xs : List Expr} (hm : m = o.nm) (hp : (p.endLine == q.line) = true) (hz : xs.length < 20) (hl : okX l = true) (he : PE X l (rd fx W (ev cx a))) (hx : mEs nm ts es c xs = true) (ha : PA X xs (rdA fx W (evs cx es))) :
    PE X (.Call (.Attribute l m p) xs [] q) (rd fx W (ev cx (.mt md o a es))) := by
  have hb : attributeBase l m X.env (eval l X.env) = eval l X.env := ok_attr hl _ _ _
  have hs := mEs_star (env := X.env) es c xs hx
  -- one method
  have one : ∀ {T id : String}, PlainAttrs T → Slot T m id → typeOf (.builtin id) = pure (.type "method_descriptor") → MtR X id (rMt fx (mtS md o)) → (∀ {g : Gh} {H : Hp} {S : Store} {x : V} {t : Mn.T}, Rel fx g S H → RepT fx g H x t → tyS t S = some o.on → tyV fx.K T x H) →
      PE X (.Call (.Attribute l m p) xs [] q) (rd fx W (ev cx (.mt md o a es))) := by
    intro T id pa slot hty hmt hv
    cases xs with
    | nil =>
      refine (pe_bm0 pa slot hty hmt he hb hp).imp fun σ H Q h => ?_
      obtain ⟨g, τ, S, rl, sl, h⟩ := h
      simp only [ev] at h
      refine ⟨g, τ, S, rl, sl, h.bnd.mono fun v H1 ⟨g1, S1, t1, w1, rl1, r1, h1⟩ => ?_⟩
      split at h1
      · rename_i ht
        refine ⟨G.pub.K ▸ hv rl1 r1 ht, ?_⟩
        cases es with
        | cons e es => unfold mEs at hx; cases hx
        | nil =>
          simp only [evs, bnd_ok] at h1
          exact ⟨g1, S1, t1, [], _, rl1, r1, .nil, h1⟩
      · exact h1.elim
    | cons e xs =>
      have hs2 : starEach (e :: xs) X.env = (false, eval e X.env) :: starEach xs X.env := by
        cases es with
        | nil => unfold mEs at hx; cases hx
        | cons e' es' =>
          unfold mEs at hx
          simp only [Bool.and_eq_true] at hx
          exact ok_star (mE_okX e' c e hx.1) _ _
      refine (pe_bm pa slot hty hmt he ha hb ?_ hp hs2 ?_).imp fun σ H Q h => ?_
      · rw [hs]
        have : decide ((e :: xs).length + ([] : List Keyword).length + (if ([] : List Keyword).isEmpty then 0 else 1) < 30) = true := by
          simp only [List.length_nil, List.isEmpty_nil, if_true]
          exact decide_eq_true (by omega)
        rw [this]
        simp [backTo, backToKw, keywordEach]
      · have z : (backTo q (starEach (e :: xs) X.env)).any (·.1) = false := back_plain hs
        rw [hs2] at z
        simpa [backTo] using z
      · obtain ⟨g, τ, S, rl, sl, h⟩ := h
        simp only [ev] at h
        refine ⟨g, τ, S, rl, sl, h.bnd.mono fun v H1 ⟨g1, S1, t1, w1, rl1, r1, h1⟩ => ?_⟩
        split at h1
        · rename_i ht
          refine ⟨G.pub.K ▸ hv rl1 r1 ht, g1, τ, S1, rl1, sl.grow w1, h1.bnd.mono fun vs H2 ⟨g2, S2, t2, w2, rl2, r2, h2⟩ => ?_⟩
          exact ⟨g2, S2, t1, t2, _, rl2, r1.grow w2, r2, h2⟩
        · exact h1.elim
  subst hm
  have tl : o.on = .lst → ∀ {g : Gh} {H : Hp} {S : Store} {x : V} {t : T}, Rel fx g S H → RepT fx g H x t → tyS t S = some o.on → tyV fx.K "list" x H := fun e _ _ _ _ _ rl r h => ty_lst rl r (by rw [h, e])
  have tst : o.on = .str → ∀ {g : Gh} {H : Hp} {S : Store} {x : V} {t : T}, Rel fx g S H → RepT fx g H x t → tyS t S = some o.on → tyV fx.K "str" x H := fun e _ _ _ _ _ rl r h => ty_str r (by rw [h, e])
  have td : o.on = .dct → ∀ {g : Gh} {H : Hp} {S : Store} {x : V} {t : T}, Rel fx g S H → RepT fx g H x t → tyS t S = some o.on → tyV fx.K "dict" x H := fun e _ _ _ _ _ rl r h => ty_dct rl r (by rw [h, e])
  cases o with
  | append => exact one PySem.F.plainAttrs_list PySem.F.slot_list_append PySem.F.type_list_append or_append (tl rfl)
  | extend => exact one PySem.F.plainAttrs_list PySem.F.slot_list_extend PySem.F.type_list_extend or_extend (tl rfl)
  | pop => exact one PySem.F.plainAttrs_list PySem.F.slot_list_pop PySem.F.type_list_pop or_pop (tl rfl)
  | clear => exact one PySem.F.plainAttrs_list PySem.F.slot_list_clear PySem.F.type_list_clear or_clear (tl rfl)
  | reverse => exact one PySem.F.plainAttrs_list PySem.F.slot_list_reverse PySem.F.type_list_reverse or_reverse (tl rfl)
  | insert => exact one PySem.F.plainAttrs_list PySem.F.slot_list_insert PySem.F.type_list_insert or_insert (tl rfl)
  | index => exact one PySem.F.plainAttrs_list PySem.F.slot_list_index PySem.F.type_list_index (or_index G.pub.K G.pub.un) (tl rfl)
  | count => exact one PySem.F.plainAttrs_list PySem.F.slot_list_count PySem.F.type_list_count (mtR_bad fun _ _ _ => rfl) (tl rfl)
  | upper => exact one PySem.F.plainAttrs_str PySem.F.slot_str_upper PySem.F.type_str_upper or_upper (tst rfl)
  | split => exact one PySem.F.plainAttrs_str PySem.F.slot_str_split PySem.F.type_str_split (mtR_bad fun _ _ _ => rfl) (tst rfl)
  | partition => exact one PySem.F.plainAttrs_str PySem.F.slot_str_partition PySem.F.type_str_partition (mtR_bad fun _ _ _ => rfl) (tst rfl)
  | join => exact one PySem.F.plainAttrs_str PySem.F.slot_str_join PySem.F.type_str_join or_join (tst rfl)
  | startswith => exact one PySem.F.plainAttrs_str PySem.F.slot_str_startswith PySem.F.type_str_startswith or_starts (tst rfl)
  | endswith => exact one PySem.F.plainAttrs_str PySem.F.slot_str_endswith PySem.F.type_str_endswith or_ends (tst rfl)
  | replace => exact one PySem.F.plainAttrs_str PySem.F.slot_str_replace PySem.F.type_str_replace (mtR_bad fun _ _ _ => rfl) (tst rfl)
  | isdigit => exact one PySem.F.plainAttrs_str PySem.F.slot_str_isdigit PySem.F.type_str_isdigit or_digit (tst rfl)
  | get => exact one PySem.F.plainAttrs_dict PySem.F.slot_dict_get PySem.F.type_dict_get (mtR_bad fun _ _ _ => rfl) (td rfl)
  | dpop => exact one PySem.F.plainAttrs_dict PySem.F.slot_dict_pop PySem.F.type_dict_pop (mtR_bad fun _ _ _ => rfl) (td rfl)
  | setdefault => exact one PySem.F.plainAttrs_dict PySem.F.slot_dict_setdefault PySem.F.type_dict_setdefault (mtR_bad fun _ _ _ => rfl) (td rfl)
theorem s_attr (G : Good fx cx nm c X W) {o : E} {f : Nat} {x : Expr} {pos : Pos} (hf : f < 28) (hx : okX x = true) (ho : PE X x (rd fx W (ev cx o))) : PE X (.Attribute x (fname f) pos) (rd fx W (ev cx (.attr o f))) :=
  (pe_fld ho (ok_attr hx _ _ _)).imp fun σ H Q h => by
    simp only [ev] at h
    obtain ⟨g, τ, S, rl, sl, h⟩ := h
    exact ⟨g, τ, S, rl, sl, h.bnd.mono fun v H1 ⟨g1, S1, t1, w1, rl1, r1, h1⟩ => by
      rw [G.pub.K]
      exact at_attr hf rl1 r1 h1⟩
end
end Mn
set_option Elab.async false
set_option linter.all false
set_option maxRecDepth 100000
set_option maxHeartbeats 4000000
/-! Mn12: calls of the program's own defs, methods, classes; isinstance; frz. -/
namespace Mn
open PySem PySem.Spec PyProof.Rows PySem.SeqAt
open L2 hiding ixN atI Takes XE CX takes_of passes_call passAt
open L2N (Takes XE CX takes_of)

section
variable {fx : Fx} {g g1 : Gh} {H H1 : Hp} {S : Store} {W : XW} {Q : VK}
theorem Grow.cut {n : Nat} (w : Grow g g1 H H1) (h : g.as.length ≤ n) : Grow g (g1.cutF n) H H1 :=
  ⟨fun a z => .inl (w.F a z), w.keep, w.P, w.kP, fun k a z => by
    have hk := (List.getElem?_eq_some_iff.mp z).1
    show (g1.as.take n)[k]? = some a
    rw [List.getElem?_take_of_lt (by omega)]
    exact w.as k a z, w.bs⟩
theorem RepX.cut {n : Nat} {cls : Value} {d : Option Addr} {c : Nat} {p : List D} (h : RepX fx g H cls d c p) : RepX fx (g.cutF n) H cls d c p := by
  obtain ⟨h1, h2⟩ := h
  refine ⟨h1, ?_⟩
  obtain ⟨x1, x2, h2⟩ := h2
  refine ⟨x1, x2, ?_⟩
  rcases h2 with h2 | ⟨dd, fs, vs, e1, e2, e3, e4, e5⟩
  · exact .inl h2
  · exact .inr ⟨dd, fs, vs, e1, .inl e2, e3, e4, e5.mono (fun _ z => .inl z) (fun _ _ _ z => z) fun _ _ z => z⟩
theorem drop_mem {α : Type} {l : List α} {k : Nat} {a : α} (h : l[k]? = some a) : a ∈ l.drop k := by
  refine List.mem_iff_getElem?.mpr ⟨0, ?_⟩
  rw [List.getElem?_drop]
  exact h
theorem run_frz {n : Nat} {t : T} {x : V} (h : Run fx g H (frzS n t S) Q W) (w : Grow g g1 H H1) (hn : g.as.length ≤ n) (rl : Rel fx g1 S H1) (r : RepT fx g1 H1 x t) : Q x H1 := by
  unfold frzS at h
  split at h
  · rename_i k
    split at h
    · rename_i hk
      cases r with
      | cell ha =>
        rename_i a
        have fa : (g1.cutF k).F a := .inr (drop_mem ha)
        have mo : ∀ {vs : List V} {ds : List D}, RepDs fx g1.F g1.bs H1 vs ds → RepDs fx (g1.cutF k).F (g1.cutF k).bs H1 vs ds := fun q => q.mono (fun _ z => .inl z) (fun _ _ _ z => z) fun _ _ z => z
        split at h
        · rename_i e
          obtain ⟨vs, e1, e2⟩ := rl.cL _ _ _ ha e
          exact h _ _ _ (w.cut (by omega)) (rl.cut k) (.d (.lst fa e1 (mo e2)))
        · rename_i e
          obtain ⟨vs, e1, e2, e3⟩ := rl.cL _ _ _ ha e
          exact h _ _ _ (w.cut (by omega)) (rl.cut k) (.d (.dct fa e1 rfl e2 (mo e3)))
        · rename_i e
          obtain ⟨dx, fvs, vs, e1, e2, e3, e4⟩ := rl.cL _ _ _ ha e
          exact h _ _ _ (w.cut (by omega)) (rl.cut k) (.d (.obj fa e1 e2 e3 (mo e4)))
        · exact h.elim
    · exact h.elim
  · exact h _ _ _ w rl r
  · exact h.elim
end
theorem run_grf {n : Nat} {t : T} {x : V} (h : Run fx g H (grfS n t S) Q W) (w : Grow g g1 H H1) (hn : g.as.length ≤ n) (rl : Rel fx g1 S H1) (r : RepT fx g1 H1 x t) : Q x H1 := by
  unfold grfS at h
  split at h
  · rename_i k
    split at h
    · rename_i hk
      cases r with
      | cell ha =>
        rename_i a
        have fa : (g1.bs ++ [a])[S.glb.length]? = some a := by
          rw [← rl.lG, List.getElem?_append_right (Nat.le_refl _)]
          simp
        split at h
        · rename_i e
          exact h _ _ _ (w.toG (by omega)) (rl.toG ha hk.2 e rfl) (.d (.gref fa))
        · rename_i e
          exact h _ _ _ (w.toG (by omega)) (rl.toG ha hk.2 e rfl) (.d (.gref fa))
        · exact h.elim
    · exact h.elim
  · exact h.elim
section
variable {X : Cx} {W : WX} {pins : List (Addr × Obj)} {σ : L2.St} {H : Hp} {s : Shared} {Q : VK} {k : Nat} {f C : Addr} {fd : FuncData} {ps : List Str} {sp : Sp} {dvs : List V} {ds : List Value} {E : XK} {us : List Value} {vs : List V}
/-- the callee runs; what it lets out is taken -/
theorem fn_runs (F : FnOk X.prog X.w X.K X.mg X.base (CX X.prog X.w) k f fd ps sp) (hr : Room k X.A) (hb : Binds X.K fd ps ds) (hd : Vals dvs ds)
    (tk : Takes X W) (hE : ∀ cls d H', E cls d H' → W cls d σ H') (I : Inv X pins σ H s) (r : Vals vs us) (h : sp (vs ++ dvs) H Q E) : wpAny (model X.prog X.w) X.A (call (.ref f) us) (EP X pins σ Q) X.xe s := by
  have rr := r.append hd
  have hlen : (us ++ ds).length = ps.length := rr.length.symm.trans (F.len _ _ _ _ h)
  have run := F.run X.A X.stack s H ⟨us, []⟩ (us ++ ds) (vs ++ dvs) Q E hr I.env0 (hb s us I.kIn hlen) rr h
  refine wpAny_call (codeAny_mono run fun res s' hq => ?_)
  match res, hq with
  | .error e, hq => exact tk e s' (L2N.XE.of_call I (fun c d H' z => hE c d H' z) hq)
  | .ok (.ret u), hq => exact I.after hq
  | .ok .next, hq => exact False.elim hq
  | .ok .brk, hq => exact False.elim hq
  | .ok .cont, hq => exact False.elim hq
/-- a new instance, its __init__ -/
theorem mk_runs (M : Mk X.K C f) (F : FnOk X.prog X.w X.K X.mg X.base (CX X.prog X.w) k f fd ps sp) (hr : Room (k + 1) X.A) (hb : Binds X.K fd ps ds) (hd : Vals dvs ds)
    (tk : Takes X W) (hE : ∀ cls d H', E cls d H' → W cls d σ H') (I : Inv X pins σ H s) (r : Vals vs us)
    (h : ∀ x dx, H x = none → H dx = none → dx ≠ x → sp (.ref x :: (vs ++ dvs)) (upd (upd H dx (.own x)) x (.ins C dx [])) (fun v H2 => v = .non ∧ Q (.ref x) H2) E) :
    wpAny (model X.prog X.w) X.A (call (.ref C) us) (EP X pins σ Q) X.xe s := by
  obtain ⟨n, hn⟩ : ∃ n, n = s.heap.objs.size := ⟨_, rfl⟩
  have hs := h (s.heap.objs.size + 1) s.heap.objs.size (I.hok.fresh (Nat.le_succ _)) (I.hok.fresh (Nat.le_refl _)) (Nat.ne_of_lt (Nat.lt_succ_self _))
  have J := Inv.made (C := C) I
  have rr : Vals (V.ref (s.heap.objs.size + 1) :: (vs ++ dvs)) (Value.ref (s.heap.objs.size + 1) :: (us ++ ds)) := .cons rfl (r.append hd)
  have hlen : (Value.ref (s.heap.objs.size + 1) :: us ++ ds).length = ps.length := (rr.length.symm.trans (F.len _ _ _ _ hs))
  have run := F.run (X.A.under (.builtin "type.__call__" ⟨.ref C :: us, []⟩)) X.stack _ _ ⟨Value.ref (s.heap.objs.size + 1) :: us, []⟩ (Value.ref (s.heap.objs.size + 1) :: (us ++ ds)) _ _ E (hr.make C us [])
    (J.env0.make C us []) (hb _ (Value.ref (s.heap.objs.size + 1) :: us) J.kIn hlen) rr hs
  refine wpAny_call (make_map (f := f) I.kIn M.makes M.init (beq_iff_eq.mp M.fn) (codeAny_mono run fun res s' hq => ?_))
  match res, hq with
  | .error e, hq => exact tk e s' (L2N.XE.of_call J (fun c d H' z => hE c d H' z) hq)
  | .ok (.ret u), hq =>
    obtain ⟨v, H', I3, rv, ev, q3⟩ := J.after hq
    subst ev
    exact ⟨rv, ⟨V.ref (s.heap.objs.size + 1), H', I3, rfl, q3⟩⟩
  | .ok .next, hq => exact False.elim hq
  | .ok .brk, hq => exact False.elim hq
  | .ok .cont, hq => exact False.elim hq
end
section
variable {fx : Fx} {cx : Cxx} {nm : Nm} {c : SC} {X : Cx} {W : WX} {ts : List Nat}
/-- f(..) with what stands ahead -/
theorem callw {f : Value} {first : List Value} {es : Es} {xs : List Expr} {pos : Pos} {pins : List (Addr × Obj)} {σ : L2.St} {H : Hp} {s : Shared} {Q : VK} {P : List V → Hp → Prop} (hk : PySem.W.keepIn X.K f = true) (hm : mEs nm ts es c xs = true) (ha : PA X xs (rdA fx W (evs cx es)))
    (I : Inv X pins σ H s) (h : rdA fx W (evs cx es) σ H P) (hf : ∀ us vs s1 H1, Inv X pins σ H1 s1 → Vals vs us → P vs H1 → wpAny (model X.prog X.w) X.A (call f (first ++ us)) (EP X pins σ Q) X.xe s1) :
    wpAny (model X.prog X.w) X.A (callWith pos f first (backTo pos (starEach xs X.env)) (backToKw pos (keywordEach [] X.env))) (EP X pins σ Q) X.xe s := by
  have hs := mEs_star (env := X.env) es c xs hm
  cases xs with
  | nil =>
    cases es with
    | cons e es => unfold mEs at hm; cases hm
    | nil =>
      refine PySem.W.callWith_K0 I.kIn hk (hf [] [] s H I .nil ?_)
      simp only [evs] at h
      obtain ⟨g, τ, S, rl, sl, h⟩ := h
      simp only [evs] at h
      exact h.fin rl .nil
  | cons e xs =>
    cases es with
    | nil => unfold mEs at hm; cases hm
    | cons e' es' =>
      unfold mEs at hm
      simp only [Bool.and_eq_true] at hm
      have hs2 := ok_star (mE_okX e' c e hm.1) xs X.env
      have hs3 := mEs_star (env := X.env) es' c xs hm.2
      exact PySem.W.callWith_K (h₀ := X.base) I.ok.mod.kin hk (thn (ha.run pos pins s σ H _ I h) fun us s1 ⟨vs, H1, I1, r, q⟩ => ⟨I1.kIn, hf us vs s1 H1 I1 r q⟩) hs2 (back_plain hs3)
theorem s_call (G : Good fx cx nm c X W) {k : Nat} {es : Es} {y : Str} {p pos : Pos} {xs : List Expr} (hg : c.gl y = true) (hk : nm.cal[k]? = some y) (hc : (c.calm || nm.hot.contains k) = true) (hm : mEs nm ts es c xs = true) (ha : PA X xs (rdA fx W (evs cx es))) :
    PE X (.Call (.Name y p) xs [] pos) (rd fx W (ev cx (.call k es))) := by
  cases hcm : c.calm with
  | false =>
    rw [hcm, Bool.false_or] at hc
    obtain ⟨⟨a, kc, d⟩, ee⟩ := G.hx hcm
    obtain ⟨oe, hp, hz, hv⟩ := G.bear a kc d ee
    obtain ⟨f, e1, kk, fa, fd, ps, ds, dvs, F, hr, hmg, hkp, hb, hd, hfx⟩ := G.pub.hot k (by simpa using hc) y hk
    have F := F (a, kc, d)
    have efx : fx.wx (some (a, kc, d)) = fx := by rw [← ee]; rfl
    rw [efx] at F
    obtain ⟨g1, g2, g3⟩ := G.gl hg
    refine ⟨fun pins s σ H Q I h => ?_⟩
    obtain ⟨g, τ, S, rl, sl, h⟩ := h
    simp only [ev, e1] at h
    refine wpAny_Call_Name_kw (ld_glob I g1 hmg ?_ g2)
    refine callw (nm := nm) (ts := ts) (c := c) hkp hm ha I ⟨g, τ, S, rl, sl, h.bnd⟩ fun us vs s1 H1 I1 r q => ?_
    obtain ⟨g2, S2, t2, w2, rl2, r2, h2⟩ := q
    have hot : L2H.Hot1 X.A (a, oe) := by
      obtain ⟨vs, hv⟩ := hv
      exact ⟨G.hd a kc d ee, vs, hv, hz.2.2 vs hv⟩
    exact fnx_runs (sp := spFn fx f.f) (p := (a, oe)) F hr hot ⟨rfl, hz, hv⟩ hp hb hd G.tk (fun c d H' z => z) I1 r ⟨g2, S2, _, rl2, RepTs.append (RepTs.ofDs (hfx _ _ _)) r2, h2⟩
  | true =>
  have hc := hcm
  obtain ⟨f, e1, kk, fa, fd, ps, ds, dvs, F, hr, hmg, hkp, hb, hd, hfx⟩ := (G.pub.tb (G.cm hc).1).cal k y hk
  obtain ⟨g1, g2, g3⟩ := G.gl hg
  refine ⟨fun pins s σ H Q I h => ?_⟩
  obtain ⟨g, τ, S, rl, sl, h⟩ := h
  simp only [ev, e1] at h
  refine wpAny_Call_Name_kw (ld_glob I g1 hmg ?_ g2)
  refine callw (nm := nm) (ts := ts) (c := c) hkp hm ha I ⟨g, τ, S, rl, sl, h.bnd⟩ fun us vs s1 H1 I1 r q => ?_
  obtain ⟨g2, S2, t2, w2, rl2, r2, h2⟩ := q
  refine fn_runs (sp := spFn fx f.f) F hr hb hd G.tk (fun c d H' z => z) I1 r ⟨g2, S2, _, rl2, RepTs.append (RepTs.ofDs (hfx _ _ _)) r2, h2⟩
theorem cls_at {g : Gh} {H : Hp} {S : Store} {x : V} {t : T} {k : Nat} (rl : Rel fx g S H) (r : RepT fx g H x t) (h : clsOf t S = some k) : ∃ a dx fvs vs, x = .ref a ∧ H a = some (.ins (fx.cA k) dx fvs) ∧ ClsG fx k ∧ FldOk k fvs vs := by
  unfold clsOf at h
  split at h
  · cases h
    cases r with
    | d r =>
      cases r with
      | obj h1 h2 h3 h4 q => exact ⟨_, _, _, _, rfl, h2, h3, h4⟩
  · split at h
    · cases h
      obtain ⟨a, dx, fvs, vs, e1, e2, e3, e4, _⟩ := at_obj rl r (by assumption)
      exact ⟨a, dx, fvs, vs, e1, e2, e3, e4⟩
    · cases h
theorem look_zip_none {α : Type} {m : Str} : ∀ (ks : List Str) (vs : List α), m ∉ ks → (ks.zip vs).lookup m = none
  | [], _, _ => rfl
  | _ :: _, [], _ => rfl
  | k :: ks, v :: vs, h => by
    simp only [List.mem_cons, not_or] at h
    have b : (m == k) = false := beq_eq_false_iff_ne.mpr h.1
    show List.lookup m ((k, v) :: ks.zip vs) = none
    simp only [List.lookup_cons, b]
    exact look_zip_none ks vs h.2
theorem meth_ht {o : Expr} {m : Str} {p q : Pos} {xs : List Expr} {env : Env} (ho : okX o = true) (hp : (p.endLine == q.line) = true) (hz : xs.length < 20) (hs : starEach xs env = xs.map fun x => (false, eval x env)) :
    eval (.Call (.Attribute o m p) xs [] q) env = (do
      let ov ← eval o env
      standAt p.atName
      let (f, first) ← holding [ov] (getMethod ov m (do return (← importBound o env).getD true))
      callWith q f first (backTo q (starEach xs env)) (backToKw q (keywordEach [] env))) := by
  rw [arm_eval_Call, ok_attr ho]
  have few : methodCallForm (xs.length + ([] : List Keyword).length) (backTo q (starEach xs env)) (backToKw q (keywordEach [] env)) = true := by
    unfold methodCallForm
    rw [hs]
    have : decide (xs.length + ([] : List Keyword).length + (if (backToKw q (keywordEach [] env)).isEmpty then 0 else 1) < 30) = true := by
      have e : backToKw q (keywordEach [] env) = [] := rfl
      rw [e]
      simp only [List.length_nil, List.isEmpty_nil, if_true]
      exact decide_eq_true (by omega)
    rw [this]
    simp [backTo, backToKw, keywordEach]
  unfold methodCall calleeOf methodCallPos
  simp only [few, hp, Bool.not_true, Bool.false_or, if_true]
  rfl
theorem s_meth (G : Good fx cx nm c X W) {k : Nat} {o : E} {es : Es} {m : Str} {p q : Pos} {l : Expr} {xs : List Expr} (hc : c.calm = true) (hk : nm.dis[k]? = some m) (hp : (p.endLine == q.line) = true) (hz : xs.length < 20) (hl : okX l = true) (he : PE X l (rd fx W (ev cx o))) (hm : mEs nm ts es c xs = true) (ha : PA X xs (rdA fx W (evs cx es))) :
    PE X (.Call (.Attribute l m p) xs [] q) (rd fx W (ev cx (.meth k o es))) := by
  have hs := mEs_star (env := X.env) es c xs hm
  refine ⟨fun pins s σ H Q I h => ?_⟩
  refine methcall_of he I ?_ (meth_ht hl hp hz hs)
  obtain ⟨g, τ, S, rl, sl, h⟩ := h
  simp only [ev] at h
  refine ⟨g, τ, S, rl, sl, h.bnd.mono fun v H1 ⟨g1, S1, t1, w1, rl1, r1, h1⟩ => ?_⟩
  split at h1
  · rename_i cc ec
    split at h1
    · rename_i d ed
      obtain ⟨a, dx, fvs, vs0, rfl, ea, kc, fo⟩ := cls_at rl1 r1 ec
      obtain ⟨kk, fa, fd, ps, ds, dvs, F, hr, hM, hb, hd, hfx, hn⟩ := (G.pub.tb (G.cm hc).1).dis k m cc d hk ed
      refine ⟨a, _, dx, fvs, fa, rfl, ea, G.pub.K ▸ kc.cl, hM, by rw [fo.at_]; exact look_zip_none _ _ hn, fun s1 I1 => ?_⟩
      refine callw (nm := nm) (ts := ts) (c := c) (first := [.ref a]) hM.kp hm ha I1 ⟨g1, τ, S1, rl1, sl.grow w1, h1.bnd⟩ fun us vs s2 H2 I2 r q => ?_
      obtain ⟨g2, S2, t2, w2, rl2, r2, h2⟩ := q
      refine fn_runs (us := .ref a :: us) (vs := .ref a :: vs) (sp := spFn fx d.f) F hr hb hd G.tk (fun c d H' z => z) I2 (.cons rfl r) ⟨g2, S2, t1 :: (t2 ++ d.dv.map .d), rl2, .cons (r1.grow w2) (RepTs.append (RepTs.ofDs (hfx _ _ _)) r2), h2⟩
    · exact h1.elim
  · exact h1.elim
/-! ### a new object -/
theorem fld_nil (k : Nat) : FldOk k [] [] := ⟨rfl, Nat.zero_le _, fun x => by simp⟩
theorem own_ne {H : Hp} {x dx : Addr} {o : HO} (hx : H x = none) (hne : dx ≠ x) : upd H dx o x = none := by rw [upd_ne (Ne.symm hne)]; exact hx
theorem new_runs {g : Gh} {H : Hp} {S : Store} {md k : Nat} {ini : Cal} {tl : List T} {vs dvs : List V} {Q : VK} {V' : XW} (h : Run fx g H (newS md k ini tl S) Q V') (rl : Rel fx g S H) (rs : RepTs fx g H vs tl) (kc : ClsG fx k) (hfx : Fix fx dvs ini.dv)
    (x dx : Addr) (hx : H x = none) (hdx : H dx = none) (hne : dx ≠ x) : spFn fx ini.f (.ref x :: (vs ++ dvs)) (upd (upd H dx (.own x)) x (.ins (fx.cA k) dx [])) (fun v H2 => v = .non ∧ Q (.ref x) H2) V' := by
  have w1 := grow_new (o := .own x) rl hdx
  have rl1 := rl.newF (o := .own x) hdx
  have hx1 : upd H dx (.own x) x = none := own_ne hx hne
  have hc : ∀ {g' : Gh}, CellAt fx g' (upd (upd H dx (.own x)) x (.ins (fx.cA k) dx [])) x (.obj k []) := fun {g'} => ⟨dx, [], [], upd_same, kc, fld_nil k, .nil⟩
  unfold newS at h
  split at h
  · -- for all
    have w2 := grow_glb (o := .ins (fx.cA k) dx []) rl1 hx1
    have rl2 := rl1.newG (c := .obj k []) hx1 hc
    have hb : ((g.addF dx).addG x).bs[S.glb.length]? = some x := by
      show (g.bs ++ [x])[S.glb.length]? = some x
      rw [← rl.lG]; simp
    refine ⟨_, _, _, rl2, .cons (.d (.gref hb)) (RepTs.append (RepTs.ofDs (hfx _ _ _)) (rs.grow (w1.trans w2))), ?_⟩
    split at h
    · rename_i S2 e
      rw [e]
      exact fun g' v H' w rl' r' => ⟨rt_non r', h _ _ _ ((w1.trans w2).trans w) rl' (.d (.gref (w.bs _ _ hb)))⟩
    · exact h.elim
    · rename_i cc p S2 e
      rw [e]
      exact fun g' cls d H' w rl' r' => h _ _ _ _ (((w1.trans w2).trans w).cut (Nat.le_of_eq rl.lL)) (rl'.cut _) r'.cut
    · exact h.elim
  · have w2 := grow_cell (o := .ins (fx.cA k) dx []) rl1 hx1
    have rl2 := rl1.newL (c := .obj k []) hx1 hc
    have hb : ((g.addF dx).addL x).as[S.loc.length]? = some x := by
      show (g.as ++ [x])[S.loc.length]? = some x
      rw [← rl.lL]; simp
    refine ⟨_, _, _, rl2, .cons (.cell hb) (RepTs.append (RepTs.ofDs (hfx _ _ _)) (rs.grow (w1.trans w2))), ?_⟩
    split at h
    · rename_i S2 e
      rw [e]
      refine fun g' v H' w rl' r' => ⟨rt_non r', ?_⟩
      split at h
      · exact h _ _ _ ((w1.trans w2).trans w) rl' (.cell (w.as _ _ hb))
      · exact run_frz h ((w1.trans w2).trans w) (Nat.le_of_eq rl.lL) rl' (.cell (w.as _ _ hb))
    · exact h.elim
    · rename_i cc p S2 e
      rw [e]
      exact fun g' cls d H' w rl' r' => h _ _ _ _ (((w1.trans w2).trans w).cut (Nat.le_of_eq rl.lL)) (rl'.cut _) r'.cut
    · exact h.elim
theorem s_new (G : Good fx cx nm c X W) {md k : Nat} {es : Es} {y : Str} {p pos : Pos} {xs : List Expr} (hg : c.gl y = true) (hk : nm.new[k]? = some y) (hc : c.calm = true) (hm : mEs nm ts es c xs = true) (ha : PA X xs (rdA fx W (evs cx es))) :
    PE X (.Call (.Name y p) xs [] pos) (rd fx W (ev cx (.new md k es))) := by
  obtain ⟨cc, f, e1, kk, fa, fd, ps, ds, dvs, F, hr, hmg, M, hb, hd, hfx, kc⟩ := (G.pub.tb (G.cm hc).1).new k y hk
  obtain ⟨g1, g2, g3⟩ := G.gl hg
  refine ⟨fun pins s σ H Q I h => ?_⟩
  obtain ⟨g, τ, S, rl, sl, h⟩ := h
  simp only [ev, e1] at h
  refine wpAny_Call_Name_kw (ld_glob I g1 hmg ?_ g2)
  refine callw (nm := nm) (ts := ts) (c := c) M.kp hm ha I ⟨g, τ, S, rl, sl, h.bnd⟩ fun us vs s1 H1 I1 r q => ?_
  obtain ⟨g2, S2, t2, w2, rl2, r2, h2⟩ := q
  exact mk_runs (sp := spFn fx f.f) M F hr hb hd G.tk (fun c d H' z => z) I1 r fun x dx hx hdx hne => new_runs h2 rl2 r2 kc hfx x dx hx hdx hne
/-- a new instance by a call with a keyword -/
theorem mkk_runs {n : Nat} {a : Str} {pins : List (Addr × Obj)} {σ : L2.St} {H : Hp} {s : Shared} {Q : VK} {k : Nat} {f C : Addr} {fd : FuncData} {ps : List Str} {sp : Sp} {E : XK} {us : List Value} {vs : List V} {u : Value} {v : V} (M : Mk X.K C f) (F : FnOk X.prog X.w X.K X.mg X.base (CX X.prog X.w) k f fd ps sp) (hr : Room (k + 1) X.A)
    (hb : KBn X.K fd ps (n + 1) [a] (fun us ws => us ++ ws) (fun vs zs => vs ++ zs)) (hn : ps.length = n + 2) (tk : Takes X W) (hE : ∀ cls d H', E cls d H' → W cls d σ H') (I : Inv X pins σ H s) (r : Vals vs us) (rv : RelV v u)
    (h : ∀ x dx, H x = none → H dx = none → dx ≠ x → sp (.ref x :: (vs ++ [v])) (upd (upd H dx (.own x)) x (.ins C dx [])) (fun v H2 => v = .non ∧ Q (.ref x) H2) E) :
    wpAny (model X.prog X.w) X.A (call (.ref C) us [(a, u)]) (EP X pins σ Q) X.xe s := by
  have hs := h (s.heap.objs.size + 1) s.heap.objs.size (I.hok.fresh (Nat.le_succ _)) (I.hok.fresh (Nat.le_refl _)) (Nat.ne_of_lt (Nat.lt_succ_self _))
  have J := Inv.made (C := C) I
  have rr : Vals (V.ref (s.heap.objs.size + 1) :: (vs ++ [v])) (Value.ref (s.heap.objs.size + 1) :: (us ++ [u])) := .cons rfl (r.append (.cons rv .nil))
  have hl : (us ++ [u]).length + 1 = ps.length := rr.length.symm.trans (F.len _ _ _ _ hs)
  rw [List.length_append, hn] at hl
  have hu : us.length = n := by
    simp at hl
    omega
  have run := F.run (X.A.under (.builtin "type.__call__" ⟨.ref C :: us, [(a, u)]⟩)) X.stack _ _ ⟨Value.ref (s.heap.objs.size + 1) :: us, [(a, u)]⟩ (Value.ref (s.heap.objs.size + 1) :: (us ++ [u])) _ _ E (hr.make C us [(a, u)])
    (J.env0.make C us [(a, u)]) (hb.to _ (Value.ref (s.heap.objs.size + 1) :: us) [u] J.kIn (by simp [hu]) rfl) rr hs
  refine wpAny_call (make_map (f := f) I.kIn M.makes M.init (beq_iff_eq.mp M.fn) (codeAny_mono run fun res s' hq => ?_))
  match res, hq with
  | .error e, hq => exact tk e s' (L2N.XE.of_call J (fun c d H' z => hE c d H' z) hq)
  | .ok (.ret u), hq =>
    obtain ⟨v, H', I3, rv, ev, q3⟩ := J.after hq
    subst ev
    exact ⟨rv, ⟨V.ref (s.heap.objs.size + 1), H', I3, rfl, q3⟩⟩
  | .ok .next, hq => exact False.elim hq
  | .ok .brk, hq => exact False.elim hq
  | .ok .cont, hq => exact False.elim hq
theorem s_newK (G : Good fx cx nm c X W) {md k : Nat} {es : Es} {e : E} {y a : Str} {p pos kpos : Pos} {xs : List Expr} {v : Expr} (hg : c.gl y = true) (hk : nm.newk[k]? = some (y, a)) (hc : c.calm = true) (hm : mEs nm ts es c xs = true) (ha : PA X xs (rdA fx W (evs cx es))) (hv : PE X v (rd fx W (ev cx e))) :
    PE X (.Call (.Name y p) xs [⟨some a, v, kpos⟩] pos) (rd fx W (ev cx (.newK md k es e))) := by
  obtain ⟨cc, f, e1, kk, fa, fd, ps, n, F, hr, hmg, M, hb, hn, hdv, kc⟩ := (G.pub.tb (G.cm hc).1).newk k (y, a) hk
  obtain ⟨g1, g2, g3⟩ := G.gl hg
  have hs := mEs_star (env := X.env) es c xs hm
  refine ⟨fun pins s σ H Q I h => ?_⟩
  obtain ⟨g, τ, S, rl, sl, h⟩ := h
  simp only [ev, e1] at h
  refine wpAny_Call_Name_kw (ld_glob I g1 hmg ?_ g2)
  -- behind the written values
  have fin : ∀ us vs s1 H1, Inv X pins σ H1 s1 → Vals vs us → (∃ g1 S1 tl, Grow g g1 H H1 ∧ Rel fx g1 S1 H1 ∧ RepTs fx g1 H1 vs tl ∧ Run fx g1 H1 ((ev cx e τ S1).bnd fun t S2 => newS md cc f (tl ++ [t]) S2) Q (fun c d H' => W c d σ H')) →
      wpAny (model X.prog X.w) X.A (evalAll ((backToKw pos (keywordEach [⟨some a, v, kpos⟩] X.env)).map (·.2))) (fun ws s2 => X.K.In s2.heap ∧ wpAny (model X.prog X.w) X.A (call (.ref (fx.cA cc)) us ([a].zip ws)) (EP X pins σ Q) X.xe s2) X.xe s1 := fun us vs s1 H1 I1 r q => by
    obtain ⟨g1, S1, tl, w1, rl1, r1, h1⟩ := q
    have pk : PK X [⟨some a, v, kpos⟩] (tCons (rd fx W (ev cx e)) tNil) := pk_cons hv pk_nil
    have z : tCons (rd fx W (ev cx e)) tNil σ H1 (fun zs H2 => ∃ z, zs = [z] ∧ ∃ g2 S2 t, Grow g1 g2 H1 H2 ∧ Rel fx g2 S2 H2 ∧ RepT fx g2 H2 z t ∧ Run fx g2 H2 (newS md cc f (tl ++ [t]) S2) Q (fun c d H' => W c d σ H')) :=
      ⟨g1, τ, S1, rl1, sl.grow w1, h1.bnd.mono fun z H2 ⟨g2, S2, t, w2, rl2, r2, h2⟩ => ⟨z, rfl, g2, S2, t, w2, rl2, r2, h2⟩⟩
    refine thn (pk.run pos pins s1 σ H1 _ I1 z) fun ws s2 ⟨zs, H2, I2, rz, z0, ez, g2, S2, t, w2, rl2, r2, h2⟩ => ⟨I2.kIn, ?_⟩
    subst ez
    cases rz with
    | cons rz rn =>
      cases rn
      have rs : RepTs fx g2 H2 (vs ++ [z0]) (tl ++ [t]) := RepTs.append (.cons r2 .nil) (r1.grow w2)
      refine mkk_runs (sp := spFn fx f.f) M F hr hb hn G.tk (fun c d H' z => z) I2 r rz fun x dx hx hdx hne => ?_
      have q := new_runs (dvs := []) h2 rl2 rs kc (by rw [hdv]; exact fun _ _ _ => .nil) x dx hx hdx hne
      rw [List.append_nil] at q
      exact q
  cases xs with
  | nil =>
    cases es with
    | cons e es => unfold mEs at hm; cases hm
    | nil =>
      refine PySem.W.callWith_KW0 (h₀ := X.base) I.ok.mod.kin M.kp rfl (thn (fin [] [] s H I .nil ⟨g, S, [], Grow.refl _ _, rl, .nil, by simpa only [evs, bnd_ok] using h⟩) fun ws s2 q => q)
  | cons e0 xs =>
    cases es with
    | nil => unfold mEs at hm; cases hm
    | cons e' es' =>
      unfold mEs at hm
      simp only [Bool.and_eq_true] at hm
      have hs2 := ok_star (mE_okX e' c e0 hm.1) xs X.env
      have hs3 := back_plain (pos := pos) hs
      refine PySem.W.callWith_KW (h₀ := X.base) I.ok.mod.kin M.kp rfl (thn (ha.run pos pins s σ H _ I ⟨g, τ, S, rl, sl, h.bnd⟩) fun us s1 ⟨vs, H1, I1, r, q⟩ => ?_) (by rw [hs3]; rfl) hs2
      exact thn (fin us vs s1 H1 I1 r q) fun ws s2 q => q
/-- a class without __init__ -/
theorem s_new0 (G : Good fx cx nm c X W) {k : Nat} {y : Str} {p pos : Pos} (hg : c.gl y = true) (hk : nm.new0[k]? = some y) (hc : c.calm = true) : PE X (.Call (.Name y p) [] [] pos) (rd fx W (ev cx (.new0 k))) := by
  obtain ⟨cc, e1, hmg, h1, h2, h3, kc⟩ := (G.pub.tb (G.cm hc).1).new0 k y hk
  obtain ⟨g1, g2, g3⟩ := G.gl hg
  refine ⟨fun pins s σ H Q I h => ?_⟩
  obtain ⟨g, τ, S, rl, sl, h⟩ := h
  simp only [ev, e1] at h
  refine wpAny_Call_Name_kw (ld_glob I g1 hmg ?_ g2)
  refine PySem.W.callWith_K0 I.kIn h3 (mk0_runs h1 h2 I fun x dx hx hdx hne => ?_)
  have hx1 : upd H dx (.own x) x = none := own_ne hx hne
  have w1 := grow_new (o := .own x) rl hdx
  have rl1 := rl.newF (o := .own x) hdx
  have w2 := grow_new (o := .ins (fx.cA cc) dx []) rl1 hx1
  exact h _ _ _ (w1.trans w2) (rl1.newF hx1) (.d (.obj (.inr rfl) upd_same kc (fld_nil cc) .nil))
/-- Base.m(self, ..) -/
theorem s_up (G : Good fx cx nm c X W) {k : Nat} {es : Es} {y m : Str} {p1 p q : Pos} {xs : List Expr} (hg : c.gl y = true) (hk : nm.up[k]? = some (y, m)) (hc : c.calm = true) (hp : (p.endLine == q.line) = true) (hz : xs.length < 20) (hm : mEs nm ts es c xs = true) (ha : PA X xs (rdA fx W (evs cx es))) :
    PE X (.Call (.Attribute (.Name y p1) m p) xs [] q) (rd fx W (ev cx (.up k es))) := by
  obtain ⟨f, e1, kk, C, fa, fd, ps, ds, dvs, F, hr, hmg, U, hb, hd, hfx⟩ := (G.pub.tb (G.cm hc).1).up k (y, m) hk
  obtain ⟨g1, g2, g3⟩ := G.gl hg
  have hs := mEs_star (env := X.env) es c xs hm
  refine ⟨fun pins s σ H Q I h => ?_⟩
  obtain ⟨g, τ, S, rl, sl, h⟩ := h
  simp only [ev, e1] at h
  refine PySem.W.methodCall_KW (ld_glob I g1 hmg ?_ g2) (meth_ht rfl hp hz hs)
  refine up_get I U fun s1 I1 => ?_
  refine callw (nm := nm) (ts := ts) (c := c) (first := []) U.kp hm ha I1 ⟨g, τ, S, rl, sl, h.bnd⟩ fun us vs s2 H2 I2 r q => ?_
  obtain ⟨g2, S2, t2, w2, rl2, r2, h2⟩ := q
  exact fn_runs (sp := spFn fx f.f) F hr hb hd G.tk (fun c d H' z => z) I2 r ⟨g2, S2, _, rl2, RepTs.append (RepTs.ofDs (hfx _ _ _)) r2, h2⟩
/-! ### isinstance -/
theorem p_ty1 (G : Good fx cx nm c X W) {ok : Ty → Bool} {y : Ty} {x : Expr} (hok : ok .non = false ∧ ∀ k, ok (.cls k) = true → k ∈ fx.ts) (h : mTy1 c ok y x = true) : PE X x (tC (tyVV fx y)) ∧ okX x = true ∧ ok y = true := by
  unfold mTy1 at h
  split at h
  · simp only [Bool.and_eq_true, decide_eq_true_eq] at h
    obtain ⟨⟨h1, h2⟩, h3⟩ := h
    obtain ⟨g1, g2, g3⟩ := G.gl h1
    refine ⟨?_, rfl, h3⟩
    subst h2
    have bt : ∀ {n : String} {q : Pos}, bootBuiltins y.nm = some (.type n) → X.mg y.nm = none → PE X (.Name y.nm q) (tC (.ty n)) := fun e1 e2 => pe_bltn g1 e2 e1 rfl g3 g2
    cases y with
    | non => rw [hok.1] at h3; cases h3
    | ve => exact bt (by decide +kernel) (G.bl (by decide))
    | bool => exact bt (by decide +kernel) (G.bl (by decide))
    | int => exact bt (by decide +kernel) (G.bl (by decide))
    | str => exact bt (by decide +kernel) (G.bl (by decide))
    | lst => exact bt (by decide +kernel) (G.bl (by decide))
    | tup => exact bt (by decide +kernel) (G.bl (by decide))
    | dct => exact bt (by decide +kernel) (G.bl (by decide))
    | cls k =>
      have hk : k ∈ fx.ts := hok.2 k h3
      exact pe_glob g1 (G.pub.cls k hk) rfl g2
  · cases h
def tTys (fx : Fx) : List Ty → TA
  | [] => tNil
  | y :: ys => tCons (tC (tyVV fx y)) (tTys fx ys)
theorem tTys_run (fx : Fx) (σ : L2.St) (H : Hp) (P : List V → Hp → Prop) : ∀ (ys : List Ty), P (ys.map (tyVV fx)) H → tTys fx ys σ H P := by
  intro ys
  induction ys generalizing P with
  | nil => exact fun h => h
  | cons y ys ih => exact fun h => ih (fun vs H => P (tyVV fx y :: vs) H) h
theorem p_tys (G : Good fx cx nm c X W) {ok : Ty → Bool} (hok : ok .non = false ∧ ∀ k, ok (.cls k) = true → k ∈ fx.ts) : ∀ {ys : List Ty} {xs : List Expr}, mTys c ok ys xs = true → PA X xs (tTys fx ys) ∧ (ys.all fun y => ok y) = true ∧ xs.length = ys.length
  | [], [], _ => ⟨pa_nil, rfl, rfl⟩
  | [], _ :: _, h => by cases h
  | _ :: _, [], h => by cases h
  | y :: ys, x :: xs, h => by
    unfold mTys at h
    simp only [Bool.and_eq_true] at h
    obtain ⟨h1, h2⟩ := h
    obtain ⟨p1, p2, p3⟩ := p_ty1 G hok h1
    obtain ⟨q1, q2, q3⟩ := p_tys G hok h2
    refine ⟨pa_cons p1 q1 (ok_star p2 _ _), ?_, by simp [q3]⟩
    simp only [List.all_cons, Bool.and_eq_true]
    exact ⟨p3, q2⟩
theorem ok_ok (ts : List Nat) : Ty.ok ts .non = false ∧ ∀ k, Ty.ok ts (.cls k) = true → k ∈ ts := ⟨rfl, fun k h => by simpa [Ty.ok] using h⟩
theorem okx_ok (ts : List Nat) : Ty.okx ts .non = false ∧ ∀ k, Ty.okx ts (.cls k) = true → k ∈ ts := ⟨rfl, fun k h => by
  simp only [Ty.okx, Bool.and_eq_true] at h
  simpa using h.2⟩
theorem pair_ty (fx : Fx) : ∀ ys : List Ty, Paired ClsV (ys.map (tyVV fx)) (ys.map (tyVal fx))
  | [] => .nil
  | y :: ys => .cons (tyV_cls fx y) (pair_ty fx ys)
theorem s_isi (G : Good fx cx nm c X W) {a : E} {ys : List Ty} {y : Str} {l t : Expr} {p pos : Pos} (hg : c.gl y = true) (hy : y = ("isinstance" : Str)) (hl : okX l = true) (he : PE X l (rd fx W (ev cx a))) (ht : mTy c (Ty.ok fx.ts) ys t = true) :
    PE X (.Call (.Name y p) [l, t] [] pos) (rd fx W (ev cx (.isi a ys))) := by
  obtain ⟨g1, g2, g3⟩ := G.gl hg
  subst hy
  have K := G.pub.K
  have hm : X.mg ("isinstance" : Str) = none := G.bl (by decide)
  have one : ∀ {y : Ty}, ys = [y] → mTy1 c (Ty.ok fx.ts) y t = true → PE X (.Call (.Name "isinstance" p) [l, t] [] pos) (rd fx W (ev cx (.isi a ys))) := fun {y} e h1 => by
    subst e
    obtain ⟨p1, p2, p3⟩ := p_ty1 G (ok_ok _) h1
    have hpa : PA X [l, t] (tCons (rd fx W (ev cx a)) (tCons (tC (tyVV fx y)) tNil)) := pa_cons he (pa_cons p1 pa_nil (ok_star p2 _ _)) (ok_star hl _ _)
    refine (pe_callB call_isi g1 hm boot_isinstance hpa g3 g2 (ok_star hl _ _) ?_).imp fun σ H Q h => ?_
    · rw [ok_star p2]; rfl
    · obtain ⟨g, τ, S, rl, sl, h⟩ := h
      simp only [ev] at h
      refine ⟨g, τ, S, rl, sl, h.bnd.mono fun v H1 ⟨g1, S1, t1, w1, rl1, r1, h1⟩ => ?_⟩
      obtain ⟨b, e1, q⟩ := run_ofB h1 rl1
      obtain ⟨z, e2, e3⟩ := isTy_some e1
      obtain ⟨k1, k2⟩ := ty_x rl1 r1 e2
      refine ⟨v, tyVV fx y, tyVal fx z, tyVal fx y, b, rfl, tyV_cls fx y, K ▸ k1, ?_, q⟩
      rw [K, kit_is G.pub.kit k2 p3, e3]
      simp
  unfold mTy at ht
  split at ht
  · rename_i xs t1 t2
    simp only [Bool.and_eq_true, decide_eq_true_eq] at ht
    obtain ⟨q1, q2, q3⟩ := p_tys G (ok_ok _) ht.1
    have hpa : PA X [l, .Tuple xs t1 t2] (tCons (rd fx W (ev cx a)) (tCons (tTup (tTys fx ys)) tNil)) := pa_cons he (pa_cons (pe_tup q1) pa_nil rfl) (ok_star hl _ _)
    refine (pe_callB call_isiT g1 hm boot_isinstance hpa g3 g2 (ok_star hl _ _) rfl).imp fun σ H Q h => ?_
    obtain ⟨g, τ, S, rl, sl, h⟩ := h
    simp only [ev] at h
    refine ⟨g, τ, S, rl, sl, h.bnd.mono fun v H1 ⟨g1, S1, t1, w1, rl1, r1, h1⟩ => ?_⟩
    refine tTys_run fx σ H1 _ ys ⟨by rw [List.length_map, sizeLine_eq]; omega, fun p hp => ?_⟩
    have w2 := grow_new (o := .tup (ys.map (tyVV fx))) rl1 hp
    have rl2 := rl1.newF (o := .tup (ys.map (tyVV fx))) hp
    obtain ⟨b, e1, q⟩ := run_ofB (RunG.grow w2 h1) rl2
    obtain ⟨z, e2, e3⟩ := isTy_some e1
    obtain ⟨k1, k2⟩ := ty_x rl2 (r1.grow w2) e2
    refine ⟨v, p, _, tyVal fx z, _, b, rfl, upd_same, pair_ty fx ys, K ▸ k1, ?_, q⟩
    rw [K, kit_any G.pub.kit k2 ys q2, e3]
  · split at ht
    · exact one rfl ht
    · cases ht
theorem kx_is {c0 : Nat} (E : ExG fx) (hc : c0 ∈ fx.ts) (h40 : 40 ≤ c0) {z : Ty} (hz : z.okx fx.ts = true) : PySem.W.kitOne fx.K (.ref (fx.cA c0)) (tyVal fx z) = some (Ty.is (.cls c0) z) := by
  cases z with
  | ve =>
    have e : Ty.is (.cls c0) .ve = true := decide_eq_true h40
    rw [e]
    exact E.iv c0 hc h40
  | cls k =>
    simp only [Ty.okx, Bool.and_eq_true, decide_eq_true_eq] at hz
    exact E.is c0 hc h40 k (by simpa using hz.2) hz.1
  | _ => cases hz
theorem kx_any {c0 : Nat} (E : ExG fx) (hc : c0 ∈ fx.ts) (h40 : 40 ≤ c0) : ∀ (zs : List Ty), (zs.all fun z => z.okx fx.ts) = true → PySem.W.kitAny fx.K (.ref (fx.cA c0)) (zs.map (tyVal fx)) = some (zs.any fun z => Ty.is (.cls c0) z)
  | [], _ => rfl
  | z :: zs, h => by
    simp only [List.all_cons, Bool.and_eq_true] at h
    refine kitAny_cons (kx_is E hc h40 h.1) (fun e => ?_) fun e => ?_
    · rw [kx_any E hc h40 zs h.2]; simp [e]
    · simp [e]
theorem xrep_d {g : Gh} {H : Hp} {d : Option Addr} {c0 : Nat} {q : List D} (r : XRep fx g H d c0 q) : ∀ dd, d = some dd → ∃ fs, H dd = some (.xd fs) := fun dd e => by
  obtain ⟨_, _, h | ⟨d2, fs, vs, e1, e2, e3, _⟩⟩ := r
  · rw [h.2] at e; cases e
  · rw [e1] at e; cases e; exact ⟨fs, e3⟩
/-- isinstance of the exception in hand -/
theorem s_isx (G : Good fx cx nm c X W) {i : Nat} {ys : List Ty} {y z : Str} {t : Expr} {p p1 pos : Pos} (hg : c.gl y = true) (hy : y = ("isinstance" : Str)) (hv : c.vis i z = true) (ht : mTy c (Ty.okx fx.ts) ys t = true) :
    PE X (.Call (.Name y p) [.Name z p1, t] [] pos) (rd fx W (ev cx (.isx i ys))) := by
  obtain ⟨g1, g2, g3⟩ := G.gl hg
  subst hy
  have K := G.pub.K
  have hm : X.mg ("isinstance" : Str) = none := G.bl (by decide)
  obtain ⟨v1, v2, v3, v4⟩ := G.vis hv
  have he : PE X (.Name z p1) (tVar i) := pe_var v1 v2 v3 v4
  -- what is read of the slot, whatever it holds: the address is not known before
  refine ⟨fun pins s σ H Q I h => ?_⟩
  obtain ⟨g, τ, S, rl, sl, h⟩ := h
  simp only [ev] at h
  split at h
  · rename_i c0 p0 hi
    obtain ⟨v, ev0, rv⟩ := sl.at_ i _ hi
    cases rv with
    | exc ex xr =>
      rename_i a d
      obtain ⟨hc, h40, _⟩ := id xr
      have B : Bears X a (fx.cA c0) d := G.bear a c0 d ex
      have EK : ExK X.K (fx.cA c0) := K ▸ G.pub.ex.k c0 hc h40
      have one : ∀ {y : Ty}, ys = [y] → mTy1 c (Ty.okx fx.ts) y t = true → wpAny (model X.prog X.w) X.A (eval (.Call (.Name "isinstance" p) [.Name z p1, t] [] pos) X.env) (EP X pins σ Q) X.xe s := fun {y} e h1 => by
        subst e
        obtain ⟨p1', p2, p3⟩ := p_ty1 G (okx_ok _) h1
        have hpa : PA X [.Name z p1, t] (tCons (tVar i) (tCons (tC (tyVV fx y)) tNil)) := pa_cons he (pa_cons p1' pa_nil (ok_star p2 _ _)) rfl
        refine (pe_callB (call_isx EK B) g1 hm boot_isinstance hpa g3 g2 rfl (by rw [ok_star p2]; rfl)).run pins s σ H Q I ?_
        refine ⟨_, ev0, tyVV fx y, tyVal fx y, _, rfl, tyV_cls fx y, xrep_d xr, (by rw [K]; exact kx_is G.pub.ex hc h40 p3), ?_⟩
        have h := h.fin rl (.d (.bl _))
        simpa using h
      unfold mTy at ht
      split at ht
      · rename_i xs t1 t2
        simp only [Bool.and_eq_true, decide_eq_true_eq] at ht
        obtain ⟨q1, q2, q3⟩ := p_tys G (okx_ok _) ht.1
        have hpa : PA X [.Name z p1, .Tuple xs t1 t2] (tCons (tVar i) (tCons (tTup (tTys fx ys)) tNil)) := pa_cons he (pa_cons (pe_tup q1) pa_nil rfl) rfl
        refine (pe_callB (call_isxT EK B) g1 hm boot_isinstance hpa g3 g2 rfl rfl).run pins s σ H Q I ?_
        refine ⟨_, ev0, tTys_run fx σ H _ ys ⟨by rw [List.length_map, sizeLine_eq]; omega, fun p hp => ?_⟩⟩
        have w2 := grow_new (o := .tup (ys.map (tyVV fx))) rl hp
        have rl2 := rl.newF (o := .tup (ys.map (tyVV fx))) hp
        refine ⟨p, _, _, _, rfl, upd_same, pair_ty fx ys, xrep_d (xr.grow w2), (by rw [K]; exact kx_any G.pub.ex hc h40 ys q2), ?_⟩
        exact (RunG.grow w2 h).fin rl2 (.d (.bl _))
      · split at ht
        · exact one rfl ht
        · cases ht
  · exact h.elim
/-- e.f of the exception in hand -/
theorem s_xat (G : Good fx cx nm c X W) {i f : Nat} {z : Str} {p1 pos : Pos} (hv : c.vis i z = true) (hf : f < 28) : PE X (.Attribute (.Name z p1) (fname f) pos) (rd fx W (ev cx (.xat i f))) := by
  have K := G.pub.K
  obtain ⟨v1, v2, v3, v4⟩ := G.vis hv
  have he : PE X (.Name z p1) (tVar i) := pe_var v1 v2 v3 v4
  refine ⟨fun pins s σ H Q I h => ?_⟩
  obtain ⟨g, τ, S, rl, sl, h⟩ := h
  simp only [ev] at h
  split at h
  · rename_i c0 p0 hi
    obtain ⟨v, ev0, rv⟩ := sl.at_ i _ hi
    cases rv with
    | exc ex xr =>
      rename_i a d
      obtain ⟨hc, h40, hx⟩ := id xr
      have B : Bears X a (fx.cA c0) d := G.bear a c0 d ex
      have EK : ExK X.K (fx.cA c0) := K ▸ G.pub.ex.k c0 hc h40
      split at h
      · rename_i x hl
        rcases hx with ⟨rfl, _⟩ | ⟨dd, fs, vs, e1, e2, e3, e4, e5⟩
        · simp at hl
        · obtain ⟨hm, u, hu, ru⟩ := fld_look hf e4 e5 hl
          refine (pe_xat EK B (by rw [K]; exact G.pub.ex.fn c0 hc h40 f hm) he (ok_attr rfl _ _ _)).run pins s σ H Q I ?_
          exact ⟨_, ev0, rfl, dd, fs, u, e1, e3, hu, h.fin rl (.d ru)⟩
      · exact h.elim
  · exact h.elim
theorem s_grf {a : E} {x : Expr} (he : PE X x (rd fx W (ev cx a))) : PE X x (rd fx W (ev cx (.grf a))) :=
  he.imp fun σ H Q h => by
    obtain ⟨g, τ, S, rl, sl, h⟩ := h
    refine ⟨g, τ, S, rl, sl, ?_⟩
    simp only [ev] at h
    cases e : ev cx a τ S with
    | bad => rw [e] at h; exact h.elim
    | exc c p S' => rw [e] at h; exact h
    | ok t S' =>
      rw [e] at h
      exact fun g' v H' w rl' r' => run_grf h w (Nat.le_of_eq rl.lL) rl' r'
theorem s_frz {a : E} {x : Expr} (he : PE X x (rd fx W (ev cx a))) : PE X x (rd fx W (ev cx (.frz a))) :=
  he.imp fun σ H Q h => by
    obtain ⟨g, τ, S, rl, sl, h⟩ := h
    refine ⟨g, τ, S, rl, sl, ?_⟩
    simp only [ev] at h
    cases e : ev cx a τ S with
    | bad => rw [e] at h; exact h.elim
    | exc c p S' => rw [e] at h; exact h
    | ok t S' =>
      rw [e] at h
      exact fun g' v H' w rl' r' => run_frz h w (Nat.le_of_eq rl.lL) rl' r'
theorem t_frz {a : E} {x : Expr} (he : PT X x (rdB fx W fun τ S => (ev cx a τ S).bnd toB)) : PT X x (rdB fx W fun τ S => (ev cx (.frz a) τ S).bnd toB) :=
  he.imp fun σ H P h => by
    obtain ⟨g, τ, S, rl, sl, h⟩ := h
    refine ⟨g, τ, S, rl, sl, ?_⟩
    simp only [ev] at h
    show RunG fx (fun _ _ (b : Bool) (b' : Bool) => b = b') g H ((ev cx a τ S).bnd toB) P _
    cases e : ev cx a τ S with
    | bad => rw [e] at h; exact h.elim
    | exc c p S' => rw [e] at h; exact h
    | ok t S' =>
      rw [e] at h
      simp only [bnd_ok] at h ⊢
      cases t with
      | d d => exact h
      | cell k =>
        simp only [frzS] at h
        split at h
        · split at h <;> exact h.elim
        · exact h.elim
      | _ => exact h.elim
theorem t_grf {a : E} {x : Expr} (he : PT X x (rdB fx W fun τ S => (ev cx a τ S).bnd toB)) : PT X x (rdB fx W fun τ S => (ev cx (.grf a) τ S).bnd toB) :=
  he.imp fun σ H P h => by
    obtain ⟨g, τ, S, rl, sl, h⟩ := h
    refine ⟨g, τ, S, rl, sl, ?_⟩
    simp only [ev] at h
    show RunG fx (fun _ _ (b : Bool) (b' : Bool) => b = b') g H ((ev cx a τ S).bnd toB) P _
    cases e : ev cx a τ S with
    | bad => rw [e] at h; exact h.elim
    | exc c p S' => rw [e] at h; exact h
    | ok t S' =>
      rw [e] at h
      simp only [bnd_ok] at h ⊢
      cases t with
      | cell k =>
        simp only [grfS] at h
        split at h
        · split at h <;> exact h.elim
        · exact h.elim
      | _ => exact h.elim
end
end Mn
set_option Elab.async false
set_option linter.all false
set_option maxRecDepth 100000
set_option maxHeartbeats 4000000
/-! MnY: an exception's __init__ keeps spIni. -/
namespace Mn
open PySem PySem.Spec PyProof.Rows PySem.SeqAt
open L2 hiding ixN atI Takes XE CX takes_of passes_call passAt
open L2N (Takes XE CX takes_of)

section
variable {P : Program} {w : World} {K : PySem.W.Frag} {mg : Str → Option Value} {base : Heap}
theorem ini_fn {x qual : Str} {params : Arguments} {scope : Scope} {dvs : List V} {kws : List (Str × V)} {f C C0 : Addr} {fd : FuncData} {y fl z m : Str} {p1 p2 p3 p4 p5 p6 p7 p8 p9 p10 : Pos} {j1 k : Nat}
    (F : FunD K x qual params [.Expr (.Call (.Attribute (.Name y p1) "__init__" p2) [.Name "self" p3, .Constant (.str m) j1 p4] [] p5) p6, .Assign [.Attribute (.Name "self" p7) fl p8] (.Name z p9) p10] scope dvs kws f fd)
    (S : FnScope ["self", z] ["self", z] scope) (hv0 : L2.Vis scope "self") (hv1 : L2.Vis scope z) (hz : (z == ("__debug__" : Str)) = false) (hz2 : (z == ("__classdict__" : Str)) = false)
    (hyl : scope.names.lookup y = some .globalImplicit) (hy : mg y = some (.ref C0)) (hdb : (y == ("__debug__" : Str)) = false) (hpos : (p2.endLine == p5.line) = true)
    (u : UpV K C0) (T : OexC K C) (hno : PySem.W.findIn K (.ref C) fl = some none) :
    FnOk P w K mg base (CX P w) (k + 1) f fd ["self", z] (spIni C fl) := by
  refine F.ok S (fun vs H Q E h => ?_) fun cdv A outer s H vs Q E hr h => ?_
  · obtain ⟨a, v, rfl, _⟩ := h
    rfl
  · obtain ⟨a, v, rfl, ha, h⟩ := h
    let X := cxOf (CX P w) P w K mg base ["self", z] qual scope f cdv A outer s H E
    have e0 : PE X (.Name "self" p3) (tVar 0) := pe_var (X := X) rfl hv0 (by decide) (by decide)
    have e1 : PE X (.Name "self" p7) (tVar 0) := pe_var (X := X) rfl hv0 (by decide) (by decide)
    have e2 : PE X (.Name z p9) (tVar 1) := pe_var (X := X) rfl hv1 hz hz2
    refine ⟨_, pss_cons (ps_expr (pe_upv (X := X) (C0 := C0) (pl := do return (← importBound (.Name y p1) X.env).getD true) u hyl hy (pa_cons e0 (pa_cons pe_str pa_nil)) ?_ hdb)) (pss_one (ps_ost (X := X) (f := fl) e1 e2)), ?_⟩
    · exact meth_ht rfl hpos (show (2 : Nat) < 20 by decide) rfl
    · refine ⟨V.ref a, rfl, ?_⟩
      refine ⟨a, C, [V.str m], rfl, (show (1 : Nat) ≤ 1000 by decide), T, ha, ?_⟩
      refine ⟨v, rfl, ?_⟩
      refine ⟨V.ref a, rfl, ?_⟩
      exact ⟨a, C, rfl, T, hno, .inl ⟨ha, fun dx h1 h2 => h dx h1 h2⟩⟩
end
end Mn
set_option Elab.async false
set_option linter.all false
set_option maxRecDepth 100000
set_option maxHeartbeats 4000000
/-! Mn13: what is walked. -/
namespace Mn
open PySem PySem.Spec PyProof.Rows PySem.SeqAt
open L2 hiding ixN atI Takes XE CX takes_of passes_call passAt
open L2N (Takes XE CX takes_of)

/-- what never changes is kept -/
structure KeepF (g g' : Gh) (H H' : Hp) : Prop where
  F : ∀ a, g.F a → g'.F a
  keep : ∀ a o, g.F a → H a = some o → H' a = some o
  bs : ∀ (k : Nat) (a : Addr), g.bs[k]? = some a → g'.bs[k]? = some a
theorem KeepF.refl (g : Gh) (H : Hp) : KeepF g g H H := ⟨fun _ h => h, fun _ _ _ h => h, fun _ _ h => h⟩
theorem KeepF.trans {g g1 g2 : Gh} {H H1 H2 : Hp} (a : KeepF g g1 H H1) (b : KeepF g1 g2 H1 H2) : KeepF g g2 H H2 :=
  ⟨fun x h => b.F x (a.F x h), fun x o h e => b.keep x o (a.F x h) (a.keep x o h e), fun k x h => b.bs k x (a.bs k x h)⟩
theorem Grow.kf {g g' : Gh} {H H' : Hp} (w : Grow g g' H H') : KeepF g g' H H' := ⟨w.F, w.keep, w.bs⟩
theorem KeepF.rep {fx : Fx} {g g' : Gh} {H H' : Hp} (w : KeepF g g' H H') {v : V} {d : D} (r : RepD fx g.F g.bs H v d) : RepD fx g'.F g'.bs H' v d := r.mono w.F w.keep w.bs
theorem KeepF.reps {fx : Fx} {g g' : Gh} {H H' : Hp} (w : KeepF g g' H H') {v : List V} {d : List D} (r : RepDs fx g.F g.bs H v d) : RepDs fx g'.F g'.bs H' v d := r.mono w.F w.keep w.bs
/-- the iterator J yields ds, whatever changes but the trees -/
def IsIt (fx : Fx) (J : L2.It) (g : Gh) (H : Hp) (ds : List D) : Prop := ∀ g' H' S', KeepF g g' H H' → Rel fx g' S' H' →
  (∀ i, i < ds.length → J.go i H') ∧ (∀ i, ds.length ≤ i → J.stop i H') ∧
  ∀ i x H'', J.yld i H' x H'' → ∀ d, ds[i]? = some d → ∃ g'', Grow g' g'' H' H'' ∧ Rel fx g'' S' H'' ∧ RepD fx g''.F g''.bs H'' x d
abbrev rdI (fx : Fx) (W : WX) (m : Sl → Store → R (List D)) : TI := rdG fx (fun g H (J : L2.It) ds => IsIt fx J g H ds) W m
section
variable {fx : Fx} {g : Gh} {H : Hp} {S : Store}
theorem repT_unDs {vs : List V} {ts : List T} {ds : List D} (r : RepTs fx g H vs ts) (e : unDs ts = some ds) : RepDs fx g.F g.bs H vs ds := RepTs.unDs r e
theorem sq_items {x : V} {t : T} {ds : List D} (r : RepT fx g H x t) (e : itemL t = some ds) : ∃ a vs, x = .ref a ∧ FL fx.K g.F H a vs ∧ RepDs fx g.F g.bs H vs ds := by
  unfold itemL at e
  split at e
  · cases e
    cases r with
    | d r =>
      cases r with
      | lst h1 h2 q => exact ⟨_, _, rfl, .inl ⟨h1, .inl h2⟩, q⟩
  · cases r with
    | lst h q => exact ⟨_, _, rfl, h, RepTs.unDs q e⟩
  · cases e
theorem get_of {vs : List V} {ds : List D} {F : Addr → Prop} {bs : List Addr} (r : RepDs fx F bs H vs ds) {i : Nat} (h : i < ds.length) : ∃ v, vs[i]? = some v ∧ RepD fx F bs H v ds[i] := r.get (List.getElem?_eq_getElem h)
theorem rep_at {vs : List V} {ds : List D} {F : Addr → Prop} {bs : List Addr} (r : RepDs fx F bs H vs ds) {i : Nat} {d : D} {v : V} (h1 : ds[i]? = some d) (h2 : vs[i]? = some v) : RepD fx F bs H v d := by
  obtain ⟨w, e, q⟩ := r.get h1
  rw [h2] at e
  cases e
  exact q
theorem it_list {a : Addr} {vs : List V} {ds : List D} (h : FL fx.K g.F H a vs) (r : RepDs fx g.F g.bs H vs ds) : IsIt fx (Itl fx.K a) g H ds := by
  intro g' H' S' w rl
  have h' : SqL fx.K H' a vs := (h.mono w.F w.keep).sq
  have r' := w.reps r
  refine ⟨fun i hi => ?_, fun i hi => ⟨vs, h', by rw [r.length]; exact hi⟩, fun i x H'' y d e => ?_⟩
  · obtain ⟨v, e, _⟩ := get_of r' hi
    exact ⟨vs, v, h', e⟩
  · obtain ⟨rfl, y⟩ := y
    exact ⟨g', Grow.refl _ _, rl, rep_at r' e (y vs h')⟩
theorem it_tup {a : Addr} {vs : List V} {ds : List D} (h : FT fx.K g.F H a vs) (r : RepDs fx g.F g.bs H vs ds) : IsIt fx (Itt fx.K a) g H ds := by
  intro g' H' S' w rl
  have h' : SqT fx.K H' a vs := (h.mono w.F w.keep).sq
  have r' := w.reps r
  refine ⟨fun i hi => ?_, fun i hi => ⟨vs, h', by rw [r.length]; exact hi⟩, fun i x H'' y d e => ?_⟩
  · obtain ⟨v, e, _⟩ := get_of r' hi
    exact ⟨vs, v, h', e⟩
  · obtain ⟨rfl, y⟩ := y
    exact ⟨g', Grow.refl _ _, rl, rep_at r' e (y vs h')⟩
theorem it_str (z : Str) : IsIt fx (Its z) g H (z.cps.toList.map fun c => .str ⟨#[c]⟩) := by
  intro g' H' S' w rl
  refine ⟨fun i hi => (show i < z.cps.size by simpa using hi), fun i hi => (show z.cps.size ≤ i by simpa using hi), fun i x H'' y d e => ?_⟩
  obtain ⟨rfl, c, hc, rfl⟩ := y
  rw [List.getElem?_map, Array.getElem?_toList, hc] at e
  cases e
  exact ⟨g', Grow.refl _ _, rl, .str _⟩
theorem rngL_len (lo : Int) (n : Nat) : (rngL lo n).length = n := by simp [rngL]
theorem rngL_at {lo : Int} {n i : Nat} {d : D} (h : (rngL lo n)[i]? = some d) : d = .int (lo + i) := by
  unfold rngL at h
  rw [List.getElem?_map] at h
  by_cases hi : i < n
  · rw [List.getElem?_range hi] at h
    cases h
    rfl
  · rw [List.getElem?_eq_none (by simpa using hi)] at h
    cases h
theorem it_rng (lo : Int) (n : Nat) : IsIt fx (Itr lo n) g H (rngL lo n) := by
  intro g' H' S' w rl
  rw [rngL_len]
  refine ⟨fun i hi => hi, fun i hi => hi, fun i x H'' y d e => ?_⟩
  obtain ⟨rfl, rfl⟩ := y
  rw [rngL_at e]
  exact ⟨g', Grow.refl _ _, rl, .int _⟩
theorem it_rngR (lo : Int) (n : Nat) : IsIt fx (Itc (lo + (n : Int) - 1) (-1) n) g H (rngL lo n).reverse := by
  intro g' H' S' w rl
  rw [List.length_reverse, rngL_len]
  refine ⟨fun i hi => hi, fun i hi => hi, fun i x H'' y d e => ?_⟩
  obtain ⟨rfl, rfl⟩ := y
  have hi : i < n := by
    have := (List.getElem?_eq_some_iff.mp e).1
    rwa [List.length_reverse, rngL_len] at this
  rw [List.getElem?_reverse (by rw [rngL_len]; exact hi), rngL_len] at e
  rw [rngL_at e]
  refine ⟨g', Grow.refl _ _, rl, ?_⟩
  have e2 : lo + ((n - 1 - i : Nat) : Int) = lo + (n : Int) - 1 + (i : Int) * (-1) := by omega
  rw [e2]
  exact .int _
theorem it_rev {a : Addr} {vs : List V} {ds : List D} (h : FL fx.K g.F H a vs) (r : RepDs fx g.F g.bs H vs ds) : IsIt fx (Itv fx.K a vs.length) g H ds.reverse := by
  intro g' H' S' w rl
  have h' : SqL fx.K H' a vs := (h.mono w.F w.keep).sq
  have r' := w.reps r
  have hl := r.length
  rw [List.length_reverse]
  refine ⟨fun i hi => ⟨by omega, ?_⟩, fun i hi => (show vs.length ≤ i by omega), fun i x H'' y d e => ?_⟩
  · obtain ⟨v, e, _⟩ := get_of r' (i := vs.length - 1 - i) (by omega)
    exact ⟨vs, v, h', e⟩
  · obtain ⟨rfl, y⟩ := y
    have hi : i < ds.length := by
      have := (List.getElem?_eq_some_iff.mp e).1
      rwa [List.length_reverse] at this
    rw [List.getElem?_reverse hi] at e
    have q := y vs h'
    rw [hl] at q
    exact ⟨g', Grow.refl _ _, rl, rep_at r' e q⟩
theorem enumL_len : ∀ (n : Nat) (ds : List D), (enumL n ds).length = ds.length
  | _, [] => rfl
  | n, _ :: ds => by simp [enumL, enumL_len (n + 1) ds]
theorem enumL_at : ∀ {n : Nat} {ds : List D} {i : Nat} {d : D}, (enumL n ds)[i]? = some d → ∃ e, ds[i]? = some e ∧ d = .tup [.int ((n + i : Nat) : Int), e]
  | _, [], i, d, h => by simp [enumL] at h
  | n, x :: xs, 0, d, h => by
    simp [enumL] at h
    subst h
    exact ⟨x, rfl, rfl⟩
  | n, x :: xs, i + 1, d, h => by
    have h' : (enumL (n + 1) xs)[i]? = some d := by simpa [enumL] using h
    obtain ⟨e, h1, h2⟩ := enumL_at h'
    exact ⟨e, by simpa using h1, by rw [h2]; congr 4; omega⟩
theorem it_enum {a : Addr} {vs : List V} {ds : List D} (h : FL fx.K g.F H a vs) (r : RepDs fx g.F g.bs H vs ds) : IsIt fx (Ite fx.K a) g H (enumL 0 ds) := by
  intro g' H' S' w rl
  have h' : SqL fx.K H' a vs := (h.mono w.F w.keep).sq
  have r' := w.reps r
  rw [enumL_len]
  refine ⟨fun i hi => ?_, fun i hi => ⟨vs, h', by rw [r.length]; exact hi⟩, fun i x H'' y d e => ?_⟩
  · obtain ⟨v, e, _⟩ := get_of r' hi
    exact ⟨vs, v, h', e⟩
  · obtain ⟨p, x0, rfl, hp, rfl, y⟩ := y
    obtain ⟨e0, h1, rfl⟩ := enumL_at e
    have w2 := grow_new (o := .tup [.int (i : Nat), x0]) rl hp
    refine ⟨_, w2, rl.newF hp, .tup (.inl ⟨.inr rfl, .inl upd_same⟩) (.cons ?_ (.cons ((rep_at r' h1 (y vs h')).grow w2) .nil))⟩
    rw [Nat.zero_add]
    exact .int _
theorem zipL_at : ∀ {xs ys : List D} {i : Nat} {d : D}, (zipL xs ys)[i]? = some d → ∃ e f, xs[i]? = some e ∧ ys[i]? = some f ∧ d = .tup [e, f]
  | [], _, i, d, h => by simp [zipL] at h
  | _ :: _, [], i, d, h => by simp [zipL] at h
  | x :: xs, y :: ys, 0, d, h => by
    simp [zipL] at h
    subst h
    exact ⟨x, y, rfl, rfl, rfl⟩
  | x :: xs, y :: ys, i + 1, d, h => by
    have h' : (zipL xs ys)[i]? = some d := by simpa [zipL] using h
    obtain ⟨e, f, h1, h2, h3⟩ := zipL_at h'
    exact ⟨e, f, by simpa using h1, by simpa using h2, h3⟩
theorem zipL_len : ∀ (xs ys : List D), (zipL xs ys).length = min xs.length ys.length
  | [], _ => by simp [zipL]
  | _ :: _, [] => by simp [zipL]
  | x :: xs, y :: ys => by simp [zipL, zipL_len xs ys]
theorem it_zip {a b : Addr} {vs us : List V} {ds es : List D} (h : FL fx.K g.F H a vs) (r : RepDs fx g.F g.bs H vs ds) (k : FL fx.K g.F H b us) (q : RepDs fx g.F g.bs H us es) : IsIt fx (Itz fx.K a b) g H (zipL ds es) := by
  intro g' H' S' w rl
  have h' : SqL fx.K H' a vs := (h.mono w.F w.keep).sq
  have k' : SqL fx.K H' b us := (k.mono w.F w.keep).sq
  have r' := w.reps r
  have q' := w.reps q
  have l1 := r.length
  have l2 := q.length
  rw [zipL_len]
  refine ⟨fun i hi => ?_, fun i hi => ⟨vs, us, h', k', by omega⟩, fun i x H'' y d e => ?_⟩
  · obtain ⟨v, e, _⟩ := get_of r' (i := i) (by omega)
    obtain ⟨u, f, _⟩ := get_of q' (i := i) (by omega)
    exact ⟨vs, us, v, u, h', k', e, f⟩
  · obtain ⟨p, x0, y0, rfl, hp, rfl, y1, y2⟩ := y
    obtain ⟨e0, f0, h1, h2, rfl⟩ := zipL_at e
    have w2 := grow_new (o := .tup [x0, y0]) rl hp
    exact ⟨_, w2, rl.newF hp, .tup (.inl ⟨.inr rfl, .inl upd_same⟩) (.cons ((rep_at r' h1 (y1 vs h')).grow w2) (.cons ((rep_at q' h2 (y2 us k')).grow w2) .nil))⟩
end
section
variable {fx : Fx} {cx : Cxx} {nm : Nm} {c : SC} {X : Cx} {W : WX} {ts : List Nat} {tg : Expr}
/-- a list, a tuple, a text -/
def iAny (K : PySem.W.Frag) (te : TE) : TI := fun σ H R => te σ H fun x H1 => (∃ a vs, x = .ref a ∧ SqL K H1 a vs ∧ R (Itl K a) H1) ∨ (∃ a vs, x = .ref a ∧ SqT K H1 a vs ∧ R (Itt K a) H1) ∨ ∃ z, x = .str z ∧ R (Its z) H1
theorem pi_any {e : Expr} {te : TE} (he : PE X e te) : PI X tg e (iAny X.K te) := by
  refine ⟨fun pins s σ H R I h => thn (he.run pins s σ H _ I h) fun v s1 ⟨y, H1, I1, r1, q⟩ => ?_⟩
  rcases q with ⟨a, vs, rfl, hq, q⟩ | ⟨a, vs, rfl, hq, q⟩ | ⟨z, rfl, q⟩
  · obtain rfl : v = Value.ref a := r1
    obtain ⟨its, rv, p, hz⟩ := I1.list hq
    exact wpAny_pyIter_list p.isList (pi_one (tk := s1.toks) I1 _ (turn_list a _) ⟨_, Heap.get?_push_size _ rfl, rfl, rfl⟩ q)
  · obtain rfl : v = Value.ref a := r1
    obtain ⟨its, rv, p, hz⟩ := I1.tuple hq
    exact wpAny_pyIter_tuple (show s1.heap.IsTuple a its.toArray from p) (pi_one (tk := s1.toks) I1 _ (turn_tuple a _) ⟨_, Heap.get?_push_size _ rfl, rfl, rfl⟩ q)
  · obtain ⟨t, rfl⟩ := r1
    cases ha : z.cps.all (· < 128)
    · exact wpAny_pyIter_wide ha (pi_one (tk := s1.toks) I1 _ (turn_str _ z t "str_iterator" (.inr rfl)) ⟨_, Heap.get?_push_size _ rfl, rfl, rfl⟩ q)
    · exact wpAny_pyIter_ascii ha (pi_one (tk := s1.toks) I1 _ (turn_str _ z t "str_ascii_iterator" (.inl rfl)) ⟨_, Heap.get?_push_size _ rfl, rfl, rfl⟩ q)
theorem i_seq (G : Good fx cx nm c X W) {e : E} {x : Expr} (he : PE X x (rd fx W (ev cx e))) : PI X tg x (rdI fx W (evIt cx (.seq e))) :=
  (pi_any he).imp fun σ H R h => by
    obtain ⟨g, τ, S, rl, sl, h⟩ := h
    simp only [evIt] at h
    refine ⟨g, τ, S, rl, sl, h.bnd.mono fun v H1 ⟨g1, S1, t1, w1, rl1, r1, h1⟩ => ?_⟩
    have K := G.pub.K
    split at h1
    · rename_i ds e1
      unfold items at e1
      split at e1
      · cases e1
        cases r1 with
        | d r1 =>
          cases r1 with
          | lst f1 f2 q => exact .inl ⟨_, _, rfl, SqL.of f2, K ▸ h1.fin rl1 (it_list (.inl ⟨f1, .inl f2⟩) q)⟩
      · cases e1
        cases r1 with
        | d r1 =>
          cases r1 with
          | tup f q => exact .inr (.inl ⟨_, _, rfl, K ▸ f.sq, K ▸ h1.fin rl1 (it_tup f q)⟩)
      · cases e1
        obtain rfl := rt_str r1
        exact .inr (.inr ⟨_, rfl, h1.fin rl1 (it_str _)⟩)
      · cases r1 with
        | lst f q => exact .inl ⟨_, _, rfl, K ▸ f.sq, K ▸ h1.fin rl1 (it_list f (RepTs.unDs q e1))⟩
      · cases e1
    · exact h1.elim
mutual
theorem same_eq : ∀ x y : D, x.same y = true → x = y
  | .non, y, h => by cases y <;> first | rfl | (simp [D.same] at h)
  | .bl _, y, h => by cases y <;> simp_all [D.same]
  | .int _, y, h => by cases y <;> simp_all [D.same]
  | .str _, y, h => by cases y <;> simp_all [D.same]
  | .lst xs, y, h => by
    cases y with
    | lst ys => simp only [D.same] at h; rw [sames_eq xs ys h]
    | _ => simp [D.same] at h
  | .tup xs, y, h => by
    cases y with
    | tup ys => simp only [D.same] at h; rw [sames_eq xs ys h]
    | _ => simp [D.same] at h
  | .obj c xs, y, h => by
    cases y with
    | obj c' ys =>
      simp only [D.same, Bool.and_eq_true, decide_eq_true_eq] at h
      rw [h.1, sames_eq xs ys h.2]
    | _ => simp [D.same] at h
  | .dct c xs, y, h => by
    cases y with
    | dct c' ys =>
      simp only [D.same, Bool.and_eq_true, decide_eq_true_eq] at h
      rw [h.1, sames_eq xs ys h.2]
    | _ => simp [D.same] at h
  | .gref _, y, h => by cases y <;> simp_all [D.same]
theorem sames_eq : ∀ xs ys : List D, D.sames xs ys = true → xs = ys
  | [], ys, h => by cases ys <;> first | rfl | (simp [D.sames] at h)
  | x :: xs, ys, h => by
    cases ys with
    | nil => simp [D.sames] at h
    | cons y ys =>
      simp only [D.sames, Bool.and_eq_true] at h
      rw [same_eq x y h.1, sames_eq xs ys h.2]
end
theorem grd_rdL {x : T} {xs : List D} {S : Store} (h : grd x xs S = true) : S.rdL x = some xs := by
  unfold grd at h
  split at h
  · rename_i ys e
    rw [e, sames_eq _ _ h]
  · cases h
/-- the same of what may change, as long as the store says q -/
def IsItA (fx : Fx) (J : L2.It) (g : Gh) (H : Hp) (ds : List D) (q : Store → Bool) : Prop := ∀ g' H' S', KeepF g g' H H' → (∀ (k : Nat) (a : Addr), g.as[k]? = some a → g'.as[k]? = some a) → Rel fx g' S' H' → q S' = true →
  (∀ i, i < ds.length → J.go i H') ∧ (∀ i, ds.length ≤ i → J.stop i H') ∧
  ∀ i x H'', J.yld i H' x H'' → ∀ d, ds[i]? = some d → ∃ g'', Grow g' g'' H' H'' ∧ Rel fx g'' S' H'' ∧ RepD fx g''.F g''.bs H'' x d
def itC (cx : Cxx) (e : E) (σ : Sl) (S : Store) : R (T × List D) := (ev cx e σ S).bnd fun x S1 => match S1.rdL x with
  | some xs => .ok (x, xs) S1
  | none => .bad
theorem it_cell {g : Gh} {H : Hp} {S : Store} {a : Addr} {t : T} {ds : List D} (r : RepT fx g H (.ref a) t) (e : S.rdL t = some ds) : IsItA fx (Itl fx.K a) g H ds (grd t ds) := by
  intro g' H' S' w wa rl hq
  have e' := grd_rdL hq
  have r' : RepT fx g' H' (.ref a) t := by
    cases r with
    | d r => exact .d (r.mono w.F w.keep w.bs)
    | cell h => exact .cell (wa _ _ h)
    | tup f q => simp [Store.rdL] at e
    | lst f q => simp [Store.rdL] at e
    | exc f q => simp [Store.rdL] at e
  obtain ⟨a', vs, ea, ha, rp⟩ := rdL_rep rl r' e'
  cases ea
  have h' : SqL fx.K H' a vs := SqL.of ha
  refine ⟨fun i hi => ?_, fun i hi => ⟨vs, h', by rw [rp.length]; exact hi⟩, fun i x H'' y d e => ?_⟩
  · obtain ⟨v, e, _⟩ := get_of rp hi
    exact ⟨vs, v, h', e⟩
  · obtain ⟨rfl, y⟩ := y
    exact ⟨g', Grow.refl _ _, rl, rep_at rp e (y vs h')⟩
abbrev rdIA (fx : Fx) (W : WX) (m : Sl → Store → R (T × List D)) : TI := rdG fx (fun g H (J : L2.It) (p : T × List D) => IsItA fx J g H p.2 (grd p.1 p.2)) W m
theorem i_cell (G : Good fx cx nm c X W) {e : E} {x : Expr} (he : PE X x (rd fx W (ev cx e))) : PI X tg x (rdIA fx W (itC cx e)) :=
  (pi_any he).imp fun σ H R h => by
    obtain ⟨g, τ, S, rl, sl, h⟩ := h
    simp only [itC] at h
    refine ⟨g, τ, S, rl, sl, h.bnd.mono fun v H1 ⟨g1, S1, t1, w1, rl1, r1, h1⟩ => ?_⟩
    have K := G.pub.K
    split at h1
    · rename_i ds e1
      obtain ⟨a, vs, rfl, ha, rp⟩ := rdL_rep rl1 r1 e1
      exact .inl ⟨_, _, rfl, SqL.of ha, K ▸ h1.fin rl1 (it_cell r1 e1)⟩
    · exact h1.elim
/-- the same, of what stays when a frame's own cells go -/
def IsItS (fx : Fx) (n : Nat) (J : L2.It) (g : Gh) (H : Hp) (ds : List D) (q : Store → Bool) : Prop := ∀ g' H' S', KeepF g g' H H' → (∀ (k : Nat) (a : Addr), k < n → g.as[k]? = some a → g'.as[k]? = some a) → Rel fx g' S' H' → q S' = true →
  (∀ i, i < ds.length → J.go i H') ∧ (∀ i, ds.length ≤ i → J.stop i H') ∧
  ∀ i x H'', J.yld i H' x H'' → ∀ d, ds[i]? = some d → ∃ g'', Grow g' g'' H' H'' ∧ Rel fx g'' S' H'' ∧ RepD fx g''.F g''.bs H'' x d
theorem it_cellS {n : Nat} {g : Gh} {H : Hp} {S : Store} {a : Addr} {t : T} {ds : List D} (r : RepT fx g H (.ref a) t) (e : S.rdL t = some ds) (ho : own n t = true) : IsItS fx n (Itl fx.K a) g H ds (grd t ds) := by
  intro g' H' S' w wa rl hq
  have e' := grd_rdL hq
  have r' : RepT fx g' H' (.ref a) t := by
    cases r with
    | d r => exact .d (r.mono w.F w.keep w.bs)
    | cell h => exact .cell (wa _ _ (of_decide_eq_true ho) h)
    | tup f q => simp [Store.rdL] at e
    | lst f q => simp [Store.rdL] at e
    | exc f q => simp [Store.rdL] at e
  obtain ⟨a', vs, ea, ha, rp⟩ := rdL_rep rl r' e'
  cases ea
  have h' : SqL fx.K H' a vs := SqL.of ha
  refine ⟨fun i hi => ?_, fun i hi => ⟨vs, h', by rw [rp.length]; exact hi⟩, fun i x H'' y d e => ?_⟩
  · obtain ⟨v, e, _⟩ := get_of rp hi
    exact ⟨vs, v, h', e⟩
  · obtain ⟨rfl, y⟩ := y
    exact ⟨g', Grow.refl _ _, rl, rep_at rp e (y vs h')⟩
abbrev rdIS (fx : Fx) (W : WX) (n : Nat) (m : Sl → Store → R (T × List D)) : TI := rdG fx (fun g H (J : L2.It) (p : T × List D) => own n p.1 = true → IsItS fx n J g H p.2 (grd p.1 p.2)) W m
theorem i_cellS (G : Good fx cx nm c X W) {e : E} {x : Expr} {n : Nat} (he : PE X x (rd fx W (ev cx e))) : PI X tg x (rdIS fx W n (itC cx e)) :=
  (pi_any he).imp fun σ H R h => by
    obtain ⟨g, τ, S, rl, sl, h⟩ := h
    simp only [itC] at h
    refine ⟨g, τ, S, rl, sl, h.bnd.mono fun v H1 ⟨g1, S1, t1, w1, rl1, r1, h1⟩ => ?_⟩
    have K := G.pub.K
    split at h1
    · rename_i ds e1
      obtain ⟨a, vs, rfl, ha, rp⟩ := rdL_rep rl1 r1 e1
      exact .inl ⟨_, _, rfl, SqL.of ha, K ▸ h1.fin rl1 fun ho => it_cellS r1 e1 ho⟩
    · exact h1.elim
theorem small_ok {i : Int} (h : small62 i = true) : -(2 ^ 62) ≤ i ∧ i < 2 ^ 62 := by
  have h2 := of_decide_eq_true h
  exact ⟨by omega, by omega⟩
theorem rng_vals {g : Gh} {H : Hp} {vs : List V} {tl : List T} {lo : Int} {n : Nat} (r : RepTs fx g H vs tl) (h : rngS tl = some (lo, n)) :
    (∃ j : Int, vs = [.int j] ∧ (-(2 ^ 62) ≤ j ∧ j < 2 ^ 62) ∧ lo = 0 ∧ n = j.toNat) ∨ ∃ i j : Int, vs = [.int i, .int j] ∧ (-(2 ^ 62) ≤ i ∧ i < 2 ^ 62 ∧ -(2 ^ 62) ≤ j ∧ j < 2 ^ 62) ∧ lo = i ∧ n = (j - i).toNat := by
  unfold rngS at h
  split at h
  · split at h
    · cases h
      obtain ⟨x, rfl, hx⟩ := repTs1 r
      obtain rfl := rt_int hx
      exact .inl ⟨_, rfl, small_ok (by assumption), rfl, rfl⟩
    · cases h
  · split at h
    · rename_i hs
      cases h
      obtain ⟨x, y, rfl, hx, hy⟩ := repTs2 r
      obtain rfl := rt_int hx
      obtain rfl := rt_int hy
      simp only [Bool.and_eq_true] at hs
      have q1 := small_ok hs.1
      have q2 := small_ok hs.2
      exact .inr ⟨_, _, rfl, ⟨q1.1, q1.2, q2.1, q2.2⟩, rfl, rfl⟩
    · cases h
  · cases h
theorem ev_two {es : Es} {x y : Expr} (h : mEs nm ts es c [x, y] = true) : ∃ a b, es = .cons a (.cons b .nil) ∧ mE nm ts a c x = true ∧ mE nm ts b c y = true := by
  cases es with
  | nil => unfold mEs at h; cases h
  | cons a es =>
    unfold mEs at h
    simp only [Bool.and_eq_true] at h
    cases es with
    | nil => have h2 := h.2; unfold mEs at h2; cases h2
    | cons b es =>
      have h2 := h.2
      unfold mEs at h2
      simp only [Bool.and_eq_true] at h2
      cases es with
      | nil => exact ⟨a, b, rfl, h.1, h2.1⟩
      | cons d es => have h3 := h2.2; unfold mEs at h3; cases h3
theorem ev_one {es : Es} {x : Expr} (h : mEs nm ts es c [x] = true) : ∃ a, es = .cons a .nil ∧ mE nm ts a c x = true := by
  cases es with
  | nil => unfold mEs at h; cases h
  | cons a es =>
    unfold mEs at h
    simp only [Bool.and_eq_true] at h
    cases es with
    | nil => exact ⟨a, rfl, h.1⟩
    | cons b es => have h2 := h.2; unfold mEs at h2; cases h2
theorem evs_len {τ : Sl} : ∀ (es : Es) (c : SC) (xs : List Expr) {S S' : Store} {tl : List T}, mEs nm ts es c xs = true → evs cx es τ S = .ok tl S' → tl.length = xs.length
  | .nil, c, xs, S, S', tl, h, e => by
    unfold mEs at h
    simp only [evs] at e
    cases e
    cases xs with
    | nil => rfl
    | cons x xs => cases h
  | .cons a es, c, xs, S, S', tl, h, e => by
    unfold mEs at h
    cases xs with
    | nil => cases h
    | cons x xs =>
      simp only [Bool.and_eq_true] at h
      simp only [evs] at e
      cases e1 : ev cx a τ S with
      | bad => rw [e1] at e; cases e
      | exc cc p S1 => rw [e1] at e; cases e
      | ok t S1 =>
        rw [e1] at e
        simp only [bnd_ok] at e
        cases e2 : evs cx es τ S1 with
        | bad => rw [e2] at e; cases e
        | exc cc p S2 => rw [e2] at e; cases e
        | ok t2 S2 =>
          rw [e2] at e
          simp only [bnd_ok] at e
          cases e
          simp [evs_len es c xs h.2 e2]
theorem i_rng (G : Good fx cx nm c X W) {es : Es} {y : Str} {p pos : Pos} {xs : List Expr} (hg : c.gl y = true) (hy : y = ("range" : Str)) (hn : xs.length = 1 ∨ xs.length = 2) (hm : mEs nm ts es c xs = true) (ha : PA X xs (rdA fx W (evs cx es))) :
    PI X tg (.Call (.Name y p) xs [] pos) (rdI fx W (evIt cx (.rng es))) := by
  obtain ⟨g1, g2, g3⟩ := G.gl hg
  subst hy
  have hb : X.mg ("range" : Str) = none := G.bl (by decide)
  have hs := mEs_star (env := X.env) es c xs hm
  match xs, hn with
  | [a], _ =>
    refine (pi_range1 g1 hb ha hs).imp fun σ H R h => ?_
    obtain ⟨g, τ, S, rl, sl, h⟩ := h
    simp only [evIt] at h
    refine ⟨g, τ, S, rl, sl, h.bnde.mono fun vs H1 ⟨g1, S1, tl, e0, w, rl1, r1, h1⟩ => ?_⟩
    have hl := evs_len es c _ hm e0
    split at h1
    · rename_i lo n e1
      rcases rng_vals r1 e1 with ⟨j, rfl, q, rfl, rfl⟩ | ⟨i, j, rfl, q, rfl, rfl⟩
      · exact ⟨j, rfl, q.1, q.2, h1.fin rl1 (it_rng _ _)⟩
      · rw [← r1.length] at hl
        simp at hl
    · exact h1.elim
  | [a, b], _ =>
    obtain ⟨e1, e2, rfl, m1, m2⟩ := ev_two hm
    refine (pi_range2 g1 hb ha hs (ok_star (mE_okX _ _ _ m2) _ _)).imp fun σ H R h => ?_
    obtain ⟨g, τ, S, rl, sl, h⟩ := h
    simp only [evIt] at h
    refine ⟨g, τ, S, rl, sl, h.bnde.mono fun vs H1 ⟨g1, S1, tl, e0, w, rl1, r1, h1⟩ => ?_⟩
    have hl := evs_len _ c _ hm e0
    split at h1
    · rename_i lo n e1
      rcases rng_vals r1 e1 with ⟨j, rfl, q, rfl, rfl⟩ | ⟨i, j, rfl, q, rfl, rfl⟩
      · rw [← r1.length] at hl
        simp at hl
      · exact ⟨_, _, rfl, q, h1.fin rl1 (it_rng _ _)⟩
    · exact h1.elim
  | [], h => simp at h
  | _ :: _ :: _ :: _, h => simp at h
theorem i_enum (G : Good fx cx nm c X W) {e : E} {y : Str} {p pos tpos : Pos} {x : Expr} {elts : List Expr} {kk : Nat} (hg : c.gl y = true) (hy : y = ("enumerate" : Str)) (hx : okX x = true) (he : PE X x (rd fx W (ev cx e))) :
    PI X (.Tuple elts kk tpos) (.Call (.Name y p) [x] [] pos) (rdI fx W (evIt cx (.enum e))) := by
  obtain ⟨g1, g2, g3⟩ := G.gl hg
  subst hy
  refine (pi_enum g1 (G.bl (by decide)) (pa_cons he pa_nil (ok_star hx _ _)) (ok_star hx _ _)).imp fun σ H R h => ?_
  obtain ⟨g, τ, S, rl, sl, h⟩ := h
  simp only [evIt] at h
  refine ⟨g, τ, S, rl, sl, h.bnd.mono fun v H1 ⟨g1, S1, t1, w1, rl1, r1, h1⟩ => ?_⟩
  have K := G.pub.K
  split at h1
  · obtain ⟨a, vs, rfl, f, q⟩ := sq_items r1 (by assumption)
    exact ⟨a, vs, rfl, K ▸ f.sq, K ▸ h1.fin rl1 (it_enum f q)⟩
  · exact h1.elim
theorem i_zip (G : Good fx cx nm c X W) {e e2 : E} {y : Str} {p pos tpos : Pos} {x x2 : Expr} {elts : List Expr} {kk : Nat} (hg : c.gl y = true) (hy : y = ("zip" : Str)) (hx : okX x = true) (hx2 : okX x2 = true) (he : PE X x (rd fx W (ev cx e))) (he2 : PE X x2 (rd fx W (ev cx e2))) :
    PI X (.Tuple elts kk tpos) (.Call (.Name y p) [x, x2] [] pos) (rdI fx W (evIt cx (.zip e e2))) := by
  obtain ⟨g1, g2, g3⟩ := G.gl hg
  subst hy
  refine (RZ.pi_zipA g1 (G.bl (by decide)) (pa_cons he (pa_cons he2 pa_nil (ok_star hx2 _ _)) (ok_star hx _ _)) (ok_star hx _ _) (by rw [ok_star hx2]; rfl)).imp fun σ H R h => ?_
  obtain ⟨g, τ, S, rl, sl, h⟩ := h
  simp only [evIt] at h
  refine ⟨g, τ, S, rl, sl, h.bnd.mono fun v H1 ⟨g1, S1, t1, w1, rl1, r1, h1⟩ => ?_⟩
  refine ⟨g1, τ, S1, rl1, sl.grow w1, h1.bnd.mono fun v2 H2 ⟨g2, S2, t2, w2, rl2, r2, h2⟩ => ?_⟩
  have K := G.pub.K
  split at h2
  · obtain ⟨a, vs, rfl, f, q⟩ := sq_items (r1.grow w2) (by assumption)
    obtain ⟨b, us, rfl, f2, q2⟩ := sq_items r2 (by assumption)
    exact ⟨a, b, vs, us, rfl, .inl ⟨K ▸ f.sq, K ▸ f2.sq, K ▸ h2.fin rl2 (it_zip f q f2 q2)⟩⟩
  · exact h2.elim
theorem i_rvs (G : Good fx cx nm c X W) {e : E} {y : Str} {p pos : Pos} {x : Expr} (hg : c.gl y = true) (hy : y = ("reversed" : Str)) (hx : okX x = true) (he : PE X x (rd fx W (ev cx e))) :
    PI X tg (.Call (.Name y p) [x] [] pos) (rdI fx W (evIt cx (.rvs e))) := by
  obtain ⟨g1, g2, g3⟩ := G.gl hg
  subst hy
  refine (RT.pi_revA g1 (G.bl (by decide)) he (ok_star hx _ _)).imp fun σ H R h => ?_
  obtain ⟨g, τ, S, rl, sl, h⟩ := h
  simp only [evIt] at h
  refine ⟨g, τ, S, rl, sl, h.bnd.mono fun v H1 ⟨g1, S1, t1, w1, rl1, r1, h1⟩ => ?_⟩
  have K := G.pub.K
  split at h1
  · obtain ⟨a, vs, rfl, f, q⟩ := sq_items r1 (by assumption)
    exact ⟨a, vs, rfl, .inl ⟨K ▸ f.sq, K ▸ h1.fin rl1 (it_rev f q)⟩⟩
  · exact h1.elim
theorem i_rvr1 (G : Good fx cx nm c X W) {e1 : E} {y z : Str} {p pos p2 pos2 : Pos} {a : Expr} (hg : c.gl y = true) (hy : y = ("reversed" : Str)) (hgz : c.gl z = true) (hz : z = ("range" : Str)) (m1 : mE nm ts e1 c a = true) (pa : PE X a (rd fx W (ev cx e1))) :
    PI X tg (.Call (.Name y p) [.Call (.Name z p2) [a] [] pos2] [] pos) (rdI fx W (evIt cx (.rvr (.cons e1 .nil)))) := by
  obtain ⟨g1, g2, g3⟩ := G.gl hg
  obtain ⟨k1, k2, k3⟩ := G.gl hgz
  subst hy hz
  have hb : X.mg ("range" : Str) = none := G.bl (by decide)
  refine (pi_revR g1 (G.bl (by decide)) (prg_1 k1 hb pa (ok_star (mE_okX _ _ _ m1) _ _))).imp fun σ H R h => ?_
  obtain ⟨g, τ, S, rl, sl, h⟩ := h
  simp only [evIt, evs] at h
  refine ⟨g, τ, S, rl, sl, ?_⟩
  cases he : ev cx e1 τ S with
  | bad => rw [he] at h; exact h.elim
  | exc cc p S' => rw [he] at h; exact h
  | ok t S1 =>
    rw [he] at h
    simp only [bnd_ok] at h
    intro g' v H' w rl' r'
    split at h
    · rename_i lo n e1
      rcases rng_vals (RepTs.cons r' .nil) e1 with ⟨j, e2, q, rfl, rfl⟩ | ⟨i, j, e2, q, rfl, rfl⟩
      · cases e2
        refine ⟨j, rfl, by decide, by decide, q.1, q.2, ?_⟩
        have := h g' _ H' w rl' (it_rngR 0 j.toNat)
        simpa using this
      · cases e2
    · exact h.elim
theorem i_rvr2 (G : Good fx cx nm c X W) {e1 e2 : E} {y z : Str} {p pos p2 pos2 : Pos} {a b : Expr} (hg : c.gl y = true) (hy : y = ("reversed" : Str)) (hgz : c.gl z = true) (hz : z = ("range" : Str)) (m1 : mE nm ts e1 c a = true) (m2 : mE nm ts e2 c b = true)
    (pa : PE X a (rd fx W (ev cx e1))) (pb : PE X b (rd fx W (ev cx e2))) : PI X tg (.Call (.Name y p) [.Call (.Name z p2) [a, b] [] pos2] [] pos) (rdI fx W (evIt cx (.rvr (.cons e1 (.cons e2 .nil))))) := by
  obtain ⟨g1, g2, g3⟩ := G.gl hg
  obtain ⟨k1, k2, k3⟩ := G.gl hgz
  subst hy hz
  have hb : X.mg ("range" : Str) = none := G.bl (by decide)
  have sb := ok_star (mE_okX _ _ _ m2) [] X.env
  refine (pi_revR g1 (G.bl (by decide)) (prg_2 k1 hb pa pb (ok_star (mE_okX _ _ _ m1) _ _) sb (by rw [sb]; rfl))).imp fun σ H R h => ?_
  obtain ⟨g, τ, S, rl, sl, h⟩ := h
  simp only [evIt, evs] at h
  refine ⟨g, τ, S, rl, sl, ?_⟩
  cases he : ev cx e1 τ S with
  | bad => rw [he] at h; exact h.elim
  | exc cc p S' => rw [he] at h; exact h
  | ok t S1 =>
    rw [he] at h
    simp only [bnd_ok] at h
    intro g' v H' w rl' r'
    refine ⟨g', τ, S1, rl', sl.grow w, ?_⟩
    cases he2 : ev cx e2 τ S1 with
    | bad => rw [he2] at h; exact h.elim
    | exc cc p S' => rw [he2] at h; exact fun g2 cls d H2 w2 rl2 r2 => h g2 cls d H2 (w.trans w2) rl2 r2
    | ok t2 S2 =>
      rw [he2] at h
      simp only [bnd_ok] at h
      intro g2 v2 H2 w2 rl2 r2
      split at h
      · rename_i lo n e1
        rcases rng_vals (RepTs.cons (r'.grow w2) (.cons r2 .nil)) e1 with ⟨j, e3, q, rfl, rfl⟩ | ⟨i, j, e3, q, rfl, rfl⟩
        · cases e3
        · cases e3
          exact ⟨_, _, rfl, rfl, q.1, q.2.1, q.2.2.1, q.2.2.2, h g2 _ H2 (w.trans w2) rl2 (it_rngR _ _)⟩
      · exact h.elim
end
end Mn
set_option Elab.async false
set_option linter.all false
set_option maxRecDepth 100000
set_option maxHeartbeats 4000000
/-! Mn14: targets, comprehensions. -/
namespace Mn
open PySem PySem.Spec PyProof.Rows PySem.SeqAt
open L2 hiding ixN atI Takes XE CX takes_of passes_call passAt
open L2N (Takes XE CX takes_of)

/-! ### slots forgotten -/
theorem wipe_get (σ : L2.St) (i : Nat) : ∀ vs : List Nat, (wipe σ vs)[i]? = if i ∈ vs ∧ i < σ.length then some none else σ[i]?
  | [] => by simp [wipe]
  | v :: vs => by
    have ih := wipe_get σ i vs
    have hl := wipe_length σ vs
    show ((wipe σ vs).set v none)[i]? = _
    by_cases h : v = i
    · subst h
      by_cases h2 : v < σ.length
      · rw [List.getElem?_set_self (by rw [hl]; exact h2), if_pos ⟨List.mem_cons_self, h2⟩]
      · rw [List.getElem?_eq_none (by rw [List.length_set, hl]; omega), if_neg (fun z => h2 z.2), List.getElem?_eq_none (by omega)]
    · rw [List.getElem?_set_ne h, ih]
      have : (i ∈ v :: vs) ↔ i ∈ vs := by
        rw [List.mem_cons]
        exact ⟨fun z => z.resolve_left (Ne.symm h), .inr⟩
      simp only [this]
/-- but for the places vs -/
structure Same (vs : List Nat) (σ σ' : L2.St) : Prop where
  len : σ'.length = σ.length
  at_ : ∀ i, i ∉ vs → σ'[i]? = σ[i]?
theorem Same.wipe {vs : List Nat} {σ σ' : L2.St} (h : Same vs σ σ') : L2.wipe σ' vs = L2.wipe σ vs := by
  refine List.ext_getElem? fun i => ?_
  rw [wipe_get, wipe_get, h.len]
  split
  · rfl
  · rename_i n
    by_cases hi : i ∈ vs
    · have hl : ¬ i < σ.length := fun z => n ⟨hi, z⟩
      rw [List.getElem?_eq_none (by rw [h.len]; omega), List.getElem?_eq_none (by omega)]
    · exact h.at_ i hi
theorem wipe_wipe (σ : L2.St) (vs : List Nat) : L2.wipe (L2.wipe σ vs) vs = L2.wipe σ vs :=
  Same.wipe ⟨wipe_length σ vs, fun i hi => by rw [wipe_get, if_neg fun z => hi z.1]⟩
theorem Same.set {i : Nat} {σ : L2.St} {v : V} : Same [i] σ (σ.set i (some v)) := ⟨by simp, fun j hj => List.getElem?_set_ne (fun e => hj (by simp [e]))⟩
theorem Same.trans {us vs : List Nat} {σ σ1 σ2 : L2.St} (a : Same us σ σ1) (b : Same vs σ1 σ2) : Same (us ++ vs) σ σ2 :=
  ⟨b.len.trans a.len, fun i hi => by
    simp only [List.mem_append, not_or] at hi
    rw [b.at_ i hi.2, a.at_ i hi.1]⟩
theorem clrs_some {τ : Sl} {i : Nat} {t : T} : ∀ {vs : List Nat}, (clrs vs τ)[i]? = some (some t) → τ[i]? = some (some t) ∧ i ∉ vs
  | [], h => ⟨h, by simp⟩
  | v :: vs, h => by
    have h' : ((clrs vs τ).set v none)[i]? = some (some t) := h
    by_cases hi : v = i
    · subst hi
      by_cases hv : v < (clrs vs τ).length
      · rw [List.getElem?_set_self hv] at h'; cases h'
      · rw [List.getElem?_eq_none (by simpa using hv)] at h'; cases h'
    · rw [List.getElem?_set_ne hi] at h'
      obtain ⟨h1, h2⟩ := clrs_some h'
      exact ⟨h1, by simp only [List.mem_cons, not_or]; exact ⟨fun e => hi e.symm, h2⟩⟩
theorem clrs_len (τ : Sl) : ∀ vs : List Nat, (clrs vs τ).length = τ.length
  | [] => rfl
  | v :: vs => by
    show ((clrs vs τ).set v none).length = _
    rw [List.length_set, clrs_len τ vs]
theorem Slots.wipe {fx : Fx} {g : Gh} {H : Hp} {τ : Sl} {σ : L2.St} (s : Slots fx g H τ σ) (vs : List Nat) : Slots fx g H (clrs vs τ) (L2.wipe σ vs) :=
  ⟨by rw [clrs_len, wipe_length]; exact s.le, fun i t e => by
    obtain ⟨h1, h2⟩ := clrs_some e
    obtain ⟨v, e1, r⟩ := s.at_ i t h1
    exact ⟨v, by rw [wipe_get, if_neg fun z => h2 z.1]; exact e1, r⟩⟩

/-! ### targets -/
def rdTg (fx : Fx) (tg : Tg) : TG := fun v σ H Q => ∃ g τ S t τ', Rel fx g S H ∧ Slots fx g H τ σ ∧ RepT fx g H v t ∧ asg tg t τ = some τ' ∧ ∀ σ', Slots fx g H τ' σ' → Same (tgv tg) σ σ' → Q σ' H
def rdTgs (fx : Fx) (gs : Tgs) : TGs := fun vs σ H Q => ∃ g τ S tl τ', Rel fx g S H ∧ Slots fx g H τ σ ∧ RepTs fx g H vs tl ∧ asgs gs tl τ = some τ' ∧ ∀ σ', Slots fx g H τ' σ' → Same (tgvs gs) σ σ' → Q σ' H
theorem _root_.L2.PG.imp {X : Cx} {e : Expr} {t t' : TG} (h : PG X e t) (i : ∀ v σ H Q, t' v σ H Q → t v σ H Q) : PG X e t' := ⟨fun pins s σ H v u Q I r q => h.run pins s σ H v u Q I r (i v σ H Q q)⟩
theorem _root_.L2.PGs.imp {X : Cx} {e : List Expr} {t t' : TGs} (h : PGs X e t) (i : ∀ v σ H Q, t' v σ H Q → t v σ H Q) : PGs X e t' := ⟨fun pins s σ H v u Q I r q => h.run pins s σ H v u Q I r (i v σ H Q q)⟩
theorem mTg_star {c : SC} {t : Tg} {x : Expr} (h : mTg c t x = true) (xs : List Expr) (env : Env) : assignEach (x :: xs) env = (false, assign x env) :: assignEach xs env := by
  cases t with
  | v i =>
    unfold mTg at h
    split at h
    · rfl
    · cases h
  | t gs =>
    unfold mTg at h
    split at h
    · rfl
    · cases h
theorem mTgs_each {c : SC} {env : Env} : ∀ (gs : Tgs) (xs : List Expr), mTgs c gs xs = true → assignEach xs env = xs.map fun x => (false, assign x env)
  | .nil, xs, h => by
    unfold mTgs at h
    cases xs with
    | nil => rfl
    | cons x xs => cases h
  | .cons t gs, xs, h => by
    unfold mTgs at h
    cases xs with
    | nil => cases h
    | cons x xs =>
      simp only [Bool.and_eq_true] at h
      rw [mTg_star h.1, mTgs_each gs xs h.2]
      rfl
theorem asgs_len {c : SC} : ∀ (gs : Tgs) (xs : List Expr) (tl : List T) (τ τ' : Sl), mTgs c gs xs = true → asgs gs tl τ = some τ' → tl.length = xs.length
  | .nil, xs, tl, τ, τ', h, e => by
    unfold mTgs at h
    cases xs with
    | cons x xs => cases h
    | nil =>
      cases tl with
      | nil => rfl
      | cons t tl => simp [asgs] at e
  | .cons t gs, xs, tl, τ, τ', h, e => by
    unfold mTgs at h
    cases xs with
    | nil => cases h
    | cons x xs =>
      simp only [Bool.and_eq_true] at h
      cases tl with
      | nil => simp [asgs] at e
      | cons t' tl =>
        simp only [asgs] at e
        split at e
        · simp [asgs_len gs xs tl _ _ h.2 e]
        · cases e
section
variable {fx : Fx} {cx : Cxx} {nm : Nm} {c : SC} {X : Cx} {W : WX} {ts : List Nat}
mutual
theorem sG (G : Good fx cx nm c X W) : ∀ (t : Tg) (x : Expr), mTg c t x = true → PG X x (rdTg fx t)
  | .v i, x, h => by
    unfold mTg at h
    split at h
    · obtain ⟨h1, h2, h3⟩ := G.loc h
      refine (pg_name G.hN h1 h2 h3).imp fun v σ H Q q => ?_
      obtain ⟨g, τ, S, t, τ', rl, sl, r, e, q⟩ := q
      simp only [asg] at e
      cases e
      exact q _ (sl.set i r) Same.set
    · cases h
  | .t gs, x, h => by
    unfold mTg at h
    split at h
    · rename_i xs _ _
      simp only [Bool.and_eq_true] at h
      obtain ⟨hc, h⟩ := h
      have hs := mTgs_each (env := X.env) gs xs h
      have ih := sGs G gs xs h
      refine (pg_tup (n := xs.length) (G.cm hc).1 ih (by rw [hs]; simp) (by rw [hs]; simp)).imp fun v σ H Q q => ?_
      obtain ⟨g, τ, S, t, τ', rl, sl, r, e, q⟩ := q
      simp only [asg] at e
      split at e
      · rename_i tl e1
        have hl := asgs_len gs xs tl τ τ' h e
        unfold parts at e1
        split at e1
        · cases e1
          obtain ⟨a, vs, rfl, f, rs⟩ := rt_tup r
          have rr := RepTs.ofDs (g := g) rs
          exact ⟨a, vs, rfl, G.pub.K ▸ f.sq, by rw [rr.length]; exact hl, g, τ, S, _, τ', rl, sl, rr, e, q⟩
        · cases e1
          cases r with
          | tup f rs => exact ⟨_, _, rfl, G.pub.K ▸ f.sq, by rw [rs.length]; exact hl, g, τ, S, _, τ', rl, sl, rs, e, q⟩
        · cases e1
      · cases e
    · cases h
theorem sGs (G : Good fx cx nm c X W) : ∀ (gs : Tgs) (xs : List Expr), mTgs c gs xs = true → PGs X xs (rdTgs fx gs)
  | .nil, xs, h => by
    unfold mTgs at h
    cases xs with
    | cons x xs => cases h
    | nil =>
      refine pgs_nil.imp fun v σ H Q q => ?_
      obtain ⟨g, τ, S, tl, τ', rl, sl, r, e, q⟩ := q
      cases tl with
      | cons t tl => simp [asgs] at e
      | nil =>
        simp only [asgs] at e
        cases e
        cases r
        exact ⟨rfl, q σ sl ⟨rfl, fun _ _ => rfl⟩⟩
  | .cons t gs, xs, h => by
    unfold mTgs at h
    cases xs with
    | nil => cases h
    | cons x xs =>
      simp only [Bool.and_eq_true] at h
      have i1 := sG G t x h.1
      have i2 := sGs G gs xs h.2
      refine (pgs_cons i1 i2 (by rw [mTg_star h.1]; rfl)).imp fun v σ H Q q => ?_
      obtain ⟨g, τ, S, tl, τ', rl, sl, r, e, q⟩ := q
      cases tl with
      | nil => simp [asgs] at e
      | cons u tl =>
        simp only [asgs] at e
        split at e
        · rename_i τ1 e1
          cases r with
          | cons r rs =>
            refine ⟨_, _, rfl, g, τ, S, u, τ1, rl, sl, r, e1, fun σ1 s1 m1 => ?_⟩
            exact ⟨g, τ1, S, tl, τ', rl, s1, rs, e, fun σ2 s2 m2 => q σ2 s2 (m1.trans m2)⟩
        · cases e
end
/-! ### the block -/
def WF : WX := fun _ _ _ _ => False
theorem Pub.blk (P : Pub fx cx nm X) (s : Shared) (H : Hp) (scope : Scope) (env : Env) (fp : List Addr) : Pub fx cx nm (X.blk s H scope env fp) :=
  ⟨P.K, P.un, P.bl, P.kit, P.glo, fun h => let T := P.tb h; ⟨T.cal, T.dis, T.new, T.newk, T.up, T.new0, T.rx⟩, P.ex, P.cls, P.hot⟩
theorem Good.blk (G : Good fx cx nm c X W) (hc : c.calm = true) (s : Shared) (H : Hp) (scope : Scope) (cl : List (Str × Addr)) (C : Addr) (fp : List Addr) : Good fx cx nm (c.blk scope) (X.blk s H scope (compEnvC scope cl C X.env) fp) WF := by
  refine ⟨G.pub.blk _ _ _ _ _, G.N, G.nd, ?_, rfl, fun u s' z => ?_, G.cm, (fun a k d h => by rw [(G.cm hc).2] at h; cases h), (fun a k d h => by rw [(G.cm hc).2] at h; cases h), (fun h => by have h : c.calm = false := h; rw [hc] at h; cases h)⟩
  · show relS scope X.env.scope = relS scope c.sc
    rw [G.sc]
  · obtain ⟨_, _, _, _, _, _, _, _, _, _, _, _, _, _, _, _, w⟩ := z
    exact w.elim
theorem _root_.L2.PTs.imp {X : Cx} {e : List Expr} {t t' : TT} (h : PTs X e t) (i : ∀ σ H Q, t' σ H Q → t σ H Q) : PTs X e t' := ⟨fun pins s σ H Q I q => h.run pins s σ H Q I (i σ H Q q)⟩
theorem rd_yes {σ : L2.St} {H : Hp} {Q : Bool → Hp → Prop} (h : rdB fx W (evAll cx .nil) σ H Q) : tYes σ H Q := by
  obtain ⟨g, τ, S, rl, sl, h⟩ := h
  simp only [evAll] at h
  exact h.fin rl rfl
theorem rd_all1 {e : E} {σ : L2.St} {H : Hp} {Q : Bool → Hp → Prop} (h : rdB fx W (evAll cx (.cons e .nil)) σ H Q) : rdB fx W (fun τ S => (ev cx e τ S).bnd toB) σ H Q := by
  obtain ⟨g, τ, S, rl, sl, h⟩ := h
  refine ⟨g, τ, S, rl, sl, ?_⟩
  have e2 : evAll cx (.cons e .nil) τ S = (ev cx e τ S).bnd toB := by
    simp only [evAll]
    cases ev cx e τ S with
    | ok t S1 =>
      cases t with
      | d d => cases d <;> rfl
      | _ => rfl
    | _ => rfl
  rw [e2] at h
  exact h
/-! ### a private object -/
theorem Rel.but {g : Gh} {S : Store} {H H0 : Hp} {p : Addr} {P' : Addr → Prop} (r : Rel fx g S H) (hk : g.P p) (e : ∀ a, a ≠ p → H0 a = H a) (hP : ∀ a, P' a → g.P a ∧ a ≠ p) : Rel fx (g.setPv P') S H0 := by
  obtain ⟨p1, p2, p3, p4⟩ := r.pv p hk
  have nF : ∀ a, g.F a → a ≠ p := fun a h z => p3 (z ▸ h)
  have hkeep : ∀ a o', g.F a → H a = some o' → H0 a = some o' := fun a u h e' => by rw [e a (nF a h)]; exact e'
  have cell : ∀ {a : Addr} {c : Cell}, a ≠ p → CellAt fx g H a c → CellAt fx (g.setPv P') H0 a c := fun {a c} na h => by
    have e0 : H0 a = H a := e a na
    cases c with
    | dead => exact fun z => h (e0.symm.trans z)
    | lst ds => obtain ⟨vs, e', q⟩ := h; exact ⟨vs, e0.trans e', q.mono (fun _ h => h) hkeep fun _ _ z => z⟩
    | dct ks ds => obtain ⟨vs, e', l, q⟩ := h; exact ⟨vs, e0.trans e', l, q.mono (fun _ h => h) hkeep fun _ _ z => z⟩
    | obj c fs => obtain ⟨dx, fvs, vs, e', c1, f, q⟩ := h; exact ⟨dx, fvs, vs, e0.trans e', c1, f, q.mono (fun _ h => h) hkeep fun _ _ z => z⟩
  have nL : ∀ (k : Nat) (a : Addr), g.as[k]? = some a → a ≠ p := fun k a h z => p1 (z ▸ mem_of_get h)
  have nG : ∀ (k : Nat) (a : Addr), g.bs[k]? = some a → a ≠ p := fun k a h z => p2 (z ▸ mem_of_get h)
  refine ⟨r.lL, r.lG, fun k a c h1 h2 => cell (nL k a h1) (r.cL k a c h1 h2), fun k a c h1 h2 => cell (nG k a h1) (r.cG k a c h1 h2), r.nd, r.nF, r.nG, fun a h => ?_, fun a h => ?_⟩
  · rw [e a (nF a h)]; exact r.fs a h
  · obtain ⟨h1, h2⟩ := hP a h
    obtain ⟨q1, q2, q3, q4⟩ := r.pv a h1
    exact ⟨q1, q2, q3, by rw [e a h2]; exact q4⟩
/-- the heap without one object -/
def wo (H : Hp) (p : Addr) : Hp := fun a => if a = p then none else H a
theorem wo_same (H : Hp) (p : Addr) : wo H p p = none := if_pos rfl
theorem wo_ne {H : Hp} {p a : Addr} (h : a ≠ p) : wo H p a = H a := if_neg h
theorem wo_upd {H : Hp} {p : Addr} {o : HO} (h : H p = some o) : upd (wo H p) p o = H := by
  funext a
  by_cases e : a = p
  · subst e; rw [upd_same, h]
  · rw [upd_ne e, wo_ne e]
theorem Grow.but {g g' : Gh} {H H' : Hp} {p : Addr} (w : Grow g (g'.setPv g.P) H H') (hp : H p = none) : Grow g (g'.setPv g.P) H (wo H' p) := by
  refine ⟨w.F, fun a o h e => ?_, w.P, fun a o h e => ?_, w.as, w.bs⟩
  · rw [wo_ne (ne_of_none e hp)]; exact w.keep a o h e
  · rw [wo_ne (ne_of_none e hp)]; exact w.kP a o h e
/-- one round -/
def rnd (cx : Cxx) (tg : Tg) (ifs : Es) (elt : E) (τ : Sl) : D → Store → R (Option T) := fun x S => match asg tg (.d x) (clrs (tgv tg) τ) with
  | some σ' => (evAll cx ifs σ' S).bnd fun b S2 => if b then (ev cx elt σ' S2).bnd fun y S3 => .ok (some y) S3 else .ok none S2
  | none => .bad
theorem rnd_ok {tg : Tg} {ifs : Es} {elt : E} {τ : Sl} {x : D} {S S' : Store} {o : Option T} (h : rnd cx tg ifs elt τ x S = .ok o S') :
    ∃ τ' b S2, asg tg (.d x) (clrs (tgv tg) τ) = some τ' ∧ evAll cx ifs τ' S = .ok b S2 ∧ ((b = true ∧ ∃ y, ev cx elt τ' S2 = .ok y S' ∧ o = some y) ∨ (b = false ∧ o = none ∧ S2 = S')) := by
  unfold rnd at h
  split at h
  · rename_i τ' e
    refine ⟨τ', ?_⟩
    cases e1 : evAll cx ifs τ' S with
    | bad => rw [e1] at h; cases h
    | exc c p S2 => rw [e1] at h; cases h
    | ok b S2 =>
      rw [e1] at h
      simp only [bnd_ok] at h
      refine ⟨b, S2, e, rfl, ?_⟩
      cases b with
      | false =>
        simp only [Bool.false_eq_true, if_false] at h
        cases h
        exact .inr ⟨rfl, rfl, rfl⟩
      | true =>
        simp only [if_true] at h
        cases e2 : ev cx elt τ' S2 with
        | bad => rw [e2] at h; cases h
        | exc c p S3 => rw [e2] at h; cases h
        | ok y S3 =>
          rw [e2] at h
          simp only [bnd_ok] at h
          cases h
          exact .inl ⟨rfl, y, rfl, rfl⟩
  · cases h
theorem compL_cons {f : D → Store → R (Option T)} {x : D} {xs : List D} {S S' : Store} {ys : List T} (h : compL f (x :: xs) S = .ok ys S') : ∃ o S1 zs, f x S = .ok o S1 ∧ compL f xs S1 = .ok zs S' ∧ ys = o.toList ++ zs := by
  simp only [compL] at h
  cases e1 : f x S with
  | bad => rw [e1] at h; cases h
  | exc c p S2 => rw [e1] at h; cases h
  | ok o S1 =>
    rw [e1] at h
    simp only [bnd_ok] at h
    cases e2 : compL f xs S1 with
    | bad => rw [e2] at h; cases h
    | exc c p S2 => rw [e2] at h; cases h
    | ok zs S2 =>
      rw [e2] at h
      simp only [bnd_ok] at h
      cases h
      refine ⟨o, S1, zs, rfl, e2, ?_⟩
      cases o <;> rfl
theorem clear_P {g : Gh} {D : Addr} {H : Hp} {S : Store} (rl : Rel fx g S H) (h : H D = none) : ¬ g.P D := fun z => (rl.pv D z).2.2.2 h
/-- the comprehension's reading -/
theorem lc_read {md : Bool} {tg : Tg} {it : It} {ifs : Es} {elt : E} {σ : L2.St} {H : Hp} {Q : VK} (h : rd fx W (ev cx (.comp md tg it ifs elt)) σ H Q) :
    tLc (rdI fx W (evIt cx it)) (rdTg fx tg) (rdB fx WF (evAll cx ifs)) (rd fx WF (ev cx elt)) (tgv tg) σ H Q := by
  obtain ⟨g, τ, S, rl, sl, h⟩ := h
  have e0 : ev cx (.comp md tg it ifs elt) τ S = (evIt cx it τ S).bnd fun xs S1 => (unexc (compL (rnd cx tg ifs elt τ) xs S1)).bnd (mkLst md) := by
    simp only [ev]
    rfl
  rw [e0] at h
  refine ⟨g, τ, S, rl, sl, h.bnd.mono fun J H1 ⟨g1, S1, xs, w1, rl1, hJ, h1⟩ => ?_⟩
  have sl1 := sl.grow w1
  -- the whole comes to an end
  obtain ⟨ys, Sf, ec, h2⟩ : ∃ ys Sf, compL (rnd cx tg ifs elt τ) xs S1 = .ok ys Sf ∧ Run fx g1 H1 (mkLst md ys Sf) Q (fun c d H' => W c d σ H') := by
    cases ec : compL (rnd cx tg ifs elt τ) xs S1 with
    | bad => rw [ec] at h1; exact h1.elim
    | exc c p S2 => rw [ec] at h1; exact h1.elim
    | ok ys Sf => rw [ec] at h1; exact ⟨ys, Sf, rfl, h1⟩
  have hys : ys.length ≤ 100000 := by
    unfold mkLst at h2
    split at h2
    · rename_i ds e
      unfold mkL at h2
      split at h2
      · rename_i hz
        have : ∀ (ts : List T) (ds : List D), unDs ts = some ds → ts.length = ds.length := by
          intro ts
          induction ts with
          | nil => intro ds e; cases e; rfl
          | cons t ts ih =>
            intro ds e
            cases t with
            | d x =>
              simp only [unDs] at e
              split at e
              · rename_i e2
                cases e
                simp [ih _ e2]
              · cases e
            | _ => simp [unDs] at e
        rw [this _ _ e]
        exact hz
      · exact h2.elim
    · split at h2
      · exact h2.elim
      · rename_i hz
        simp only [Bool.or_eq_true, Bool.not_eq_true', decide_eq_false_iff_not, not_or, Decidable.not_not] at hz
        exact hz.2
  intro D hD
  have hPD := clear_P rl1 hD
  have nP1 : ∀ a, g1.P a → a ≠ D := fun a z q => hPD (by rw [← q]; exact z)
  -- the ghost with D within
  have ne0 : ∀ a, H1 a ≠ none → a ≠ D := fun a h z => h (z ▸ hD)
  have rlF := rl1.newF (o := .lst []) hD
  have P1 : ∀ a, (g1.P a ∨ a = D) → a ∉ g1.as ∧ a ∉ g1.bs ∧ ¬ g1.F a ∧ upd H1 D (.lst []) a ≠ none := fun a z => by
    rcases z with z | rfl
    · obtain ⟨q1, q2, q3, q4⟩ := rl1.pv a z
      exact ⟨q1, q2, q3, by rw [upd_ne (ne0 a q4)]; exact q4⟩
    · exact ⟨fun z => ne0 _ (rl1.asSome z) rfl, fun z => ne0 _ (rl1.bsSome z) rfl, fun z => rl1.fs _ z hD, by rw [upd_same]; simp⟩
  have rlp : Rel fx (g1.setPv fun a => g1.P a ∨ a = D) S1 (upd H1 D (.lst [])) := by
    have k1 : ∀ a o', g1.F a → H1 a = some o' → upd H1 D (.lst []) a = some o' := fun a u h e => by rw [upd_ne (ne_of_none e hD)]; exact e
    have cell : ∀ {a : Addr} {c : Cell}, a ≠ D → CellAt fx g1 H1 a c → CellAt fx (g1.setPv fun a => g1.P a ∨ a = D) (upd H1 D (.lst [])) a c := fun {a c} na h => by
      have e0 : upd H1 D (.lst []) a = H1 a := upd_ne na
      cases c with
      | dead => exact fun z => h (e0.symm.trans z)
      | lst ds => obtain ⟨vs, e', q⟩ := h; exact ⟨vs, e0.trans e', q.mono (fun _ h => h) k1 fun _ _ z => z⟩
      | dct ks ds => obtain ⟨vs, e', l, q⟩ := h; exact ⟨vs, e0.trans e', l, q.mono (fun _ h => h) k1 fun _ _ z => z⟩
      | obj c fs => obtain ⟨dx, fvs, vs, e', c1, f, q⟩ := h; exact ⟨dx, fvs, vs, e0.trans e', c1, f, q.mono (fun _ h => h) k1 fun _ _ z => z⟩
    exact ⟨rl1.lL, rl1.lG, fun k a c e1 e2 => cell (ne0 a (rl1.cL k a c e1 e2).some) (rl1.cL k a c e1 e2), fun k a c e1 e2 => cell (ne0 a (rl1.cG k a c e1 e2).some) (rl1.cG k a c e1 e2), rl1.nd, rl1.nF, rl1.nG,
      fun a z => by rw [upd_ne (ne0 a (rl1.fs a z))]; exact rl1.fs a z, P1⟩
  have wp : Grow g1 ((g1.setPv fun a => g1.P a ∨ a = D).setPv g1.P) H1 (upd H1 D (.lst [])) :=
    ⟨fun _ z => z, fun a o _ e => by rw [upd_ne (ne_of_none e hD)]; exact e, rfl, fun a o _ e => by rw [upd_ne (ne_of_none e hD)]; exact e, fun _ _ z => z, fun _ _ z => z⟩
  refine ⟨fun i m H' => m = xs.length - i ∧ i ≤ xs.length ∧ ∃ g' S' ya yb acc, g'.P = (fun a => g1.P a ∨ a = D) ∧ Rel fx g' S' H' ∧ Grow g1 (g'.setPv g1.P) H1 H' ∧ H' D = some (.lst acc) ∧ RepTs fx g' H' acc ya ∧
    ys = ya ++ yb ∧ compL (rnd cx tg ifs elt τ) (xs.drop i) S' = .ok yb Sf, ⟨xs.length, by simp, Nat.zero_le _, _, S1, [], ys, [], rfl, rlp, wp, upd_same, .nil, rfl, by rw [List.drop_zero]; exact ec⟩, ?_⟩
  rintro i m H2 ⟨rfl, hi, g2, S2, ya, yb, acc, eP, rl2, w2, hacc, racc, eys, ec2⟩
  have kf : KeepF g1 g2 H1 H2 := ⟨w2.F, w2.keep, w2.bs⟩
  obtain ⟨jgo, jstop, jyld⟩ := hJ g2 H2 S2 kf rl2
  have gD : g2.P D := by rw [eP]; exact .inr rfl
  by_cases hlt : i < xs.length
  · refine .inr ⟨jgo i hlt, fun H' => ∃ g' S' ya yb acc, g'.P = (fun a => g1.P a ∨ a = D) ∧ Rel fx g' S' H' ∧ Grow g1 (g'.setPv g1.P) H1 H' ∧ H' D = some (.lst acc) ∧ RepTs fx g' H' acc ya ∧
      ys = ya ++ yb ∧ compL (rnd cx tg ifs elt τ) (xs.drop (i + 1)) S' = .ok yb Sf, fun H' p => ⟨xs.length - (i + 1), by omega, rfl, hlt, p⟩, fun x H3 y => ?_⟩
    have ed : xs.drop i = xs[i] :: xs.drop (i + 1) := List.drop_eq_getElem_cons hlt
    rw [ed] at ec2
    obtain ⟨o, S4, zs, e1, e2, e3⟩ := compL_cons ec2
    obtain ⟨τ', b, S3, a1, a2, a3⟩ := rnd_ok e1
    obtain ⟨g3, w3, rl3, rx⟩ := jyld i x H3 y xs[i] (List.getElem?_eq_getElem hlt)
    have sl3 : Slots fx g3 H3 τ σ := by
      have z : Slots fx (g2.setPv g1.P) H2 τ σ := sl1.grow w2
      have z2 : Slots fx g2 H2 τ σ := ⟨z.le, fun j t e => let ⟨v, q1, q2⟩ := z.at_ j t e; ⟨v, q1, q2.pv (P := g2.P)⟩⟩
      exact z2.grow w3
    refine ⟨g3, clrs (tgv tg) τ, S2, .d xs[i], τ', rl3, sl3.wipe _, .d rx, a1, fun σ3 sl4 sm => ⟨?_, ?_⟩⟩
    · rw [sm.wipe, wipe_wipe]
    refine ⟨g3, τ', S2, rl3, sl4, ?_⟩
    rw [a2]
    intro g5 b' H5 w5 rl5 eb
    have eb : b' = b := eb
    subst eb
    have gP5 : g5.P = (fun a => g1.P a ∨ a = D) := by rw [w5.P, w3.P, eP]
    have w25 := w3.trans w5
    have h5D : H5 D = some (.lst acc) := w25.kP D _ gD hacc
    have w15 : Grow g1 (g5.setPv g1.P) H1 H5 := ⟨fun a z => w25.F a (w2.F a z), fun a o z e => w25.keep a o (w2.F a z) (w2.keep a o z e), rfl, fun a o z e => w25.kP a o (by rw [eP]; exact .inl z) (w2.kP a o z e), fun k a z => w25.as k a (w2.as k a z), fun k a z => w25.bs k a (w2.bs k a z)⟩
    rcases a3 with ⟨rfl, t, ev1, rfl⟩ | ⟨rfl, rfl, rfl⟩
    · rw [if_pos rfl]
      refine ⟨g5, τ', S3, rl5, sl4.grow w5, ?_⟩
      rw [ev1]
      intro g6 v H6 w6 rl6 r6
      have w26 := w25.trans w6
      have gP6 : g6.P = (fun a => g1.P a ∨ a = D) := by rw [w6.P, gP5]
      have g6D : g6.P D := by rw [gP6]; exact .inr rfl
      have h6D : H6 D = some (.lst acc) := w26.kP D _ gD hacc
      have la := (racc.grow w26).length
      refine ⟨acc, h6D, ?_, ?_⟩
      · rw [sizeLine_eq, la]
        have : ys.length = ya.length + yb.length := by rw [eys, List.length_append]
        have : yb.length = 1 + zs.length := by rw [e3]; simp [Nat.add_comm]
        omega
      · have rl7 := (rl6.setP (o := .lst (acc ++ [v])) g6D).2
        have k7 := (rl6.setP (o := .lst (acc ++ [v])) g6D).1
        -- readings go over
        have gr : Grow (g6.setPv g1.P) (g6.setPv g1.P) H6 (upd H6 D (.lst (acc ++ [v]))) := ⟨fun _ z => z, k7, rfl, fun a o z e => by rw [upd_ne (nP1 a z)]; exact e, fun _ _ z => z, fun _ _ z => z⟩
        have over : ∀ {vs : List V} {tl : List T}, RepTs fx g6 H6 vs tl → RepTs fx g6 (upd H6 D (.lst (acc ++ [v]))) vs tl := fun q => ((q.pv (P := g1.P)).grow gr).pv (P := g6.P)
        have w16 : Grow g1 (g6.setPv g1.P) H1 H6 := ⟨fun a z => w26.F a (w2.F a z), fun a o z e => w26.keep a o (w2.F a z) (w2.keep a o z e), rfl, fun a o z e => w26.kP a o (by rw [eP]; exact .inl z) (w2.kP a o z e), fun k a z => w26.as k a (w2.as k a z), fun k a z => w26.bs k a (w2.bs k a z)⟩
        refine ⟨g6, S4, ya ++ [t], zs, acc ++ [v], gP6, rl7, w16.trans gr, upd_same, over (RepTs.append (.cons r6 .nil) (racc.grow w26)), ?_, e2⟩
        rw [eys, e3]
        simp
    · rw [if_neg Bool.false_ne_true]
      refine ⟨g5, S3, ya, zs, acc, gP5, rl5, w15, h5D, racc.grow w25, ?_, e2⟩
      rw [eys, e3]
      rfl
  · have hi' : i = xs.length := by omega
    subst hi'
    refine .inl ⟨jstop _ (Nat.le_refl _), ?_⟩
    rw [List.drop_eq_nil_of_le (Nat.le_refl _)] at ec2
    simp only [compL] at ec2
    cases ec2
    rw [List.append_nil] at eys
    subst eys
    -- D is nobody's now
    have rl0 : Rel fx (g2.setPv g1.P) _ (wo H2 D) := rl2.but gD (fun a na => wo_ne na) fun a z => ⟨by rw [eP]; exact .inl z, nP1 a z⟩
    have w0 := w2.but hD
    have racc' : RepTs fx (g2.setPv g1.P) H2 acc ys := racc.pv
    have nF2 : ∀ a, g2.F a → a ≠ D := fun a z q => (rl2.pv D gD).2.2.1 (by rw [← q]; exact z)
    -- what is read stands without D
    have down : ∀ {vs : List V} {tl : List T}, RepTs fx (g2.setPv g1.P) H2 vs tl → RepTs fx (g2.setPv g1.P) (wo H2 D) vs tl := fun q => q.grow ⟨fun _ z => z, fun a o z e => by rw [wo_ne (nF2 a z)]; exact e, rfl, fun a o z e => by rw [wo_ne (nP1 a z)]; exact e, fun _ _ z => z, fun _ _ z => z⟩
    have r0 := down racc'
    unfold mkLst at h2
    split at h2
    · rename_i ds e
      have h3 := (run_mkL (RunG.grow w0 h2) rl0 (r0.unDs e)).2 D (wo_same _ _)
      rw [wo_upd hacc] at h3
      exact h3
    · split at h2
      · exact h2.elim
      · have w4 := grow_new (o := .lst acc) rl0 (wo_same H2 D)
        have h3 := h2 _ _ _ (w0.trans w4) (rl0.newF (wo_same H2 D)) (.lst (.inl ⟨.inr rfl, .inl upd_same⟩) (r0.grow w4))
        rw [wo_upd hacc] at h3
        exact h3
/-- the comprehension's reading -/
theorem lc_readG {md : Bool} {tg : Tg} {e : E} {ifs : Es} {elt : E} {σ : L2.St} {H : Hp} {Q : VK} (h : rd fx W (ev cx (.cmc md tg e ifs elt)) σ H Q) :
    tLc (rdIA fx W (itC cx e)) (rdTg fx tg) (rdB fx WF (evAll cx ifs)) (rd fx WF (ev cx elt)) (tgv tg) σ H Q := by
  obtain ⟨g, τ, S, rl, sl, h⟩ := h
  have e0 : ev cx (.cmc md tg e ifs elt) τ S = (itC cx e τ S).bnd fun p S1 => (unexc (compG (rnd cx tg ifs elt τ) (grd p.1 p.2) p.2 S1)).bnd (mkLst md) := by
    simp only [ev, itC]
    cases ev cx e τ S with
    | ok z S1 =>
      simp only [bnd_ok]
      cases S1.rdL z <;> rfl
    | _ => rfl
  rw [e0] at h
  refine ⟨g, τ, S, rl, sl, h.bnd.mono fun J H1 ⟨g1, S1, p, w1, rl1, hJ, h1⟩ => ?_⟩
  obtain ⟨z, xs⟩ := p
  dsimp only at hJ h1
  have sl1 := sl.grow w1
  -- the whole comes to an end
  obtain ⟨ys, Sf, ec, qf, h2⟩ : ∃ ys Sf, compL (fun x S => if grd z xs S then rnd cx tg ifs elt τ x S else .bad) xs S1 = .ok ys Sf ∧ grd z xs Sf = true ∧ Run fx g1 H1 (mkLst md ys Sf) Q (fun c d H' => W c d σ H') := by
    unfold compG at h1
    cases ec : compL (fun x S => if grd z xs S then rnd cx tg ifs elt τ x S else .bad) xs S1 with
    | bad => rw [ec] at h1; exact h1.elim
    | exc c p S2 => rw [ec] at h1; exact h1.elim
    | ok ys Sf =>
      rw [ec] at h1
      simp only [bnd_ok] at h1
      cases hq : grd z xs Sf with
      | true => rw [hq] at h1; exact ⟨ys, Sf, rfl, hq, h1⟩
      | false => rw [hq] at h1; exact h1.elim
  have hys : ys.length ≤ 100000 := by
    unfold mkLst at h2
    split at h2
    · rename_i ds e
      unfold mkL at h2
      split at h2
      · rename_i hz
        have : ∀ (ts : List T) (ds : List D), unDs ts = some ds → ts.length = ds.length := by
          intro ts
          induction ts with
          | nil => intro ds e; cases e; rfl
          | cons t ts ih =>
            intro ds e
            cases t with
            | d x =>
              simp only [unDs] at e
              split at e
              · rename_i e2
                cases e
                simp [ih _ e2]
              · cases e
            | _ => simp [unDs] at e
        rw [this _ _ e]
        exact hz
      · exact h2.elim
    · split at h2
      · exact h2.elim
      · rename_i hz
        simp only [Bool.or_eq_true, Bool.not_eq_true', decide_eq_false_iff_not, not_or, Decidable.not_not] at hz
        exact hz.2
  intro D hD
  have hPD := clear_P rl1 hD
  have nP1 : ∀ a, g1.P a → a ≠ D := fun a z q => hPD (by rw [← q]; exact z)
  -- the ghost with D within
  have ne0 : ∀ a, H1 a ≠ none → a ≠ D := fun a h z => h (z ▸ hD)
  have rlF := rl1.newF (o := .lst []) hD
  have P1 : ∀ a, (g1.P a ∨ a = D) → a ∉ g1.as ∧ a ∉ g1.bs ∧ ¬ g1.F a ∧ upd H1 D (.lst []) a ≠ none := fun a z => by
    rcases z with z | rfl
    · obtain ⟨q1, q2, q3, q4⟩ := rl1.pv a z
      exact ⟨q1, q2, q3, by rw [upd_ne (ne0 a q4)]; exact q4⟩
    · exact ⟨fun z => ne0 _ (rl1.asSome z) rfl, fun z => ne0 _ (rl1.bsSome z) rfl, fun z => rl1.fs _ z hD, by rw [upd_same]; simp⟩
  have rlp : Rel fx (g1.setPv fun a => g1.P a ∨ a = D) S1 (upd H1 D (.lst [])) := by
    have k1 : ∀ a o', g1.F a → H1 a = some o' → upd H1 D (.lst []) a = some o' := fun a u h e => by rw [upd_ne (ne_of_none e hD)]; exact e
    have cell : ∀ {a : Addr} {c : Cell}, a ≠ D → CellAt fx g1 H1 a c → CellAt fx (g1.setPv fun a => g1.P a ∨ a = D) (upd H1 D (.lst [])) a c := fun {a c} na h => by
      have e0 : upd H1 D (.lst []) a = H1 a := upd_ne na
      cases c with
      | dead => exact fun z => h (e0.symm.trans z)
      | lst ds => obtain ⟨vs, e', q⟩ := h; exact ⟨vs, e0.trans e', q.mono (fun _ h => h) k1 fun _ _ z => z⟩
      | dct ks ds => obtain ⟨vs, e', l, q⟩ := h; exact ⟨vs, e0.trans e', l, q.mono (fun _ h => h) k1 fun _ _ z => z⟩
      | obj c fs => obtain ⟨dx, fvs, vs, e', c1, f, q⟩ := h; exact ⟨dx, fvs, vs, e0.trans e', c1, f, q.mono (fun _ h => h) k1 fun _ _ z => z⟩
    exact ⟨rl1.lL, rl1.lG, fun k a c e1 e2 => cell (ne0 a (rl1.cL k a c e1 e2).some) (rl1.cL k a c e1 e2), fun k a c e1 e2 => cell (ne0 a (rl1.cG k a c e1 e2).some) (rl1.cG k a c e1 e2), rl1.nd, rl1.nF, rl1.nG,
      fun a z => by rw [upd_ne (ne0 a (rl1.fs a z))]; exact rl1.fs a z, P1⟩
  have wp : Grow g1 ((g1.setPv fun a => g1.P a ∨ a = D).setPv g1.P) H1 (upd H1 D (.lst [])) :=
    ⟨fun _ z => z, fun a o _ e => by rw [upd_ne (ne_of_none e hD)]; exact e, rfl, fun a o _ e => by rw [upd_ne (ne_of_none e hD)]; exact e, fun _ _ z => z, fun _ _ z => z⟩
  refine ⟨fun i m H' => m = xs.length - i ∧ i ≤ xs.length ∧ ∃ g' S' ya yb acc, g'.P = (fun a => g1.P a ∨ a = D) ∧ Rel fx g' S' H' ∧ Grow g1 (g'.setPv g1.P) H1 H' ∧ H' D = some (.lst acc) ∧ RepTs fx g' H' acc ya ∧
    ys = ya ++ yb ∧ compL (fun x S => if grd z xs S then rnd cx tg ifs elt τ x S else .bad) (xs.drop i) S' = .ok yb Sf, ⟨xs.length, by simp, Nat.zero_le _, _, S1, [], ys, [], rfl, rlp, wp, upd_same, .nil, rfl, by rw [List.drop_zero]; exact ec⟩, ?_⟩
  rintro i m H2 ⟨rfl, hi, g2, S2, ya, yb, acc, eP, rl2, w2, hacc, racc, eys, ec2⟩
  have kf : KeepF g1 g2 H1 H2 := ⟨w2.F, w2.keep, w2.bs⟩
  have q2 : grd z xs S2 = true := by
    cases ex : xs.drop i with
    | nil =>
      rw [ex] at ec2
      simp only [compL] at ec2
      cases ec2
      exact qf
    | cons y r =>
      rw [ex] at ec2
      obtain ⟨o, S4, zs, e1, _, _⟩ := compL_cons ec2
      cases hq : grd z xs S2 with
      | true => rfl
      | false => rw [hq] at e1; cases e1
  obtain ⟨jgo, jstop, jyld⟩ := hJ g2 H2 S2 kf w2.as rl2 q2
  have gD : g2.P D := by rw [eP]; exact .inr rfl
  by_cases hlt : i < xs.length
  · refine .inr ⟨jgo i hlt, fun H' => ∃ g' S' ya yb acc, g'.P = (fun a => g1.P a ∨ a = D) ∧ Rel fx g' S' H' ∧ Grow g1 (g'.setPv g1.P) H1 H' ∧ H' D = some (.lst acc) ∧ RepTs fx g' H' acc ya ∧
      ys = ya ++ yb ∧ compL (fun x S => if grd z xs S then rnd cx tg ifs elt τ x S else .bad) (xs.drop (i + 1)) S' = .ok yb Sf, fun H' p => ⟨xs.length - (i + 1), by omega, rfl, hlt, p⟩, fun x H3 y => ?_⟩
    have ed : xs.drop i = xs[i] :: xs.drop (i + 1) := List.drop_eq_getElem_cons hlt
    rw [ed] at ec2
    obtain ⟨o, S4, zs, e1, e2, e3⟩ := compL_cons ec2
    rw [q2, if_pos rfl] at e1
    obtain ⟨τ', b, S3, a1, a2, a3⟩ := rnd_ok e1
    obtain ⟨g3, w3, rl3, rx⟩ := jyld i x H3 y xs[i] (List.getElem?_eq_getElem hlt)
    have sl3 : Slots fx g3 H3 τ σ := by
      have z : Slots fx (g2.setPv g1.P) H2 τ σ := sl1.grow w2
      have z2 : Slots fx g2 H2 τ σ := ⟨z.le, fun j t e => let ⟨v, q1, q2⟩ := z.at_ j t e; ⟨v, q1, q2.pv (P := g2.P)⟩⟩
      exact z2.grow w3
    refine ⟨g3, clrs (tgv tg) τ, S2, .d xs[i], τ', rl3, sl3.wipe _, .d rx, a1, fun σ3 sl4 sm => ⟨?_, ?_⟩⟩
    · rw [sm.wipe, wipe_wipe]
    refine ⟨g3, τ', S2, rl3, sl4, ?_⟩
    rw [a2]
    intro g5 b' H5 w5 rl5 eb
    have eb : b' = b := eb
    subst eb
    have gP5 : g5.P = (fun a => g1.P a ∨ a = D) := by rw [w5.P, w3.P, eP]
    have w25 := w3.trans w5
    have h5D : H5 D = some (.lst acc) := w25.kP D _ gD hacc
    have w15 : Grow g1 (g5.setPv g1.P) H1 H5 := ⟨fun a z => w25.F a (w2.F a z), fun a o z e => w25.keep a o (w2.F a z) (w2.keep a o z e), rfl, fun a o z e => w25.kP a o (by rw [eP]; exact .inl z) (w2.kP a o z e), fun k a z => w25.as k a (w2.as k a z), fun k a z => w25.bs k a (w2.bs k a z)⟩
    rcases a3 with ⟨rfl, t, ev1, rfl⟩ | ⟨rfl, rfl, rfl⟩
    · rw [if_pos rfl]
      refine ⟨g5, τ', S3, rl5, sl4.grow w5, ?_⟩
      rw [ev1]
      intro g6 v H6 w6 rl6 r6
      have w26 := w25.trans w6
      have gP6 : g6.P = (fun a => g1.P a ∨ a = D) := by rw [w6.P, gP5]
      have g6D : g6.P D := by rw [gP6]; exact .inr rfl
      have h6D : H6 D = some (.lst acc) := w26.kP D _ gD hacc
      have la := (racc.grow w26).length
      refine ⟨acc, h6D, ?_, ?_⟩
      · rw [sizeLine_eq, la]
        have : ys.length = ya.length + yb.length := by rw [eys, List.length_append]
        have : yb.length = 1 + zs.length := by rw [e3]; simp [Nat.add_comm]
        omega
      · have rl7 := (rl6.setP (o := .lst (acc ++ [v])) g6D).2
        have k7 := (rl6.setP (o := .lst (acc ++ [v])) g6D).1
        -- readings go over
        have gr : Grow (g6.setPv g1.P) (g6.setPv g1.P) H6 (upd H6 D (.lst (acc ++ [v]))) := ⟨fun _ z => z, k7, rfl, fun a o z e => by rw [upd_ne (nP1 a z)]; exact e, fun _ _ z => z, fun _ _ z => z⟩
        have over : ∀ {vs : List V} {tl : List T}, RepTs fx g6 H6 vs tl → RepTs fx g6 (upd H6 D (.lst (acc ++ [v]))) vs tl := fun q => ((q.pv (P := g1.P)).grow gr).pv (P := g6.P)
        have w16 : Grow g1 (g6.setPv g1.P) H1 H6 := ⟨fun a z => w26.F a (w2.F a z), fun a o z e => w26.keep a o (w2.F a z) (w2.keep a o z e), rfl, fun a o z e => w26.kP a o (by rw [eP]; exact .inl z) (w2.kP a o z e), fun k a z => w26.as k a (w2.as k a z), fun k a z => w26.bs k a (w2.bs k a z)⟩
        refine ⟨g6, S4, ya ++ [t], zs, acc ++ [v], gP6, rl7, w16.trans gr, upd_same, over (RepTs.append (.cons r6 .nil) (racc.grow w26)), ?_, e2⟩
        rw [eys, e3]
        simp
    · rw [if_neg Bool.false_ne_true]
      refine ⟨g5, S3, ya, zs, acc, gP5, rl5, w15, h5D, racc.grow w25, ?_, e2⟩
      rw [eys, e3]
      rfl
  · have hi' : i = xs.length := by omega
    subst hi'
    refine .inl ⟨jstop _ (Nat.le_refl _), ?_⟩
    rw [List.drop_eq_nil_of_le (Nat.le_refl _)] at ec2
    simp only [compL] at ec2
    cases ec2
    rw [List.append_nil] at eys
    subst eys
    -- D is nobody's now
    have rl0 : Rel fx (g2.setPv g1.P) _ (wo H2 D) := rl2.but gD (fun a na => wo_ne na) fun a z => ⟨by rw [eP]; exact .inl z, nP1 a z⟩
    have w0 := w2.but hD
    have racc' : RepTs fx (g2.setPv g1.P) H2 acc ys := racc.pv
    have nF2 : ∀ a, g2.F a → a ≠ D := fun a z q => (rl2.pv D gD).2.2.1 (by rw [← q]; exact z)
    -- what is read stands without D
    have down : ∀ {vs : List V} {tl : List T}, RepTs fx (g2.setPv g1.P) H2 vs tl → RepTs fx (g2.setPv g1.P) (wo H2 D) vs tl := fun q => q.grow ⟨fun _ z => z, fun a o z e => by rw [wo_ne (nF2 a z)]; exact e, rfl, fun a o z e => by rw [wo_ne (nP1 a z)]; exact e, fun _ _ z => z, fun _ _ z => z⟩
    have r0 := down racc'
    unfold mkLst at h2
    split at h2
    · rename_i ds e
      have h3 := (run_mkL (RunG.grow w0 h2) rl0 (r0.unDs e)).2 D (wo_same _ _)
      rw [wo_upd hacc] at h3
      exact h3
    · split at h2
      · exact h2.elim
      · have w4 := grow_new (o := .lst acc) rl0 (wo_same H2 D)
        have h3 := h2 _ _ _ (w0.trans w4) (rl0.newF (wo_same H2 D)) (.lst (.inl ⟨.inr rfl, .inl upd_same⟩) (r0.grow w4))
        rw [wo_upd hacc] at h3
        exact h3
/-! ### dicts -/
structure RepPs (fx : Fx) (g : Gh) (H : Hp) (ps : List (V × V)) (qs : List (T × T)) : Prop where
  k : RepTs fx g H (ps.map (·.1)) (qs.map (·.1))
  v : RepTs fx g H (ps.map (·.2)) (qs.map (·.2))
/-- keys and values -/
def trs (fx : Fx) (W : WX) (cx : Cxx) : Es → List (TE × TE)
  | .nil => []
  | .cons e es => match es with
    | .nil => []
    | .cons e2 es2 => (rd fx W (ev cx e), rd fx W (ev cx e2)) :: trs fx W cx es2
theorem trs_run : ∀ (es : Es) {σ : L2.St} {H : Hp} {P : List (V × V) → Hp → Prop}, rdG fx (RepPs fx) W (evPs cx es) σ H P → tPairs (trs fx W cx es) σ H P
  | .nil, σ, H, P, h => by
    obtain ⟨g, τ, S, rl, sl, h⟩ := h
    rw [evPs] at h
    exact h.fin rl ⟨.nil, .nil⟩
  | .cons e .nil, σ, H, P, h => by
    obtain ⟨g, τ, S, rl, sl, h⟩ := h
    rw [evPs] at h
    exact h.elim
  | .cons e (.cons e2 es), σ, H, P, h => by
    obtain ⟨g, τ, S, rl, sl, h⟩ := h
    rw [evPs] at h
    refine ⟨g, τ, S, rl, sl, h.bnd.mono fun x H1 ⟨g1, S1, t1, w1, rl1, r1, h1⟩ => ?_⟩
    refine ⟨g1, τ, S1, rl1, sl.grow w1, h1.bnd.mono fun y H2 ⟨g2, S2, t2, w2, rl2, r2, h2⟩ => ?_⟩
    refine trs_run es ⟨g2, τ, S2, rl2, (sl.grow w1).grow w2, h2.bnd.mono fun ps H3 ⟨g3, S3, qs, w3, rl3, r3, h3⟩ => ?_⟩
    exact h3.fin rl3 ⟨.cons ((r1.grow w2).grow w3) r3.k, .cons (r2.grow w3) r3.v⟩
theorem mkDs_rep {g : Gh} {H : Hp} : ∀ {qs : List (T × T)} {ps : List (V × V)} {ks : List Key} {vs : List V} {ds : List D} {ks' : List Key} {ds' : List D}, RepPs fx g H ps qs → ks.length = vs.length → RepDs fx g.F g.bs H vs ds → mkDs qs ks ds = some (ks', ds') →
    ∃ kvs : List (Key × V), ps = kvs.map (fun kv => (kV kv.1, kv.2)) ∧ ∃ vs', mergeK (ks.zip vs) kvs = ks'.zip vs' ∧ ks'.length = vs'.length ∧ RepDs fx g.F g.bs H vs' ds'
  | [], ps, ks, vs, ds, ks', ds', r, hl, hd, e => by
    cases e
    have := r.k.length
    cases ps with
    | cons p ps => simp at this
    | nil => exact ⟨[], rfl, vs, rfl, hl, hd⟩
  | q :: qs, ps, ks, vs, ds, ks', ds', r, hl, hd, e => by
    have hlen := r.k.length
    cases ps with
    | nil => simp at hlen
    | cons p ps =>
      obtain ⟨pk, pv⟩ := p
      obtain ⟨qk, qv⟩ := q
      have rk : RepTs fx g H (pk :: ps.map (·.1)) (qk :: qs.map (·.1)) := r.k
      have rv : RepTs fx g H (pv :: ps.map (·.2)) (qv :: qs.map (·.2)) := r.v
      unfold mkDs at e
      split at e
      · rename_i k v hq
        cases hq
        split at e
        · rename_i kk ek
          cases rk with
          | cons rk rks =>
            cases rv with
            | cons rv rvs =>
              cases rv with
              | d rv =>
                have hk : pk = kV kk := by
                  cases rk with
                  | d rk => cases rk <;> simp [toKey] at ek <;> subst ek <;> rfl
                obtain ⟨vs1, z1, z2, z3⟩ := put_rep (k := kk) rv hl hd
                obtain ⟨kvs, y1, vs', y2, y3, y4⟩ := mkDs_rep (ps := ps) ⟨rks, rvs⟩ z2 z3 e
                refine ⟨(kk, pv) :: kvs, ?_, vs', ?_, y3, y4⟩
                · rw [List.map_cons, ← y1, ← hk]
                · show mergeK (putK (ks.zip vs) kk pv) kvs = _
                  rw [z1, y2]
        · cases e
      · cases e
/-- a new object that is nobody's yet -/
theorem Rel.priv {g : Gh} {S : Store} {H : Hp} {p : Addr} {o : HO} (rl : Rel fx g S H) (hp : H p = none) : Rel fx (g.setPv fun a => g.P a ∨ a = p) S (upd H p o) ∧ Grow g ((g.setPv fun a => g.P a ∨ a = p).setPv g.P) H (upd H p o) := by
  have ne0 : ∀ a, H a ≠ none → a ≠ p := fun a h z => h (z ▸ hp)
  have k1 : ∀ a o', g.F a → H a = some o' → upd H p o a = some o' := fun a u h e => by rw [upd_ne (ne_of_none e hp)]; exact e
  have cell : ∀ {a : Addr} {c : Cell}, a ≠ p → CellAt fx g H a c → CellAt fx (g.setPv fun a => g.P a ∨ a = p) (upd H p o) a c := fun {a c} na h => by
    have e0 : upd H p o a = H a := upd_ne na
    cases c with
    | dead => exact fun z => h (e0.symm.trans z)
    | lst ds => obtain ⟨vs, e', q⟩ := h; exact ⟨vs, e0.trans e', q.mono (fun _ h => h) k1 fun _ _ z => z⟩
    | dct ks ds => obtain ⟨vs, e', l, q⟩ := h; exact ⟨vs, e0.trans e', l, q.mono (fun _ h => h) k1 fun _ _ z => z⟩
    | obj c fs => obtain ⟨dx, fvs, vs, e', c1, f, q⟩ := h; exact ⟨dx, fvs, vs, e0.trans e', c1, f, q.mono (fun _ h => h) k1 fun _ _ z => z⟩
  refine ⟨⟨rl.lL, rl.lG, fun k a c e1 e2 => cell (ne0 a (rl.cL k a c e1 e2).some) (rl.cL k a c e1 e2), fun k a c e1 e2 => cell (ne0 a (rl.cG k a c e1 e2).some) (rl.cG k a c e1 e2), rl.nd, rl.nF, rl.nG,
    fun a z => by rw [upd_ne (ne0 a (rl.fs a z))]; exact rl.fs a z, fun a z => ?_⟩, ⟨fun _ z => z, fun a o _ e => by rw [upd_ne (ne_of_none e hp)]; exact e, rfl, fun a o _ e => by rw [upd_ne (ne_of_none e hp)]; exact e, fun _ _ z => z, fun _ _ z => z⟩⟩
  rcases z with z | rfl
  · obtain ⟨q1, q2, q3, q4⟩ := rl.pv a z
    exact ⟨q1, q2, q3, by rw [upd_ne (ne0 a q4)]; exact q4⟩
  · exact ⟨fun z => ne0 _ (rl.asSome z) rfl, fun z => ne0 _ (rl.bsSome z) rfl, fun z => rl.fs _ z hp, by rw [upd_same]; simp⟩
theorem Slots.pv {g : Gh} {H : Hp} {τ : Sl} {σ : L2.St} (s : Slots fx g H τ σ) (Q : Addr → Prop) : Slots fx (g.setPv Q) H τ σ := ⟨s.le, fun i t e => let ⟨v, q1, q2⟩ := s.at_ i t e; ⟨v, q1, q2.pv⟩⟩
/-- a run with more that is private -/
theorem RunG.priv {α β : Type} {Rep : Gh → Hp → β → α → Prop} {g g1 : Gh} {H H1 : Hp} {r : R α} {Q : β → Hp → Prop} {W : XW} {p : Addr} (h : RunG fx Rep g H r Q W) (w : Grow g (g1.setPv g.P) H H1) (hP : g1.P = fun a => g.P a ∨ a = p) (hp : H p = none) (hr : ∀ g' H' v t, Rep g' H' v t → Rep (g'.setPv g.P) H' v t) :
    RunG fx (fun g' H' v t => Rep g' H' v t ∧ True) g1 H1 r (fun v H' => Q v H') W := by
  cases r with
  | ok t S' =>
    intro g' v H' w' rl' rp
    have np : ∀ a, g.P a → g'.P a := fun a z => by rw [w'.P, hP]; exact .inl z
    refine h (g'.setPv g.P) v H' ⟨fun a z => w'.F a (w.F a z), fun a o z e => w'.keep a o (w.F a z) (w.keep a o z e), rfl, fun a o z e => w'.kP a o (by rw [hP]; exact .inl z) (w.kP a o z e), fun k a z => w'.as k a (w.as k a z), fun k a z => w'.bs k a (w.bs k a z)⟩ ?_ (hr _ _ _ _ rp.1)
    exact rl'.setPv fun a z => rl'.pv a (np a z)
  | exc c q S' =>
    intro g' cls d H' w' rl' rx
    have np : ∀ a, g.P a → g'.P a := fun a z => by rw [w'.P, hP]; exact .inl z
    refine h (g'.setPv g.P) cls d H' ⟨fun a z => w'.F a (w.F a z), fun a o z e => w'.keep a o (w.F a z) (w.keep a o z e), rfl, fun a o z e => w'.kP a o (by rw [hP]; exact .inl z) (w.kP a o z e), fun k a z => w'.as k a (w.as k a z), fun k a z => w'.bs k a (w.bs k a z)⟩ ?_ rx
    exact rl'.setPv fun a z => rl'.pv a (np a z)
  | bad => exact h
theorem s_dct {X : Cx} {md : Bool} {es : Es} {ks : List (Option Expr)} {vs : List Expr} {pos : Pos} (hp : ∀ pos, PPs X pos ks vs (trs fx W cx es)) (ha : ks.all (·.isSome) = true) (hl : ks.length = vs.length) (h0 : ks = [] → es = .nil ∧ vs = []) (h15 : ks.length ≤ 15) :
    PE X (.Dict ks vs pos) (rd fx W (ev cx (.dct md es))) := by
  -- the end, from the pairs
  have fin : ∀ {g : Gh} {S : Store} {H : Hp} {kvs : List (Key × V)} {qs : List (T × T)} {ps : List (V × V)} {Q : VK} {V' : XW} {p : Addr}, Rel fx g S H → H p = none → RepPs fx g H ps qs → Run fx g H (mkD md qs S) Q V' →
      ∃ kvs : List (Key × V), ps = kvs.map (fun kv => (kV kv.1, kv.2)) ∧ kvs.length ≤ 15 ∧ Q (.ref p) (upd H p (.dK (mergeK [] kvs))) := fun {g S H kvs qs ps Q V' p} rl hp rp h => by
    unfold mkD at h
    split at h
    · rename_i hz
      split at h
      · rename_i ks' ds' e
        obtain ⟨kvs, e1, vs', e2, e3, e4⟩ := mkDs_rep (ks := []) (vs := []) (ds := []) rp rfl .nil e
        have e2 : mergeK [] kvs = ks'.zip vs' := e2
        have hlen : kvs.length = qs.length := by
          have := rp.k.length
          rw [e1] at this
          simpa using this
        refine ⟨kvs, e1, by omega, ?_⟩
        rw [e2]
        split at h
        · have w := grow_cell (o := .dK (ks'.zip vs')) rl hp
          refine h _ _ _ w (rl.newL hp ⟨vs', upd_same, e3, e4.grow w⟩) (.cell ?_)
          show (g.as ++ [p])[S.loc.length]? = some p
          rw [← rl.lL]; simp
        · have w := grow_new (o := .dK (ks'.zip vs')) rl hp
          exact h _ _ _ w (rl.newF hp) (.d (.dct (.inr rfl) upd_same rfl e3 (e4.grow w)))
      · exact h.elim
    · exact h.elim
  by_cases hk : ks = []
  · obtain ⟨rfl, rfl⟩ := h0 hk
    subst hk
    refine pe_dnewK.imp fun σ H Q h => ?_
    obtain ⟨g, τ, S, rl, sl, h⟩ := h
    simp only [ev, evPs, bnd_ok] at h
    intro p hp'
    obtain ⟨kvs, e1, _, q⟩ := fin (kvs := []) (ps := []) rl hp' ⟨.nil, .nil⟩ h
    cases kvs with
    | nil => exact q
    | cons a b => cases e1
  · refine (pe_disp (hp pos) ha hl hk h15).imp fun σ H Q h => ?_
    obtain ⟨g, τ, S, rl, sl, h⟩ := h
    simp only [ev] at h
    intro p hp'
    obtain ⟨rlp, wp⟩ := rl.priv (o := .dK []) hp'
    have nP : ∀ a, g.P a → a ≠ p := fun a z q => (rl.pv a z).2.2.2 (by rw [q]; exact hp')
    have slp : Slots fx (g.setPv fun a => g.P a ∨ a = p) (upd H p (.dK [])) τ σ := by
      have z : Slots fx ((g.setPv fun a => g.P a ∨ a = p).setPv g.P) (upd H p (.dK [])) τ σ := sl.grow wp
      exact z.pv fun a => g.P a ∨ a = p
    refine trs_run es ⟨_, τ, S, rlp, slp, ?_⟩
    cases e0 : evPs cx es τ S with
    | bad => rw [e0] at h; exact h.elim
    | exc c q S' =>
      rw [e0] at h
      have h1 : RunG fx (RepPs fx) g H (.exc c q S') (fun _ _ => False) (fun c d H' => W c d σ H') := h
      have h2 := RunG.priv h1 wp rfl hp' fun g' H' v t z => ⟨z.k.pv, z.v.pv⟩
      exact h2
    | ok qs S' =>
      rw [e0] at h
      simp only [bnd_ok] at h
      intro g2 ps H2 w2 rl2 rp
      have h2p : H2 p = some (.dK []) := w2.kP p _ (.inr rfl) upd_same
      refine ⟨h2p, ?_⟩
      have gP : g2.P = fun a => g.P a ∨ a = p := w2.P
      have g2p : g2.P p := by rw [gP]; exact .inr rfl
      have rl0 : Rel fx (g2.setPv g.P) S' (wo H2 p) := rl2.but g2p (fun a na => wo_ne na) fun a z => ⟨by rw [gP]; exact .inl z, nP a z⟩
      have nF2 : ∀ a, g2.F a → a ≠ p := fun a z q => (rl2.pv p g2p).2.2.1 (by rw [← q]; exact z)
      have dn : Grow (g2.setPv g.P) (g2.setPv g.P) H2 (wo H2 p) := ⟨fun _ z => z, fun a o z e => by rw [wo_ne (nF2 a z)]; exact e, rfl, fun a o z e => by rw [wo_ne (nP a z)]; exact e, fun _ _ z => z, fun _ _ z => z⟩
      have rp0 : RepPs fx (g2.setPv g.P) (wo H2 p) ps qs := ⟨rp.k.pv.grow dn, rp.v.pv.grow dn⟩
      have w0 : Grow g (g2.setPv g.P) H (wo H2 p) := ⟨fun a z => w2.F a z, fun a o z e => by
          rw [wo_ne (ne_of_none e hp')]
          exact w2.keep a o z (by rw [upd_ne (ne_of_none e hp')]; exact e), rfl, fun a o z e => by
          rw [wo_ne (ne_of_none e hp')]
          exact w2.kP a o (.inl z) (by rw [upd_ne (ne_of_none e hp')]; exact e), fun k a z => w2.as k a z, fun k a z => w2.bs k a z⟩
      obtain ⟨kvs, e1, e2, q⟩ := fin (kvs := []) rl0 (wo_same H2 p) rp0 (RunG.grow w0 h)
      refine ⟨kvs, e1, e2, ?_⟩
      have eu : upd (wo H2 p) p (.dK (mergeK [] kvs)) = upd H2 p (.dK (mergeK [] kvs)) := by
        funext a
        by_cases z : a = p
        · subst z; rw [upd_same, upd_same]
        · rw [upd_ne z, upd_ne z, wo_ne z]
      rw [eu] at q
      exact q
end
end Mn
set_option Elab.async false
set_option linter.all false
set_option maxRecDepth 100000
set_option maxHeartbeats 8000000
/-! Mn15: all expressions. -/
namespace Mn
open PySem PySem.Spec PyProof.Rows PySem.SeqAt
open L2 hiding ixN atI Takes XE CX takes_of passes_call passAt
open L2N (Takes XE CX takes_of)

section
variable {fx : Fx} {cx : Cxx} {nm : Nm}
/-- an expression, as a value and as a test -/
def OkE (fx : Fx) (cx : Cxx) (nm : Nm) (e : E) : Prop := ∀ (c : SC) (X : Cx) (W : WX) (x : Expr), Good fx cx nm c X W → mE nm fx.ts e c x = true → PE X x (rd fx W (ev cx e)) ∧ PT X x (rdB fx W fun τ S => (ev cx e τ S).bnd toB)
structure OkEs (fx : Fx) (cx : Cxx) (nm : Nm) (es : Es) : Prop where
  all : ∀ (c : SC) (X : Cx) (W : WX) (xs : List Expr), Good fx cx nm c X W → mEs nm fx.ts es c xs = true → PA X xs (rdA fx W (evs cx es))
  and : ∀ (c : SC) (X : Cx) (W : WX) (xs : List Expr) (pos : Pos), Good fx cx nm c X W → mEs nm fx.ts es c xs = true → PE X (.BoolOp .And xs pos) (rd fx W (evAnd cx es)) ∧ PW X (.BoolOp .And xs pos) (rdB fx W fun τ S => (evAnd cx es τ S).bnd toB)
  or : ∀ (c : SC) (X : Cx) (W : WX) (xs : List Expr) (pos : Pos), Good fx cx nm c X W → mEs nm fx.ts es c xs = true → PE X (.BoolOp .Or xs pos) (rd fx W (evOr cx es)) ∧ PW X (.BoolOp .Or xs pos) (rdB fx W fun τ S => (evOr cx es τ S).bnd toB)
  ifs : ∀ (c : SC) (X : Cx) (W : WX) (xs : List Expr), Good fx cx nm c X W → mEs nm fx.ts es c xs = true → PTs X xs (rdB fx W (evAll cx es))
  prs : ∀ (c : SC) (X : Cx) (W : WX) (ks : List (Option Expr)) (vs : List Expr), Good fx cx nm c X W → mPs nm fx.ts es c ks vs = true →
    (∀ pos, PPs X pos ks vs (trs fx W cx es)) ∧ ks.all (·.isSome) = true ∧ ks.length = vs.length ∧ (ks = [] → es = .nil ∧ vs = [])
def OkIt (fx : Fx) (cx : Cxx) (nm : Nm) (it : It) : Prop := ∀ (c : SC) (X : Cx) (W : WX) (x tg : Expr), Good fx cx nm c X W → mIt nm fx.ts it c x = true → (!it.pair || tupX tg) = true → PI X tg x (rdI fx W (evIt cx it)) ∧ ∀ v, foldedSetIterable x X.env v = pure v
theorem no_pe {X : Cx} {x : Expr} {W : WX} {m : Sl → Store → R T} (h : ∀ τ S, m τ S = .bad) : PE X x (rd fx W m) := ⟨fun pins s σ H Q I z => by
  obtain ⟨g, τ, S, rl, sl, z⟩ := z
  rw [h] at z
  exact z.elim⟩
theorem no_pw {X : Cx} {x : Expr} {W : WX} {m : Sl → Store → R Bool} (h : ∀ τ S, m τ S = .bad) : PW X x (rdB fx W m) := ⟨fun wh pins s σ H Q I z => by
  obtain ⟨g, τ, S, rl, sl, z⟩ := z
  rw [h] at z
  exact z.elim⟩
theorem no_pts {X : Cx} {x : List Expr} {W : WX} {m : Sl → Store → R Bool} (h : ∀ τ S, m τ S = .bad) : PTs X x (rdB fx W m) := ⟨fun pins s σ H Q I z => by
  obtain ⟨g, τ, S, rl, sl, z⟩ := z
  rw [h] at z
  exact z.elim⟩
theorem by_val {a : E} {X : Cx} {x : Expr} {W : WX} (hx : plainT x = true) (h : PE X x (rd fx W (ev cx a))) : PE X x (rd fx W (ev cx a)) ∧ PT X x (rdB fx W fun τ S => (ev cx a τ S).bnd toB) := ⟨h, t_val hx h⟩
theorem ev_and2 {e e2 : E} {es : Es} (τ : Sl) (S : Store) : evAnd cx (.cons e (.cons e2 es)) τ S = ((ev cx e τ S).bnd toB).bnd fun b S1 => if b then evAnd cx (.cons e2 es) τ S1 else okB false S1 := by
  rw [evAnd]
  cases ev cx e τ S with
  | ok t S1 =>
    cases t with
    | d d =>
      cases d with
      | bl b => cases b <;> rfl
      | _ => rfl
    | _ => rfl
  | _ => rfl
theorem ev_or2 {e e2 : E} {es : Es} (τ : Sl) (S : Store) : evOr cx (.cons e (.cons e2 es)) τ S = ((ev cx e τ S).bnd toB).bnd fun b S1 => if b then okB true S1 else evOr cx (.cons e2 es) τ S1 := by
  rw [evOr]
  cases ev cx e τ S with
  | ok t S1 =>
    cases t with
    | d d =>
      cases d with
      | bl b => cases b <;> rfl
      | _ => rfl
    | _ => rfl
  | _ => rfl
theorem ev_and1 {e : E} (τ : Sl) (S : Store) : evAnd cx (.cons e .nil) τ S = ev cx e τ S := by rw [evAnd]
theorem ev_or1 {e : E} (τ : Sl) (S : Store) : evOr cx (.cons e .nil) τ S = ev cx e τ S := by rw [evOr]
theorem rd_eq {α β : Type} {Rep : Gh → Hp → β → α → Prop} {W : WX} {m n : Sl → Store → R α} {σ : L2.St} {H : Hp} {Q : β → Hp → Prop} (e : ∀ τ S, m τ S = n τ S) (h : rdG fx Rep W m σ H Q) : rdG fx Rep W n σ H Q := by
  obtain ⟨g, τ, S, rl, sl, z⟩ := h
  rw [e] at z
  exact ⟨g, τ, S, rl, sl, z⟩
theorem RunG.toB {g : Gh} {H : Hp} {r : R T} {Q : V → Hp → Prop} {W : XW} {k : Bool → Store → R T} (h : Run fx g H ((r.bnd toB).bnd k) Q W) (rl0 : True) :
    Run fx g H r (fun v H1 => ∃ b g1 S1, v = .bl b ∧ Grow g g1 H H1 ∧ Rel fx g1 S1 H1 ∧ Run fx g1 H1 (k b S1) Q W) W := by
  cases r with
  | bad => exact h
  | exc c p S => exact h
  | ok t S =>
    intro g1 v H1 w rl r1
    cases t with
    | d d =>
      cases d with
      | bl b =>
        obtain rfl := rt_bl r1
        exact ⟨b, g1, S, rfl, w, rl, RunG.grow w h⟩
      | _ => exact h.elim
    | _ => exact h.elim
theorem rd_and {W : WX} {m n : Sl → Store → R T} {σ : L2.St} {H : Hp} {Q : VK} (h : rd fx W (fun τ S => ((m τ S).bnd toB).bnd fun b S1 => if b then n τ S1 else okB false S1) σ H Q) : tAndV (rd fx W m) (rd fx W n) σ H Q := by
  obtain ⟨g, τ, S, rl, sl, h⟩ := h
  refine ⟨g, τ, S, rl, sl, (RunG.toB h trivial).mono fun v H1 ⟨b, g1, S1, e, w, rl1, h1⟩ => ⟨b, e, ?_⟩⟩
  cases b with
  | true => exact ⟨g1, τ, S1, rl1, sl.grow w, h1⟩
  | false => exact h1.fin rl1 (.d (.bl false))
theorem rd_or {W : WX} {m n : Sl → Store → R T} {σ : L2.St} {H : Hp} {Q : VK} (h : rd fx W (fun τ S => ((m τ S).bnd toB).bnd fun b S1 => if b then okB true S1 else n τ S1) σ H Q) : tOrV (rd fx W m) (rd fx W n) σ H Q := by
  obtain ⟨g, τ, S, rl, sl, h⟩ := h
  refine ⟨g, τ, S, rl, sl, (RunG.toB h trivial).mono fun v H1 ⟨b, g1, S1, e, w, rl1, h1⟩ => ⟨b, e, ?_⟩⟩
  cases b with
  | false => exact ⟨g1, τ, S1, rl1, sl.grow w, h1⟩
  | true => exact h1.fin rl1 (.d (.bl true))
theorem rd_andT {W : WX} {m n : Sl → Store → R T} {σ : L2.St} {H : Hp} {P : Bool → Hp → Prop} (h : rdB fx W (fun τ S => (((m τ S).bnd toB).bnd fun b S1 => if b then n τ S1 else okB false S1).bnd toB) σ H P) : tAnd (rdB fx W fun τ S => (m τ S).bnd toB) (rdB fx W fun τ S => (n τ S).bnd toB) σ H P := by
  obtain ⟨g, τ, S, rl, sl, h⟩ := h
  refine ⟨g, τ, S, rl, sl, ?_⟩
  have e : ((((m τ S).bnd toB).bnd fun b S1 => if b then n τ S1 else okB false S1).bnd toB) = ((m τ S).bnd toB).bnd fun b S1 => (if b then n τ S1 else okB false S1).bnd toB := by
    cases (m τ S).bnd toB <;> rfl
  have h : RunG fx (fun _ _ (b : Bool) (b' : Bool) => b = b') g H ((((m τ S).bnd toB).bnd fun b S1 => if b then n τ S1 else okB false S1).bnd toB) P _ := h
  rw [e] at h
  refine h.bnd.mono fun b H1 ⟨g1, S1, b', w, rl1, eb, h1⟩ => ?_
  have eb : b = b' := eb
  subst eb
  cases b with
  | true => exact ⟨g1, τ, S1, rl1, sl.grow w, h1⟩
  | false => exact h1.fin rl1 rfl
theorem rd_orT {W : WX} {m n : Sl → Store → R T} {σ : L2.St} {H : Hp} {P : Bool → Hp → Prop} (h : rdB fx W (fun τ S => (((m τ S).bnd toB).bnd fun b S1 => if b then okB true S1 else n τ S1).bnd toB) σ H P) : tOr (rdB fx W fun τ S => (m τ S).bnd toB) (rdB fx W fun τ S => (n τ S).bnd toB) σ H P := by
  obtain ⟨g, τ, S, rl, sl, h⟩ := h
  refine ⟨g, τ, S, rl, sl, ?_⟩
  have e : ((((m τ S).bnd toB).bnd fun b S1 => if b then okB true S1 else n τ S1).bnd toB) = ((m τ S).bnd toB).bnd fun b S1 => (if b then okB true S1 else n τ S1).bnd toB := by
    cases (m τ S).bnd toB <;> rfl
  have h : RunG fx (fun _ _ (b : Bool) (b' : Bool) => b = b') g H ((((m τ S).bnd toB).bnd fun b S1 => if b then okB true S1 else n τ S1).bnd toB) P _ := h
  rw [e] at h
  refine h.bnd.mono fun b H1 ⟨g1, S1, b', w, rl1, eb, h1⟩ => ?_
  have eb : b = b' := eb
  subst eb
  cases b with
  | false => exact ⟨g1, τ, S1, rl1, sl.grow w, h1⟩
  | true => exact h1.fin rl1 rfl
theorem pt_ife {X : Cx} {u x y : Expr} {pos : Pos} {t ta tb : TT} (hu : PT X u t) (ha : PT X x ta) (hb : PT X y tb) : PT X (.IfExp u x y pos) (fun σ H P => t σ H fun b H1 => if b = true then ta σ H1 P else tb σ H1 P) := by
  refine ⟨fun pins s σ H P I h => ?_⟩
  show wpAny _ _ (do if ← isTrue u X.env (eval u X.env) then isTrue x X.env (eval x X.env) else isTrue y X.env (eval y X.env)) _ _ s
  refine wpAny_bind (thn (hu.run pins s σ H _ I h) fun b s1 ⟨H1, I1, q1⟩ => ?_)
  cases b with
  | true => exact ha.run pins s1 σ H1 P I1 q1
  | false => exact hb.run pins s1 σ H1 P I1 q1
theorem t_ife {W : WX} {X : Cx} {t a b : E} {u x y : Expr} {pos : Pos} (ht : PT X u (rdB fx W fun τ S => (ev cx t τ S).bnd toB)) (ha : PT X x (rdB fx W fun τ S => (ev cx a τ S).bnd toB)) (hb : PT X y (rdB fx W fun τ S => (ev cx b τ S).bnd toB)) :
    PT X (.IfExp u x y pos) (rdB fx W fun τ S => (ev cx (.ife t a b) τ S).bnd toB) :=
  (pt_ife ht ha hb).imp fun σ H P h => by
    obtain ⟨g, τ, S, rl, sl, h⟩ := h
    have e : (ev cx (.ife t a b) τ S).bnd toB = ((ev cx t τ S).bnd toB).bnd fun b' S2 => if b' then (ev cx a τ S2).bnd toB else (ev cx b τ S2).bnd toB := by
      simp only [ev]
      cases ev cx t τ S with
      | ok t S1 =>
        cases t with
        | d d =>
          cases d with
          | bl b => cases b <;> rfl
          | _ => rfl
        | _ => rfl
      | _ => rfl
    have h : RunG fx (fun _ _ (b : Bool) (b' : Bool) => b = b') g H ((ev cx (.ife t a b) τ S).bnd toB) P _ := h
    rw [e] at h
    refine ⟨g, τ, S, rl, sl, h.bnd.mono fun b H1 ⟨g1, S1, b', w, rl1, eb, h1⟩ => ?_⟩
    have eb : b = b' := eb
    subst eb
    cases b with
    | true => exact ⟨g1, τ, S1, rl1, sl.grow w, h1⟩
    | false => exact ⟨g1, τ, S1, rl1, sl.grow w, h1⟩
mutual
theorem sE : ∀ (e : E), OkE fx cx nm e
  | .var i => fun c X W x G h => by
    unfold mE at h; split at h
    · exact by_val rfl (s_var G h)
    · cases h
  | .con d => fun c X W x G h => by
    unfold mE at h; split at h
    · exact by_val rfl (s_con h)
    · cases h
  | .glo k => fun c X W x G h => by
    unfold mE at h; split at h
    · simp only [Bool.and_eq_true, decide_eq_true_eq] at h
      exact by_val rfl (s_glo G h.1 h.2)
    · cases h
  | .tup es => fun c X W x G h => by
    have ih := sEs es
    unfold mE at h; split at h
    · exact by_val rfl (s_tup (ih.all c X W _ G h))
    · cases h
  | .lst md es => fun c X W x G h => by
    have ih := sEs es
    unfold mE at h; split at h
    · exact by_val rfl (s_lst (ih.all c X W _ G h))
    · cases h
  | .dct md es => fun c X W x G h => by
    have ih := sEs es
    unfold mE at h; split at h
    · rename_i ks vs pos
      simp only [Bool.and_eq_true, decide_eq_true_eq] at h
      obtain ⟨q1, q2, q3, q4⟩ := ih.prs c X W ks vs G h.2
      exact by_val rfl (s_dct q1 q2 q3 q4 h.1)
    · cases h
  | .bin md o a b => fun c X W x G h => by
    have ia := sE a
    have ib := sE b
    unfold mE at h; split at h
    · simp only [Bool.and_eq_true, decide_eq_true_eq] at h
      obtain ⟨⟨rfl, h1⟩, h2⟩ := h
      exact by_val rfl (s_bin G (ia c X W _ G h1).1 (ib c X W _ G h2).1)
    · cases h
  | .neg a => fun c X W x G h => by
    have ia := sE a
    unfold mE at h; split at h
    · exact by_val rfl (s_neg (ia c X W _ G h).1)
    · cases h
  | .cmp o a b => fun c X W x G h => by
    have ia := sE a
    have ib := sE b
    unfold mE at h; split at h
    · simp only [Bool.and_eq_true, decide_eq_true_eq] at h
      obtain ⟨⟨rfl, h1⟩, h2⟩ := h
      exact ⟨s_cmp G (ia c X W _ G h1).1 (ib c X W _ G h2).1 (mE_okX _ _ _ h2), t_cmp G (ia c X W _ G h1).1 (ib c X W _ G h2).1 (mE_okX _ _ _ h2)⟩
    · cases h
  | .chn o o' a b d => fun c X W x G h => by
    have ia := sE a
    have ib := sE b
    have id := sE d
    unfold mE at h; split at h
    · simp only [Bool.and_eq_true, decide_eq_true_eq] at h
      obtain ⟨⟨⟨⟨rfl, rfl⟩, h1⟩, h2⟩, h3⟩ := h
      exact ⟨s_chn G (ia c X W _ G h1).1 (ib c X W _ G h2).1 (id c X W _ G h3).1 (mE_okX _ _ _ h3), t_chn G (ia c X W _ G h1).1 (ib c X W _ G h2).1 (id c X W _ G h3).1 (mE_okX _ _ _ h3)⟩
    · cases h
  | .not a => fun c X W x G h => by
    have ia := sE a
    unfold mE at h; split at h
    · have q := ia c X W _ G h
      exact ⟨s_not q.2 q.1, t_not q.2⟩
    · cases h
  | .and es => fun c X W x G h => by
    have ih := sEs es
    unfold mE at h; split at h
    · exact ⟨(ih.and c X W _ _ G h).1.imp fun σ H Q z => rd_eq (fun τ S => by simp only [ev]) z, (ih.and c X W _ _ G h).2.pt.imp fun σ H Q z => rd_eq (fun τ S => by simp only [ev]) z⟩
    · cases h
  | .or es => fun c X W x G h => by
    have ih := sEs es
    unfold mE at h; split at h
    · exact ⟨(ih.or c X W _ _ G h).1.imp fun σ H Q z => rd_eq (fun τ S => by simp only [ev]) z, (ih.or c X W _ _ G h).2.pt.imp fun σ H Q z => rd_eq (fun τ S => by simp only [ev]) z⟩
    · cases h
  | .ife t a b => fun c X W x G h => by
    have it := sE t
    have ia := sE a
    have ib := sE b
    unfold mE at h; split at h
    · simp only [Bool.and_eq_true] at h
      obtain ⟨⟨h0, h1⟩, h2⟩ := h
      exact ⟨s_ife (it c X W _ G h0).2 (ia c X W _ G h1).1 (ib c X W _ G h2).1, t_ife (it c X W _ G h0).2 (ia c X W _ G h1).2 (ib c X W _ G h2).2⟩
    · cases h
  | .ix a b => fun c X W x G h => by
    have ia := sE a
    have ib := sE b
    unfold mE at h; split at h
    · simp only [Bool.and_eq_true] at h
      exact by_val rfl (s_ix G (ia c X W _ G h.1).1 (ib c X W _ G h.2).1 (mE_okX _ _ _ h.2))
    · cases h
  | .slc md a lo hi => fun c X W x G h => by
    have ia := sE a
    have il := sE lo
    have ih := sE hi
    unfold mE at h; split at h
    · rename_i l p q _ _
      simp only [Bool.and_eq_true] at h
      obtain ⟨⟨h0, h1⟩, h2⟩ := h
      have hl : PO X p (rdO fx W (evO cx lo)) := by
        cases p with
        | none => exact o_none h1
        | some y =>
          simp only [Bool.and_eq_true, Bool.not_eq_true'] at h1
          exact o_some h1.1 (il c X W _ G h1.2).1
      have hh : PO X q (rdO fx W (evO cx hi)) := by
        cases q with
        | none => exact o_none h2
        | some y =>
          simp only [Bool.and_eq_true, Bool.not_eq_true'] at h2
          exact o_some h2.1 (ih c X W _ G h2.2).1
      exact by_val rfl (s_slc G (ia c X W _ G h0).1 hl hh)
    · cases h
  | .rev md a => fun c X W x G h => by
    have ia := sE a
    unfold mE at h; split at h
    · simp only [Bool.and_eq_true, decide_eq_true_eq] at h
      obtain ⟨rfl, h1⟩ := h
      exact by_val rfl (s_rev (ia c X W _ G h1).1)
    · cases h
  | .bi md o es => fun c X W x G h => by
    have ih := sEs es
    unfold mE at h; split at h
    · rename_i y p xs pos
      simp only [Bool.and_eq_true, decide_eq_true_eq] at h
      obtain ⟨⟨⟨⟨h0, h1⟩, h2⟩, h3⟩, hq⟩ := h
      cases xs with
      | nil => cases h2
      | cons x xs =>
        cases es with
        | nil => unfold mEs at h3; cases h3
        | cons e' es' =>
          have h3' := h3
          unfold mEs at h3'
          simp only [Bool.and_eq_true] at h3'
          exact by_val rfl (s_bi G h0 h1 (ih.all c X W _ G h3) (fun env => mEs_star _ c _ h3) (fun env => mEs_star es' c _ h3'.2) hq)
    · cases h
  | .mt md o a es => fun c X W x G h => by
    have ia := sE a
    have ih := sEs es
    unfold mE at h; split at h
    · simp only [Bool.and_eq_true, decide_eq_true_eq] at h
      obtain ⟨⟨⟨⟨h0, h1⟩, h2⟩, h3⟩, h4⟩ := h
      exact by_val rfl (s_mt G h0 h1 h2 (mE_okX _ _ _ h3) (ia c X W _ G h3).1 h4 (ih.all c X W _ G h4))
    · cases h
  | .call k es => fun c X W x G h => by
    have ih := sEs es
    unfold mE at h; split at h
    · simp only [Bool.and_eq_true, decide_eq_true_eq] at h
      obtain ⟨⟨⟨h0, h1⟩, h2⟩, hc⟩ := h
      exact by_val rfl (s_call G h0 h1 hc h2 (ih.all c X W _ G h2))
    · cases h
  | .meth k o es => fun c X W x G h => by
    have io := sE o
    have ih := sEs es
    unfold mE at h; split at h
    · simp only [Bool.and_eq_true, decide_eq_true_eq] at h
      obtain ⟨⟨⟨⟨⟨h0, h1⟩, h2⟩, h3⟩, h4⟩, hc⟩ := h
      exact by_val rfl (s_meth G hc h0 h1 h2 (mE_okX _ _ _ h3) (io c X W _ G h3).1 h4 (ih.all c X W _ G h4))
    · cases h
  | .new md k es => fun c X W x G h => by
    have ih := sEs es
    unfold mE at h; split at h
    · simp only [Bool.and_eq_true, decide_eq_true_eq] at h
      obtain ⟨⟨⟨h0, h1⟩, h2⟩, hc⟩ := h
      exact by_val rfl (s_new G h0 h1 hc h2 (ih.all c X W _ G h2))
    · cases h
  | .newK md k es e => fun c X W x G h => by
    have ih := sEs es
    have ie := sE e
    unfold mE at h; split at h
    · simp only [Bool.and_eq_true, decide_eq_true_eq] at h
      obtain ⟨⟨⟨⟨h0, h1⟩, h2⟩, h3⟩, hc⟩ := h
      exact by_val rfl (s_newK G h0 h1 hc h2 (ih.all c X W _ G h2) (ie c X W _ G h3).1)
    · cases h
  | .attr o f => fun c X W x G h => by
    have io := sE o
    unfold mE at h; split at h
    · simp only [Bool.and_eq_true, decide_eq_true_eq] at h
      obtain ⟨⟨rfl, h1⟩, h2⟩ := h
      exact by_val rfl (s_attr G h1 (mE_okX _ _ _ h2) (io c X W _ G h2).1)
    · cases h
  | .comp md tg it ifs elt => fun c X W x G h => by
    have i1 := sIt it
    have i2 := sEs ifs
    have i3 := sE elt
    unfold mE at h; split at h
    · rename_i y t i cs scope pos
      simp only [Bool.and_eq_true, decide_eq_true_eq] at h
      obtain ⟨⟨⟨⟨⟨⟨⟨h0, h1⟩, h2⟩, h3⟩, h4⟩, h5⟩, h6⟩, hc⟩ := h
      have ok : BlkOk X.N X.env.scope scope (ownT c tg) := by
        rw [G.N, G.sc]
        exact blkOk_by h2
      have pi := i1 c X W i t G h0 h1
      refine by_val rfl ((pe_lc (G.cm hc).1 G.hN pi.1 ok (fun s H C cl fp => sG (G.blk hc s H scope cl C fp) tg t h4) (fun s H C cl fp => i2.ifs _ _ WF cs (G.blk hc s H scope cl C fp) h5) (fun s H C cl fp => (i3 _ _ WF y (G.blk hc s H scope cl C fp) h6).1) pi.2).imp fun σ H Q z => ?_)
      rw [h3]
      exact lc_read z
    · cases h
  | .cmc md tg e ifs elt => fun c X W x G h => by
    have i1 := sE e
    have i2 := sEs ifs
    have i3 := sE elt
    unfold mE at h; split at h
    · rename_i y t i cs scope pos
      simp only [Bool.and_eq_true, decide_eq_true_eq] at h
      obtain ⟨⟨⟨⟨⟨⟨h1, h2⟩, h3⟩, h4⟩, h5⟩, h6⟩, hc⟩ := h
      have ok : BlkOk X.N X.env.scope scope (ownT c tg) := by
        rw [G.N, G.sc]
        exact blkOk_by h2
      refine by_val rfl ((pe_lc (G.cm hc).1 G.hN (i_cell G (i1 c X W i G h1).1) ok (fun s H C cl fp => sG (G.blk hc s H scope cl C fp) tg t h4) (fun s H C cl fp => i2.ifs _ _ WF cs (G.blk hc s H scope cl C fp) h5) (fun s H C cl fp => (i3 _ _ WF y (G.blk hc s H scope cl C fp) h6).1) (ok_set (mE_okX _ _ _ h1) _)).imp fun σ H Q z => ?_)
      rw [h3]
      exact lc_readG z
    · cases h
  | .isx i cs => fun c X W x G h => by
    unfold mE at h; split at h
    · simp only [Bool.and_eq_true, decide_eq_true_eq] at h
      obtain ⟨⟨⟨h0, h1⟩, h2⟩, h3⟩ := h
      exact by_val rfl (s_isx G h0 h1 h2 h3)
    · cases h
  | .xat i f => fun c X W x G h => by
    unfold mE at h; split at h
    · simp only [Bool.and_eq_true, decide_eq_true_eq] at h
      obtain ⟨⟨h0, rfl⟩, h2⟩ := h
      exact by_val rfl (s_xat G h0 h2)
    · cases h
  | .up k es => fun c X W x G h => by
    have ih := sEs es
    unfold mE at h; split at h
    · simp only [Bool.and_eq_true, decide_eq_true_eq] at h
      obtain ⟨⟨⟨⟨⟨h0, h1⟩, h2⟩, h3⟩, h4⟩, hc⟩ := h
      exact by_val rfl (s_up G h0 h1 hc h2 h3 h4 (ih.all c X W _ G h4))
    · cases h
  | .new0 k => fun c X W x G h => by
    unfold mE at h; split at h
    · simp only [Bool.and_eq_true, decide_eq_true_eq] at h
      obtain ⟨⟨h0, h1⟩, hc⟩ := h
      exact by_val rfl (s_new0 G h0 h1 hc)
    · cases h
  | .isi a cs => fun c X W x G h => by
    have ia := sE a
    unfold mE at h; split at h
    · simp only [Bool.and_eq_true, decide_eq_true_eq] at h
      obtain ⟨⟨⟨h0, h1⟩, h2⟩, h3⟩ := h
      exact by_val rfl (s_isi G h0 h1 (mE_okX _ _ _ h2) (ia c X W _ G h2).1 h3)
    · cases h
  | .grf a => fun c X W x G h => by
    have ia := sE a
    unfold mE at h
    have q := ia c X W _ G h
    exact ⟨s_grf q.1, t_grf q.2⟩
  | .frz a => fun c X W x G h => by
    have ia := sE a
    unfold mE at h
    have q := ia c X W x G h
    exact ⟨s_frz q.1, t_frz q.2⟩
theorem sEs : ∀ (es : Es), OkEs fx cx nm es
  | .nil => by
    refine ⟨fun c X W xs G h => ?_, fun c X W xs pos G h => ⟨no_pe fun τ S => by rw [evAnd], no_pw fun τ S => by rw [evAnd]; rfl⟩, fun c X W xs pos G h => ⟨no_pe fun τ S => by rw [evOr], no_pw fun τ S => by rw [evOr]; rfl⟩, fun c X W xs G h => ?_, fun c X W ks vs G h => ?_⟩
    · unfold mEs at h
      cases xs with
      | cons x xs => cases h
      | nil => exact pa_nil.imp fun σ H Q z => rd_nil (rd_eq (fun τ S => by rw [evs]) z)
    · unfold mEs at h
      cases xs with
      | cons x xs => cases h
      | nil => exact pts_nil.imp fun σ H Q z => rd_yes z
    · unfold mPs at h
      simp only [Bool.and_eq_true] at h
      cases ks with
      | cons k ks => cases h.1
      | nil =>
        cases vs with
        | cons v vs => cases h.2
        | nil => exact ⟨fun pos => pps_nil, rfl, rfl, fun _ => ⟨rfl, rfl⟩⟩
  | .cons e es => by
    have i1 := sE e
    have i2 := sEs es
    have ip : ∀ (c : SC) (X : Cx) (W : WX) (ks : List (Option Expr)) (vs : List Expr), Good fx cx nm c X W → mPs nm fx.ts (.cons e es) c ks vs = true →
        (∀ pos, PPs X pos ks vs (trs fx W cx (.cons e es))) ∧ ks.all (·.isSome) = true ∧ ks.length = vs.length ∧ (ks = [] → Es.cons e es = .nil ∧ vs = []) := by
      cases es with
      | nil => intro c X W ks vs G h; unfold mPs at h; cases h
      | cons e2 es =>
        have j2 := sE e2
        have j3 := sEs es
        intro c X W ks vs G h
        unfold mPs at h
        cases ks with
        | nil => cases h
        | cons k ks =>
          cases k with
          | none => cases h
          | some k =>
            cases vs with
            | nil => cases h
            | cons v vs =>
              simp only [Bool.and_eq_true] at h
              obtain ⟨⟨h1, h2⟩, h3⟩ := h
              obtain ⟨q1, q2, q3, q4⟩ := j3.prs c X W ks vs G h3
              refine ⟨fun pos => ?_, ?_, by simp [q3], fun z => by cases z⟩
              · show PPs X pos (some k :: ks) (v :: vs) ((rd fx W (ev cx e), rd fx W (ev cx e2)) :: trs fx W cx es)
                exact pps_cons (i1 c X W k G h1).1 (j2 c X W v G h2).1 (q1 pos)
              · simp only [List.all_cons, Option.isSome_some, Bool.true_and]
                exact q2
    refine ⟨fun c X W xs G h => ?_, fun c X W xs pos G h => ?_, fun c X W xs pos G h => ?_, fun c X W xs G h => ?_, ip⟩
    all_goals
      have h' := h
      unfold mEs at h'
      cases xs with
      | nil => cases h'
      | cons x xs =>
        simp only [Bool.and_eq_true] at h'
        obtain ⟨h1, h2⟩ := h'
        have q1 := i1 c X W x G h1
        first
        | exact (pa_cons q1.1 (i2.all c X W xs G h2) (ok_star (mE_okX _ _ _ h1) _ _)).imp fun σ H Q z => rd_cons (rd_eq (fun τ S => by rw [evs]) z)
        | (cases es with
          | nil =>
            unfold mEs at h2
            cases xs with
            | cons x xs => cases h2
            | nil =>
              first
              | exact ⟨(pe_one q1.1).imp fun σ H Q z => rd_eq (fun τ S => ev_and1 τ S) z, (pw_and1 q1.2).imp fun σ H Q z => rd_eq (fun τ S => by rw [ev_and1]) z⟩
              | exact ⟨(pe_one q1.1).imp fun σ H Q z => rd_eq (fun τ S => ev_or1 τ S) z, (pw_or1 q1.2).imp fun σ H Q z => rd_eq (fun τ S => by rw [ev_or1]) z⟩
              | exact (pts_one q1.2).imp fun σ H Q z => rd_all1 z
          | cons e2 es =>
            have h2' := h2
            unfold mEs at h2'
            cases xs with
            | nil => cases h2'
            | cons x2 xs =>
              first
              | exact ⟨(pe_and q1.1 (i2.and c X W (x2 :: xs) pos G h2).1).imp fun σ H Q z => rd_and (rd_eq (fun τ S => ev_and2 τ S) z), (pw_and q1.2 (i2.and c X W (x2 :: xs) pos G h2).2).imp fun σ H Q z => rd_andT (rd_eq (fun τ S => by rw [ev_and2]) z)⟩
              | exact ⟨(pe_or q1.1 (i2.or c X W (x2 :: xs) pos G h2).1).imp fun σ H Q z => rd_or (rd_eq (fun τ S => ev_or2 τ S) z), (pw_or q1.2 (i2.or c X W (x2 :: xs) pos G h2).2).imp fun σ H Q z => rd_orT (rd_eq (fun τ S => by rw [ev_or2]) z)⟩
              | exact no_pts fun τ S => by rw [evAll])
theorem sIt : ∀ (it : It), OkIt fx cx nm it
  | .seq e => fun c X W x tg G h hp => by
    have ie := sE e
    unfold mIt at h
    exact ⟨i_seq G (ie c X W x G h).1, ok_set (mE_okX _ _ _ h) _⟩
  | .rng es => fun c X W x tg G h hp => by
    have ie := sEs es
    unfold mIt at h; split at h
    · simp only [Bool.and_eq_true, decide_eq_true_eq] at h
      obtain ⟨⟨⟨h0, h1⟩, h2⟩, h3⟩ := h
      exact ⟨i_rng G h0 h1 h2 h3 (ie.all c X W _ G h3), fun v => rfl⟩
    · cases h
  | .enum e => fun c X W x tg G h hp => by
    have ie := sE e
    unfold mIt at h; split at h
    · simp only [Bool.and_eq_true, decide_eq_true_eq] at h
      obtain ⟨⟨h0, h1⟩, h2⟩ := h
      cases tg with
      | Tuple elts kk tpos => exact ⟨i_enum G h0 h1 (mE_okX _ _ _ h2) (ie c X W _ G h2).1, fun v => rfl⟩
      | _ => cases hp
    · cases h
  | .zip a b => fun c X W x tg G h hp => by
    have ia := sE a
    have ib := sE b
    unfold mIt at h; split at h
    · simp only [Bool.and_eq_true, decide_eq_true_eq] at h
      obtain ⟨⟨⟨h0, h1⟩, h2⟩, h3⟩ := h
      cases tg with
      | Tuple elts kk tpos => exact ⟨i_zip G h0 h1 (mE_okX _ _ _ h2) (mE_okX _ _ _ h3) (ia c X W _ G h2).1 (ib c X W _ G h3).1, fun v => rfl⟩
      | _ => cases hp
    · cases h
  | .rvs e => fun c X W x tg G h hp => by
    have ie := sE e
    unfold mIt at h; split at h
    · simp only [Bool.and_eq_true, decide_eq_true_eq] at h
      obtain ⟨⟨h0, h1⟩, h2⟩ := h
      exact ⟨i_rvs G h0 h1 (mE_okX _ _ _ h2) (ie c X W _ G h2).1, fun v => rfl⟩
    · cases h
  | .rvr .nil => fun c X W x tg G h hp => by
    unfold mIt at h; split at h
    · rename_i y p z p2 xs pos2 pos
      simp only [Bool.and_eq_true, decide_eq_true_eq] at h
      obtain ⟨⟨_, h2⟩, h3⟩ := h
      unfold mEs at h3
      cases xs with
      | nil => simp at h2
      | cons x xs => cases h3
    · cases h
  | .rvr (.cons a .nil) => fun c X W x tg G h hp => by
    have ia := sE a
    unfold mIt at h; split at h
    · rename_i y p z p2 xs pos2 pos
      simp only [Bool.and_eq_true, decide_eq_true_eq] at h
      obtain ⟨⟨⟨⟨⟨h0, h1⟩, k0⟩, k1⟩, h2⟩, h3⟩ := h
      have h3' := h3
      unfold mEs at h3'
      cases xs with
      | nil => cases h3'
      | cons x xs =>
        simp only [Bool.and_eq_true] at h3'
        have h4 := h3'.2
        unfold mEs at h4
        cases xs with
        | cons x xs => cases h4
        | nil => exact ⟨i_rvr1 G h0 h1 k0 k1 h3'.1 (ia c X W _ G h3'.1).1, fun v => rfl⟩
    · cases h
  | .rvr (.cons a (.cons b es)) => fun c X W x tg G h hp => by
    have ia := sE a
    have ib := sE b
    unfold mIt at h; split at h
    · rename_i y p z p2 xs pos2 pos
      simp only [Bool.and_eq_true, decide_eq_true_eq] at h
      obtain ⟨⟨⟨⟨⟨h0, h1⟩, k0⟩, k1⟩, h2⟩, h3⟩ := h
      cases xs with
      | nil => unfold mEs at h3; cases h3
      | cons x xs =>
        unfold mEs at h3
        simp only [Bool.and_eq_true] at h3
        obtain ⟨h3, h4⟩ := h3
        cases xs with
        | nil => unfold mEs at h4; cases h4
        | cons x2 xs =>
          unfold mEs at h4
          simp only [Bool.and_eq_true] at h4
          obtain ⟨h4, h5⟩ := h4
          cases xs with
          | cons x3 xs => simp at h2
          | nil =>
            cases es with
            | cons e es => unfold mEs at h5; cases h5
            | nil => exact ⟨i_rvr2 G h0 h1 k0 k1 h3 h4 (ia c X W _ G h3).1 (ib c X W _ G h4).1, fun v => rfl⟩
    · cases h
end
end
end Mn
set_option Elab.async false
set_option linter.all false
set_option maxRecDepth 100000
set_option maxHeartbeats 4000000
/-! Mn16: what a statement asks. -/
namespace Mn
open PySem PySem.Spec PyProof.Rows PySem.SeqAt
open L2 hiding ixN atI Takes XE CX takes_of passes_call passAt
open L2N (Takes XE CX takes_of)

/-- the cells below n stay -/
structure GrowS (n : Nat) (g g' : Gh) (H H' : Hp) : Prop where
  F : ∀ a, g.F a → g'.F a
  keep : ∀ a o, g.F a → H a = some o → H' a = some o
  P : g'.P = g.P
  kP : ∀ a o, g.P a → H a = some o → H' a = some o
  as : ∀ (k : Nat) (a : Addr), k < n → g.as[k]? = some a → g'.as[k]? = some a
  bs : ∀ (k : Nat) (a : Addr), g.bs[k]? = some a → g'.bs[k]? = some a
section
variable {n : Nat} {g g1 g2 : Gh} {H H1 H2 : Hp}
theorem GrowS.refl : GrowS n g g H H := ⟨fun _ h => h, fun _ _ _ h => h, rfl, fun _ _ _ h => h, fun _ _ _ h => h, fun _ _ h => h⟩
theorem GrowS.trans (a : GrowS n g g1 H H1) (b : GrowS n g1 g2 H1 H2) : GrowS n g g2 H H2 :=
  ⟨fun x h => b.F x (a.F x h), fun x o h e => b.keep x o (a.F x h) (a.keep x o h e), b.P.trans a.P, fun x o h e => b.kP x o (by rw [a.P]; exact h) (a.kP x o h e), fun k x l h => b.as k x l (a.as k x l h), fun k x h => b.bs k x (a.bs k x h)⟩
theorem Grow.gs (w : Grow g g1 H H1) : GrowS n g g1 H H1 := ⟨w.F, w.keep, w.P, w.kP, fun k a _ h => w.as k a h, w.bs⟩
theorem GrowS.kf (w : GrowS n g g1 H H1) : KeepF g g1 H H1 := ⟨w.F, w.keep, w.bs⟩
theorem GrowS.len (w : GrowS n g g1 H H1) (h : n ≤ g.as.length) : n ≤ g1.as.length := by
  cases n with
  | zero => exact Nat.zero_le _
  | succ n =>
    have e : g.as[n]? = some (g.as[n]'(by omega)) := List.getElem?_eq_getElem (by omega)
    have := (List.getElem?_eq_some_iff.mp (w.as n _ (Nat.lt_succ_self n) e)).1
    omega
end
/-- what a run of statements asks -/
def RunS (fx : Fx) (n : Nat) (g : Gh) (H : Hp) (r : RS) (D : Ends) (W : WX) : Prop := match r with
  | .nx τ S => ∀ g' σ' H', GrowS n g g' H H' → Rel fx g' S H' → Slots fx g' H' τ σ' → D.nx σ' H'
  | .brk τ S => ∀ g' σ' H', GrowS n g g' H H' → Rel fx g' S H' → Slots fx g' H' τ σ' → D.bk σ' H'
  | .cnt τ S => ∀ g' σ' H', GrowS n g g' H H' → Rel fx g' S H' → Slots fx g' H' τ σ' → D.ct σ' H'
  | .ret t S => ∀ g' v H', GrowS n g g' H H' → Rel fx g' S H' → RepT fx g' H' v t → D.rt v H'
  | .exc c p τ S => ∀ g' σ' cls d H', GrowS n g g' H H' → Rel fx g' S H' → Slots fx g' H' τ σ' → RepX fx g' H' cls d c p → W cls d σ' H'
  | .bad => False
section
variable {fx : Fx} {n : Nat} {g g1 : Gh} {H H1 : Hp} {D : Ends} {W : WX} {r : RS}
theorem RunS.grow (w : GrowS n g g1 H H1) (h : RunS fx n g H r D W) : RunS fx n g1 H1 r D W := by
  cases r with
  | nx τ S => exact fun g' σ' H' w2 => h g' σ' H' (w.trans w2)
  | brk τ S => exact fun g' σ' H' w2 => h g' σ' H' (w.trans w2)
  | cnt τ S => exact fun g' σ' H' w2 => h g' σ' H' (w.trans w2)
  | ret t S => exact fun g' v H' w2 => h g' v H' (w.trans w2)
  | exc c p τ S => exact fun g' σ' cls d H' w2 => h g' σ' cls d H' (w.trans w2)
  | bad => exact h
/-- there is a state with its run -/
def At (fx : Fx) (n : Nat) (g : Gh) (H : Hp) (m : Sl → Store → RS) (D : Ends) (W : WX) (σ' : L2.St) (H' : Hp) : Prop := ∃ g1 τ S, GrowS n g g1 H H' ∧ Rel fx g1 S H' ∧ Slots fx g1 H' τ σ' ∧ RunS fx n g1 H' (m τ S) D W
theorem RunS.seq {f : Sl → Store → RS} (h : RunS fx n g H (r.seq f) D W) : RunS fx n g H r { D with nx := At fx n g H f D W } W := by
  cases r with
  | nx τ S => exact fun g' σ' H' w rl sl => ⟨g', τ, S, w, rl, sl, RunS.grow w h⟩
  | _ => exact h
theorem RunS.mono {D' : Ends} (h : RunS fx n g H r D W) (h1 : ∀ σ H, D.nx σ H → D'.nx σ H) (h2 : ∀ σ H, D.bk σ H → D'.bk σ H) (h3 : ∀ σ H, D.ct σ H → D'.ct σ H) (h4 : ∀ v H, D.rt v H → D'.rt v H) : RunS fx n g H r D' W := by
  cases r with
  | nx τ S => exact fun g' σ' H' w rl sl => h1 _ _ (h g' σ' H' w rl sl)
  | brk τ S => exact fun g' σ' H' w rl sl => h2 _ _ (h g' σ' H' w rl sl)
  | cnt τ S => exact fun g' σ' H' w rl sl => h3 _ _ (h g' σ' H' w rl sl)
  | ret t S => exact fun g' v H' w rl rp => h4 _ _ (h g' v H' w rl rp)
  | exc c p τ S => exact h
  | bad => exact h
theorem RunS.stm {q : R T} {τ : Sl} {σ : L2.St} {f : T → Store → RS} (h : RunS fx n g H (q.stm τ f) D W) (sl : Slots fx g H τ σ) :
    Run fx g H q (fun v H1 => ∃ g1 S1 t, q = .ok t S1 ∧ Grow g g1 H H1 ∧ Rel fx g1 S1 H1 ∧ RepT fx g1 H1 v t ∧ RunS fx n g1 H1 (f t S1) D W) (fun c d H' => W c d σ H') := by
  cases q with
  | ok t S => exact fun g' v H' w rl rp => ⟨g', S, t, rfl, w, rl, rp, RunS.grow w.gs h⟩
  | exc c p S => exact fun g' cls d H' w rl rx => h g' σ cls d H' w.gs rl (sl.grow w) rx
  | bad => exact h
end
/-- a statement's reading -/
def rdS (fx : Fx) (W : WX) (n : Nat) (m : Sl → Store → RS) : TS := fun D σ H => ∃ g τ S, n ≤ g.as.length ∧ Rel fx g S H ∧ Slots fx g H τ σ ∧ RunS fx n g H (m τ S) D W
section
variable {fx : Fx} {n : Nat} {g : Gh} {H : Hp} {S : Store} {W : WX}
/-- a cell is nobody's any more -/
theorem Rel.kill {k : Nat} {a : Addr} {c : Cell} (r : Rel fx g S H) (hk : g.as[k]? = some a) (hc : S.loc[k]? = some c) : Rel fx (g.addF a) (S.setL k .dead) H := by
  have hm := mem_of_get hk
  have nd := r.nd
  rw [List.nodup_append] at nd
  obtain ⟨n1, n2, n3⟩ := nd
  have hkl := (List.getElem?_eq_some_iff.mp hc).1
  have w : ∀ a', g.F a' → (g.addF a).F a' := fun _ h => .inl h
  have cell : ∀ {b : Addr} {c : Cell}, CellAt fx g H b c → CellAt fx (g.addF a) H b c := fun {b c} h => by
    cases c with
    | dead => exact h
    | lst ds => obtain ⟨vs, e, q⟩ := h; exact ⟨vs, e, q.mono w (fun _ _ _ z => z) fun _ _ z => z⟩
    | dct ks ds => obtain ⟨vs, e, l, q⟩ := h; exact ⟨vs, e, l, q.mono w (fun _ _ _ z => z) fun _ _ z => z⟩
    | obj c fs => obtain ⟨dx, fvs, vs, e, c1, f, q⟩ := h; exact ⟨dx, fvs, vs, e, c1, f, q.mono w (fun _ _ _ z => z) fun _ _ z => z⟩
  have get : ∀ {j : Nat} {d : Cell}, (S.loc.set k .dead)[j]? = some d → (j = k ∧ d = .dead) ∨ (j ≠ k ∧ S.loc[j]? = some d) := fun {j d} h => by
    by_cases e : j = k
    · subst e
      rw [List.getElem?_set_self hkl] at h
      cases h
      exact .inl ⟨rfl, rfl⟩
    · rw [List.getElem?_set_ne (Ne.symm e)] at h
      exact .inr ⟨e, h⟩
  refine ⟨by simp [Gh.addF, Store.setL, r.lL], r.lG, fun j b d h1 h2 => ?_, fun j b d h1 h2 => cell (r.cG j b d h1 h2), r.nd, fun j b d h1 h2 h3 => ?_, fun b h => ?_, fun b h => ?_, fun b h => ?_⟩
  · rcases get h2 with ⟨rfl, rfl⟩ | ⟨e, h2⟩
    · exact (r.asSome (mem_of_get h1))
    · exact cell (r.cL j b d h1 h2)
  · rcases get h2 with ⟨rfl, rfl⟩ | ⟨e, h2⟩
    · cases h3
    · rintro (z | z)
      · exact r.nF j b d h1 h2 h3 z
      · subst z
        exact e (nodup_get n1 h1 hk)
  · rintro (z | z)
    · exact r.nG b h z
    · subst z
      exact n3 _ hm _ h rfl
  · rcases h with z | z
    · exact r.fs b z
    · rw [z]; exact r.asSome hm
  · obtain ⟨p1, p2, p3, p4⟩ := r.pv b h
    refine ⟨p1, p2, ?_, p4⟩
    rintro (q | q)
    · exact p3 q
    · exact p1 (by rw [q]; exact hm)
theorem grow_addF (a : Addr) : Grow g (g.addF a) H H := ⟨fun _ h => .inl h, fun _ _ _ e => e, rfl, fun _ _ _ e => e, fun _ _ h => h, fun _ _ h => h⟩
theorem rep_cut {k : Nat} {v : V} {t : T} (r : RepT fx g H v t) (hl : g.as.length = k + 1) (h : noCell k (some t) = true) : RepT fx (g.cutF k) H v t := by
  cases r with
  | d r => exact .d (r.mono (fun _ z => .inl z) (fun _ _ _ z => z) fun _ _ z => z)
  | cell e =>
    rename_i a j
    have hj : j ≠ k := by simpa [noCell] using h
    have hlt := (List.getElem?_eq_some_iff.mp e).1
    refine .cell ?_
    show (g.as.take k)[j]? = some a
    rw [List.getElem?_take_of_lt (by omega)]
    exact e
  | _ => cases h
/-- slot i goes to the trees -/
def frzI (n : Nat) (i : Nat) (τ : Sl) (S : Store) : RS := match τ[i]? with
  | some (some (.cell k)) => if n ≤ k then (match S.loc[k]? with
      | some c => match c with
        | .dead => .bad
        | .lst xs => if k + 1 = S.loc.length ∧ (τ.set i none).all (noCell k) then .nx (τ.set i (some (.d (.lst xs)))) (S.trunc k) else .nx (τ.set i (some (.d (.lst xs)))) (S.setL k .dead)
        | .dct ks ds => if k + 1 = S.loc.length ∧ (τ.set i none).all (noCell k) then .nx (τ.set i (some (.d (.dct ks ds)))) (S.trunc k) else .nx (τ.set i (some (.d (.dct ks ds)))) (S.setL k .dead)
        | .obj cc fs => if k + 1 = S.loc.length ∧ (τ.set i none).all (noCell k) then .nx (τ.set i (some (.d (.obj cc fs)))) (S.trunc k) else .nx (τ.set i (some (.d (.obj cc fs)))) (S.setL k .dead)
      | none => .bad) else .bad
  | _ => .bad
theorem frz_step {i k : Nat} {a : Addr} {c : Cell} {d : D} {τ : Sl} {σ : L2.St} (rl : Rel fx g S H) (sl : Slots fx g H τ σ) (hn : n ≤ k) (hi : τ[i]? = some (some (.cell k))) (hk : g.as[k]? = some a) (hc : S.loc[k]? = some c)
    (hd : ∀ g' : Gh, g'.F a → (∀ b, g.F b → g'.F b) → g'.bs = g.bs → RepD fx g'.F g'.bs H (.ref a) d) :
    (k + 1 = S.loc.length ∧ (τ.set i none).all (noCell k) = true → ∃ g', GrowS n g g' H H ∧ Rel fx g' (S.trunc k) H ∧ Slots fx g' H (τ.set i (some (.d d))) σ) ∧
    ∃ g', GrowS n g g' H H ∧ Rel fx g' (S.setL k .dead) H ∧ Slots fx g' H (τ.set i (some (.d d))) σ := by
  obtain ⟨v, ev, rv⟩ := sl.at_ i _ hi
  have hv : v = .ref a := by
    cases rv with
    | cell e => rw [hk] at e; cases e; rfl
  subst hv
  have put : ∀ g' : Gh, RepT fx g' H (.ref a) (.d d) → (∀ j t, j ≠ i → τ[j]? = some (some t) → ∀ v, RepT fx g H v t → RepT fx g' H v t) → Slots fx g' H (τ.set i (some (.d d))) σ := fun g' r0 h => by
    refine ⟨by simpa using sl.le, fun j t e => ?_⟩
    by_cases z : i = j
    · subst z
      have hl : i < τ.length := by
        have := (List.getElem?_eq_some_iff.mp e).1
        simpa using this
      rw [List.getElem?_set_self hl] at e
      cases e
      exact ⟨_, ev, r0⟩
    · rw [List.getElem?_set_ne z] at e
      obtain ⟨v, e1, r⟩ := sl.at_ j t e
      exact ⟨v, e1, h j t (Ne.symm z) e v r⟩
  constructor
  · rintro ⟨hl, ha⟩
    refine ⟨g.cutF k, ⟨fun _ z => .inl z, fun _ _ _ z => z, rfl, fun _ _ _ z => z, fun j b l e => ?_, fun _ _ z => z⟩, rl.cut k, put _ (.d (hd _ (.inr (drop_mem hk)) (fun _ z => .inl z) rfl)) fun j t hj e v r => ?_⟩
    · show (g.as.take k)[j]? = some b
      rw [List.getElem?_take_of_lt (by omega)]
      exact e
    · refine rep_cut r (by rw [rl.lL, ← hl]) ?_
      refine List.all_eq_true.mp ha (some t) ?_
      refine List.mem_of_getElem? (i := j) ?_
      rw [List.getElem?_set_ne (Ne.symm hj)]
      exact e
  · exact ⟨g.addF a, (grow_addF a).gs, rl.kill hk hc, put _ (.d (hd _ (.inr rfl) (fun _ z => .inl z) rfl)) fun j t hj e v r => r.grow (grow_addF a)⟩
theorem frz_run {i : Nat} {τ : Sl} {σ : L2.St} {f : Sl → Store → RS} {D : Ends} (rl : Rel fx g S H) (sl : Slots fx g H τ σ) (h : RunS fx n g H ((frzI n i τ S).seq f) D W) : ∃ g' τ' S', GrowS n g g' H H ∧ Rel fx g' S' H ∧ Slots fx g' H τ' σ ∧ RunS fx n g' H (f τ' S') D W := by
  unfold frzI at h
  split at h
  · rename_i k hi
    split at h
    · rename_i hn
      obtain ⟨v, ev, rv⟩ := sl.at_ i _ hi
      cases rv with
      | cell hk =>
        rename_i a
        split at h
        · rename_i c hc
          have q := rl.cL _ _ _ hk hc
          split at h
          · exact h.elim
          · obtain ⟨vs, e1, e2⟩ := q
            obtain ⟨s1, s2⟩ := frz_step (n := n) (d := .lst _) rl sl hn hi hk hc fun g' f1 f2 f3 => .lst f1 e1 (e2.mono f2 (fun _ _ _ z => z) (by rw [f3]; exact fun _ _ z => z))
            split at h
            · obtain ⟨g', w, rl', sl'⟩ := s1 (by assumption)
              exact ⟨g', _, _, w, rl', sl', RunS.grow w h⟩
            · obtain ⟨g', w, rl', sl'⟩ := s2
              exact ⟨g', _, _, w, rl', sl', RunS.grow w h⟩
          · obtain ⟨vs, e1, e2, e3⟩ := q
            obtain ⟨s1, s2⟩ := frz_step (n := n) (d := .dct _ _) rl sl hn hi hk hc fun g' f1 f2 f3 => .dct f1 e1 rfl e2 (e3.mono f2 (fun _ _ _ z => z) (by rw [f3]; exact fun _ _ z => z))
            split at h
            · obtain ⟨g', w, rl', sl'⟩ := s1 (by assumption)
              exact ⟨g', _, _, w, rl', sl', RunS.grow w h⟩
            · obtain ⟨g', w, rl', sl'⟩ := s2
              exact ⟨g', _, _, w, rl', sl', RunS.grow w h⟩
          · obtain ⟨dx, fvs, vs, e1, e2, e3, e4⟩ := q
            obtain ⟨s1, s2⟩ := frz_step (n := n) (d := .obj _ _) rl sl hn hi hk hc fun g' f1 f2 f3 => .obj f1 e1 e2 e3 (e4.mono f2 (fun _ _ _ z => z) (by rw [f3]; exact fun _ _ z => z))
            split at h
            · obtain ⟨g', w, rl', sl'⟩ := s1 (by assumption)
              exact ⟨g', _, _, w, rl', sl', RunS.grow w h⟩
            · obtain ⟨g', w, rl', sl'⟩ := s2
              exact ⟨g', _, _, w, rl', sl', RunS.grow w h⟩
        · exact h.elim
    · exact h.elim
  · exact h.elim
/-- slot i's list goes to those that stay -/
def grfI (n : Nat) (i : Nat) (τ : Sl) (S : Store) : RS := match τ[i]? with
  | some (some (.cell k)) => if n ≤ k ∧ k + 1 = S.loc.length ∧ (τ.set i none).all (noCell k) then (match S.loc[k]? with
      | some (.lst xs) => .nx (τ.set i (some (.d (.gref S.glb.length)))) ((S.trunc k).pushG (.lst xs))
      | some (.dct ks ds) => .nx (τ.set i (some (.d (.gref S.glb.length)))) ((S.trunc k).pushG (.dct ks ds))
      | _ => .bad) else .bad
  | _ => .bad
theorem rep_toG {k : Nat} {p : Addr} {v : V} {t : T} (r : RepT fx g H v t) (hl : g.as.length = k + 1) (h : noCell k (some t) = true) : RepT fx (g.toG k p) H v t := by
  cases r with
  | d r => exact .d (r.mono (fun _ z => z) (fun _ _ _ z => z) fun _ _ z => bs_app z)
  | cell e =>
    rename_i a j
    have hj : j ≠ k := by simpa [noCell] using h
    have hlt := (List.getElem?_eq_some_iff.mp e).1
    refine .cell ?_
    show (g.as.take k)[j]? = some a
    rw [List.getElem?_take_of_lt (by omega)]
    exact e
  | _ => cases h
theorem grf_run {i : Nat} {τ : Sl} {σ : L2.St} {f : Sl → Store → RS} {D : Ends} (rl : Rel fx g S H) (sl : Slots fx g H τ σ) (h : RunS fx n g H ((grfI n i τ S).seq f) D W) : ∃ g' τ' S', GrowS n g g' H H ∧ Rel fx g' S' H ∧ Slots fx g' H τ' σ ∧ RunS fx n g' H (f τ' S') D W := by
  unfold grfI at h
  split at h
  · rename_i k hi
    split at h
    · rename_i hc
      obtain ⟨hn, hk, ha⟩ := hc
      obtain ⟨v, ev, rv⟩ := sl.at_ i _ hi
      cases rv with
      | cell e =>
        rename_i a
        have w : GrowS n g (g.toG k a) H H := ⟨fun _ z => z, fun _ _ _ z => z, rfl, fun _ _ _ z => z, fun j b l e => by
          show (g.as.take k)[j]? = some b
          rw [List.getElem?_take_of_lt (by omega)]
          exact e, fun _ _ z => bs_app z⟩
        have fa : (g.bs ++ [a])[S.glb.length]? = some a := by
          rw [← rl.lG, List.getElem?_append_right (Nat.le_refl _)]
          simp
        have sl' : Slots fx (g.toG k a) H (τ.set i (some (.d (.gref S.glb.length)))) σ := by
          refine ⟨by simpa using sl.le, fun j t e2 => ?_⟩
          by_cases z : i = j
          · subst z
            have hl : i < τ.length := by
              have := (List.getElem?_eq_some_iff.mp e2).1
              simpa using this
            rw [List.getElem?_set_self hl] at e2
            cases e2
            exact ⟨_, ev, .d (.gref fa)⟩
          · rw [List.getElem?_set_ne z] at e2
            obtain ⟨v, e1, r⟩ := sl.at_ j t e2
            refine ⟨v, e1, rep_toG r (by rw [rl.lL, ← hk]) ?_⟩
            refine List.all_eq_true.mp ha (some t) ?_
            refine List.mem_of_getElem? (i := j) ?_
            rw [List.getElem?_set_ne z]
            exact e2
        split at h
        · rename_i e3
          exact ⟨_, _, _, w, rl.toG e hk e3 rfl, sl', RunS.grow w h⟩
        · rename_i e3
          exact ⟨_, _, _, w, rl.toG e hk e3 rfl, sl', RunS.grow w h⟩
        · exact h.elim
    · exact h.elim
  · exact h.elim
end

/-! ### an exception in hand -/
section
variable {fx : Fx} {e : Option (Addr × Nat × Option Addr)} {F : Addr → Prop} {bs : List Addr} {g : Gh} {H : Hp} {S : Store}
theorem ClsG.wx {c : Nat} (h : ClsG fx c) : ClsG (fx.wx e) c := ⟨h.cl, h.no, h.ty1, h.ty2, h.ty3, h.ty4, h.is1, h.is2⟩
mutual
theorem RepD.wx : ∀ {v : V} {d : D}, RepD fx F bs H v d → RepD (fx.wx e) F bs H v d
  | _, _, .non => .non
  | _, _, .bl b => .bl b
  | _, _, .int i => .int i
  | _, _, .str x => .str x
  | _, _, .tup h r => .tup h (RepDs.wx r)
  | _, _, .lst h q r => .lst h q (RepDs.wx r)
  | _, _, .obj h q c f r => .obj h q c.wx f (RepDs.wx r)
  | _, _, .dct h q z l r => .dct h q z l (RepDs.wx r)
  | _, _, .gref h => .gref h
theorem RepDs.wx : ∀ {v : List V} {d : List D}, RepDs fx F bs H v d → RepDs (fx.wx e) F bs H v d
  | _, _, .nil => .nil
  | _, _, .cons h r => .cons (RepD.wx h) (RepDs.wx r)
end
mutual
theorem RepT.wx : ∀ {v : V} {t : T}, t.noX = true → RepT fx g H v t → RepT (fx.wx e) g H v t
  | _, _, _, .d h => .d h.wx
  | _, _, _, .cell h => .cell h
  | _, _, n, .tup h r => .tup h (RepTs.wx (by simpa [T.noX] using n) r)
  | _, _, n, .lst h r => .lst h (RepTs.wx (by simpa [T.noX] using n) r)
  | _, _, n, .exc h r => by simp [T.noX] at n
theorem RepTs.wx : ∀ {v : List V} {t : List T}, T.noXs t = true → RepTs fx g H v t → RepTs (fx.wx e) g H v t
  | _, _, _, .nil => .nil
  | _, _, n, .cons h r => by
    simp only [T.noXs, Bool.and_eq_true] at n
    exact .cons (RepT.wx n.1 h) (RepTs.wx n.2 r)
end
mutual
theorem RepT.nox (hx : fx.ex = none) : ∀ {v : V} {t : T}, RepT fx g H v t → t.noX = true
  | _, _, .d h => rfl
  | _, _, .cell h => rfl
  | _, _, .tup h r => by simpa [T.noX] using RepTs.nox hx r
  | _, _, .lst h r => by simpa [T.noX] using RepTs.nox hx r
  | _, _, .exc h r => by rw [hx] at h; cases h
theorem RepTs.nox (hx : fx.ex = none) : ∀ {v : List V} {t : List T}, RepTs fx g H v t → T.noXs t = true
  | _, _, .nil => rfl
  | _, _, .cons h r => by simp only [T.noXs, Bool.and_eq_true]; exact ⟨RepT.nox hx h, RepTs.nox hx r⟩
end
theorem CellAt.wx {a : Addr} : ∀ {c : Cell}, CellAt fx g H a c → CellAt (fx.wx e) g H a c
  | .dead, h => h
  | .lst _, ⟨vs, h, r⟩ => ⟨vs, h, r.wx⟩
  | .dct _ _, ⟨vs, h, l, r⟩ => ⟨vs, h, l, r.wx⟩
  | .obj _ _, ⟨dx, fvs, vs, h, c, f, r⟩ => ⟨dx, fvs, vs, h, c.wx, f, r.wx⟩
theorem Rel.wx (r : Rel fx g S H) : Rel (fx.wx e) g S H := ⟨r.lL, r.lG, fun k a c h1 h2 => (r.cL k a c h1 h2).wx, fun k a c h1 h2 => (r.cG k a c h1 h2).wx, r.nd, r.nF, r.nG, r.fs, r.pv⟩
theorem XRep.wx {d : Option Addr} {c : Nat} {p : List D} (h : XRep fx g H d c p) : XRep (fx.wx e) g H d c p := by
  obtain ⟨h1, h2, h3⟩ := h
  refine ⟨h1, h2, ?_⟩
  rcases h3 with h3 | ⟨dd, fs, vs, e1, e2, e3, e4, e5⟩
  · exact .inl h3
  · exact .inr ⟨dd, fs, vs, e1, e2, e3, e4, e5.wx⟩
theorem noXo_get {τ : Sl} (h : τ.all noXo = true) {i : Nat} {t : T} (hi : τ[i]? = some (some t)) : t.noX = true := List.all_eq_true.mp h (some t) (List.mem_of_getElem? hi)
theorem Slots.wx {τ : Sl} {σ : L2.St} (h : τ.all noXo = true) (s : Slots fx g H τ σ) : Slots (fx.wx e) g H τ σ :=
  ⟨s.le, fun i t hi => let ⟨v, e1, r⟩ := s.at_ i t hi; ⟨v, e1, r.wx (noXo_get h hi)⟩⟩
theorem Slots.nox {τ : Sl} {σ : L2.St} (hx : fx.ex = none) (s : Slots fx g H τ σ) : τ.all noXo = true := by
  refine List.all_eq_true.mpr fun o ho => ?_
  obtain ⟨i, hi⟩ := List.mem_iff_getElem?.mp ho
  cases o with
  | none => rfl
  | some t =>
    obtain ⟨v, e1, r⟩ := s.at_ i t hi
    exact r.nox hx
/-- slot i is empty on both sides -/
theorem Slots.gone {τ : Sl} {σ : L2.St} (s : Slots fx g H τ σ) (i : Nat) : Slots fx g H (τ.set i none) (σ.set i none) := by
  refine ⟨by simpa using s.le, fun j t e => ?_⟩
  by_cases h : i = j
  · subst h
    have hl : i < τ.length := by
      have := (List.getElem?_eq_some_iff.mp e).1
      simpa using this
    rw [List.getElem?_set_self hl] at e
    cases e
  · rw [List.getElem?_set_ne h] at e ⊢
    exact s.at_ j t e
/-- what a suite's end is wished -/
def endX (o : Option Nat) (D : Ends) : Ends := match o with
  | none => D
  | some i => Ends.del D i
def slX (o : Option Nat) (σ : L2.St) : L2.St := match o with
  | none => σ
  | some i => σ.set i none
theorem Slots.xDel {τ : Sl} {σ : L2.St} (s : Slots fx g H τ σ) (o : Option Nat) : Slots fx g H (Mn.xDel o τ) (slX o σ) := by
  cases o with
  | none => exact s
  | some i => exact s.gone i
theorem xout_run {n : Nat} {r : RS} {D : Ends} {W W' : WX} {o : Option Nat} (hx : fx.ex = none) (h : RunS fx n g H (r.xOut o) D W) : RunS (fx.wx e) n g H r (endX o D) W' := by
  have back : ∀ {g' : Gh} {H' : Hp} {τ : Sl} {σ' : L2.St}, (xDel o τ).all noXo = true → Slots (fx.wx e) g' H' τ σ' → Slots fx g' H' (xDel o τ) (slX o σ') := fun ha s => (Slots.wx (e := fx.ex) ha (s.xDel o) : Slots ((fx.wx e).wx fx.ex) _ _ _ _)
  have rback : ∀ {g' : Gh} {H' : Hp} {S' : Store}, Rel (fx.wx e) g' S' H' → Rel fx g' S' H' := fun r => (Rel.wx (e := fx.ex) r : Rel ((fx.wx e).wx fx.ex) _ _ _)
  cases r with
  | bad => exact h
  | exc c p τ S' => exact h.elim
  | ret t S' =>
    simp only [RS.xOut] at h
    split at h
    · rename_i hn
      intro g' v H' w rl r
      have q := h g' v H' w (rback rl) (RepT.wx (e := fx.ex) hn r : RepT ((fx.wx e).wx fx.ex) _ _ _ _)
      cases o <;> exact q
    · exact h.elim
  | nx τ S' =>
    simp only [RS.xOut] at h
    split at h
    · rename_i hn
      intro g' σ' H' w rl s
      have q := h g' (slX o σ') H' w (rback rl) (back hn s)
      cases o <;> exact q
    · exact h.elim
  | brk τ S' =>
    simp only [RS.xOut] at h
    split at h
    · rename_i hn
      intro g' σ' H' w rl s
      have q := h g' (slX o σ') H' w (rback rl) (back hn s)
      cases o <;> exact q
    · exact h.elim
  | cnt τ S' =>
    simp only [RS.xOut] at h
    split at h
    · rename_i hn
      intro g' σ' H' w rl s
      have q := h g' (slX o σ') H' w (rback rl) (back hn s)
      cases o <;> exact q
    · exact h.elim
end
end Mn
set_option Elab.async false
set_option linter.all false
set_option maxRecDepth 100000
set_option maxHeartbeats 4000000
/-! Mn17: statements. -/
namespace Mn
open PySem PySem.Spec PyProof.Rows PySem.SeqAt
open L2 hiding ixN atI Takes XE CX takes_of passes_call passAt
open L2N (Takes XE CX takes_of)

def xComp : Expr → Bool
  | .ListComp _ _ _ _ => true
  | .SetComp _ _ _ _ => true
  | .DictComp _ _ _ _ _ => true
  | _ => false
def E.isFrz : E → Bool
  | .frz _ => true
  | .cmc _ _ _ _ _ => true
  | .grf _ => true
  | _ => false
def S1.ghost : S1 → Bool
  | .frz _ => true
  | .clr _ => true
  | .grf _ => true
  | _ => false
mutual
def mS (nm : Nm) (ts : List Nat) : S1 → SC → Stmt → Bool
  | .set tg e, c, s => match s with
    | .Assign [t] v _ => mTg c tg t && mE nm ts e c v && !(tupX t && tupX v) && !(e.isFrz && xComp v)
    | _ => false
  | .aug i o e, c, s => match s with
    | .AugAssign (.Name y _) p v _ => c.loc i y && decide (p = o.py) && mE nm ts e c v
    | _ => false
  | .setA o f e, c, s => match s with
    | .Assign [.Attribute l g _] v _ => decide (g = fname f) && decide (f < 28) && mE nm ts o c l && mE nm ts e c v
    | _ => false
  | .augA o f q e, c, s => match s with
    | .AugAssign (.Attribute l g _) p v _ => decide (g = fname f) && decide (f < 28) && decide (p = q.py) && mE nm ts o c l && mE nm ts e c v
    | _ => false
  | .setI o i e, c, s => match s with
    | .Assign [.Subscript l r _] v _ => mE nm ts o c l && mE nm ts i c r && mE nm ts e c v
    | _ => false
  | .expr e, c, s => match s with
    | .Expr v _ => !xComp v && mE nm ts e c v
    | _ => false
  | .ret e, c, s => match s with
    | .Return (some v) _ => mE nm ts e c v
    | _ => false
  | .retN, _, s => match s with
    | .Return none _ => true
    | _ => false
  | .pass, _, s => match s with
    | .Pass _ => true
    | _ => false
  | .brk, _, s => match s with
    | .Break _ => true
    | _ => false
  | .cnt, _, s => match s with
    | .Continue _ => true
    | _ => false
  | .ife t a b, c, s => match s with
    | .If u x y _ => mE nm ts t c u && mSs nm ts a c x && mSs nm ts b c y
    | _ => false
  | .for tg it b, c, s => match s with
    | .For t i x [] _ => mTg c tg t && mIt nm ts it c i && (!it.pair || tupX t) && mSs nm ts b c x && c.calm
    | _ => false
  | .forC tg e b, c, s => match s with
    | .For t i x [] _ => mTg c tg t && mE nm ts e c i && okX i && mSs nm ts b c x && c.calm
    | _ => false
  | .par i j es, c, s => match s with
    | .Assign [.Tuple [.Name x px, .Name y py] _ _] (.Tuple [u, v] _ _) _ => c.calm && c.par i j x y && decide (px.line = py.line) && !([u, v].all (foldedForSure 8)) && !([u, v].all (constantsAlone 8)) && mEs nm ts es c [u, v]
    | _ => false
  | .swp o i o2 i2 e, c, s => match s with
    | .Assign [.Tuple [.Subscript l r _, .Subscript l2 r2 _] _ _] v _ => c.calm && mE nm ts o c l && mE nm ts i c r && mE nm ts o2 c l2 && mE nm ts i2 c r2 && mE nm ts e c v
    | _ => false
  | .whl _ t b, c, s => match s with
    | .While u x [] _ => mE nm ts t c u && mSs nm ts b c x
    | _ => false
  | .rai k es, c, s => match s with
    | .Raise (some (.Call (.Name y _) xs [] _)) none _ => c.calm && c.gl y && decide (y = cname k) && ts.contains k && decide (40 ≤ k) && (match es, xs with
      | .nil, [.Constant (.str _) _ _] => decide (flds k = [])
      | .cons e .nil, [x] => nm.rx.contains k && mE nm ts e c x
      | _, _ => false)
    | _ => false
  | .try b hs els, c, s => match s with
    | .Try body hds orelse [] _ => c.calm && !hds.isEmpty && mSs nm ts b c body && mHs nm ts hs c hds && mSs nm ts els c orelse
    | _ => false
  | .nev, _, _ => true
  | .frz _, _, _ => false
  | .clr _, _, _ => false
  | .grf _, _, _ => false
def mHs (nm : Nm) (ts : List Nat) : Hs → SC → List ExceptHandler → Bool
  | .nil, _, hds => hds.isEmpty
  | .cons k i b hs, c, hds => match hds with
    | .ExceptHandler (some (.Name x _)) n suite _ :: hds => c.gl x && decide (x = cname k) && ts.contains k && decide (40 ≤ k) && (match i, n with
      | none, none => true
      | some i, some n => decide (c.N[i]? = some n) && decide (c.knd n = some .local)
      | _, _ => false) && !suite.isEmpty && mSs nm ts b { c with calm := false } suite && mHs nm ts hs c hds
    | _ => false
def mSs (nm : Nm) (ts : List Nat) : Ss → SC → List Stmt → Bool
  | .nil, _, xs => xs.isEmpty
  | .cons s ss, c, xs => if s.ghost then mSs nm ts ss c xs else match xs with
    | x :: xs => mS nm ts s c x && mSs nm ts ss c xs
    | [] => false
end

theorem sw_plain {v : Expr} (h : xComp v = false) (t : Option Expr) (l : Nat) (env : Env) : swapsWith v t l env = pure false := by
  cases v <;> first | rfl | cases h
theorem sw_attr (v : Expr) (o : Expr) (f : Str) (p : Pos) (l : Nat) (env : Env) : swapsWith v (some (.Attribute o f p)) l env = pure false := by
  cases v <;> rfl
theorem sw_sub (v : Expr) (o i : Expr) (p : Pos) (l : Nat) (env : Env) : swapsWith v (some (.Subscript o i p)) l env = pure false := by
  cases v <;> rfl
theorem sw_tup (v : Expr) (xs : List Expr) (k : Nat) (p : Pos) (l : Nat) (env : Env) : swapsWith v (some (.Tuple xs k p)) l env = pure false := by
  cases v <;> rfl
theorem st_sub (v : Expr) (o i : Expr) (p : Pos) (env : Env) : swappedStores [.Subscript o i p] v env = pure none := by
  cases v <;> rfl
theorem st_name (v : Expr) (y : Str) (p : Pos) (env : Env) : swappedStores [.Name y p] v env = pure none := by
  cases v <;> rfl
theorem st_tup {v : Expr} (h : tupX v = false) (xs : List Expr) (k : Nat) (p : Pos) (env : Env) : swappedStores [.Tuple xs k p] v env = pure none := by
  cases v <;> first | rfl | cases h
section
variable {fx : Fx} {cx : Cxx} {nm : Nm} {c : SC} {X : Cx} {W : WX} {ts : List Nat} {n : Nat}
/-- a place of statements -/
structure GoodS (fx : Fx) (cx : Cxx) (nm : Nm) (c : SC) (X : Cx) (W : WX) : Prop extends Good fx cx nm c X W where
  own : PassesOwn (model X.prog X.w) X.A X.env X.xe
  st : X.stack = X.env :: X.outer
  fr : X.env.frame = some X.env.locals
def OkS (fx : Fx) (cx : Cxx) (nm : Nm) (s : S1) : Prop := ∀ (c : SC) (X : Cx) (W : WX) (n : Nat) (x : Stmt), GoodS fx cx nm c X W → mS nm fx.ts s c x = true → PS X x (rdS fx W n (ex cx n s))
def OkSs (fx : Fx) (cx : Cxx) (nm : Nm) (ss : Ss) : Prop := ∀ (c : SC) (X : Cx) (W : WX) (n : Nat) (xs : List Stmt), GoodS fx cx nm c X W → mSs nm fx.ts ss c xs = true → PSs X xs (rdS fx W n (exs cx n ss))
/-! ### stores -/
theorem set_read {tg : Tg} {e : E} {D : Ends} {σ : L2.St} {H : Hp} (h : rdS fx W n (ex cx n (.set tg e)) D σ H) : rd fx W (ev cx e) σ H fun v H1 => rdTg fx tg v σ H1 D.nx := by
  obtain ⟨g, τ, S, hn, rl, sl, h⟩ := h
  simp only [ex] at h
  refine ⟨g, τ, S, rl, sl, (h.stm sl).mono fun v H1 ⟨g1, S1, t, et, w, rl1, r, h1⟩ => ?_⟩
  split at h1
  · rename_i τ' e1
    exact ⟨g1, τ, S1, t, τ', rl1, sl.grow w, r, e1, fun σ' sl' _ => h1 g1 σ' H1 GrowS.refl rl1 sl'⟩
  · exact h1.elim
theorem name_read {i : Nat} {e : E} {D : Ends} {σ : L2.St} {H : Hp} (h : rdS fx W n (ex cx n (.set (.v i) e)) D σ H) : rd fx W (ev cx e) σ H fun v H1 => gName i v σ H1 D.nx := by
  obtain ⟨g, τ, S, rl, sl, h⟩ := set_read h
  refine ⟨g, τ, S, rl, sl, h.mono fun v H1 q => ?_⟩
  obtain ⟨g, τ, S, t, τ', rl, sl, r, e1, q⟩ := q
  simp only [asg] at e1
  cases e1
  exact q _ (sl.set i r) Same.set
theorem e_comp {e : E} {c : SC} {y : Expr} {gs : List Comprehension} {scope : Scope} {pos : Pos} (h : mE nm ts e c (.ListComp y gs scope pos) = true) (hf : e.isFrz = false) : ∃ md tg it ifs elt, e = .comp md tg it ifs elt := by
  cases e with
  | comp md tg it ifs elt => exact ⟨md, tg, it, ifs, elt, rfl⟩
  | frz a => cases hf
  | cmc _ _ _ _ _ => cases hf
  | grf _ => cases hf
  | _ => unfold mE at h; cases h
theorem x_setcomp {e : E} {c : SC} {y : Expr} {gs : List Comprehension} {scope : Scope} {pos : Pos} (hf : e.isFrz = false) : mE nm ts e c (.SetComp y gs scope pos) = false := by
  cases e with
  | frz a => cases hf
  | cmc _ _ _ _ _ => cases hf
  | grf _ => cases hf
  | _ => unfold mE; rfl
theorem x_dictcomp {e : E} {c : SC} {y z : Expr} {gs : List Comprehension} {scope : Scope} {pos : Pos} (hf : e.isFrz = false) : mE nm ts e c (.DictComp y z gs scope pos) = false := by
  cases e with
  | frz a => cases hf
  | cmc _ _ _ _ _ => cases hf
  | grf _ => cases hf
  | _ => unfold mE; rfl
theorem s_set (G : GoodS fx cx nm c X W) {tg : Tg} {e : E} {t v : Expr} {pos : Pos} (ht : mTg c tg t = true) (he : mE nm fx.ts e c v = true) (hu : (tupX t && tupX v) = false) (hf : (e.isFrz && xComp v) = false) : PS X (.Assign [t] v pos) (rdS fx W n (ex cx n (.set tg e))) := by
  have pe := (sE e c X W v G.toGood he).1
  have pg := sG G.toGood tg t ht
  cases tg with
  | t gs =>
    unfold mTg at ht
    split at ht
    · rename_i xs k p
      have hv : tupX v = false := by simpa [tupX] using hu
      exact (ps_asg pe pg (show swapsWithSole [_] v pos.line X.env = pure false from sw_tup v xs k p pos.line X.env) (st_tup hv xs k p X.env) rfl).imp fun D σ H z => set_read z
    · cases ht
  | v i =>
    unfold mTg at ht
    split at ht
    · rename_i y p
      obtain ⟨h1, h2, h3⟩ := G.loc ht
      cases hx : xComp v with
      | false => exact (ps_set G.hN h1 h2 pe (sw_plain hx _ _ _) h3).imp fun D σ H z => name_read z
      | true =>
        have hf' : e.isFrz = false := by rw [hx, Bool.and_true] at hf; exact hf
        cases v with
        | SetComp y gs scope pos => rw [x_setcomp hf'] at he; cases he
        | DictComp y z gs scope pos => rw [x_dictcomp hf'] at he; cases he
        | ListComp el gens scope lpos =>
          obtain ⟨md, tg2, it, ifs, elt, rfl⟩ := e_comp he hf'
          cases hb : (X.env.blockKind == .function && X.env.kindOf y == some .local && p.line == lpos.line && !(scope.names.any fun (n, k) => n == y && (k == .local || k == .cell))) with
          | false =>
            exact (ps_set G.hN h1 h2 pe (show swapsWith (.ListComp el gens scope lpos) (some (.Name y p)) pos.line X.env = pure false by
              unfold swapsWith
              show pure (X.env.blockKind == .function && X.env.kindOf y == some .local && p.line == lpos.line && !(scope.names.any fun (n, k) => n == y && (k == .local || k == .cell))) = pure false
              rw [hb]) h3).imp fun D σ H z => name_read z
          | true =>
            have hsw : swapsWith (.ListComp el gens scope lpos) (some (.Name y p)) pos.line X.env = pure true := by
              unfold swapsWith
              show pure (X.env.blockKind == .function && X.env.kindOf y == some .local && p.line == lpos.line && !(scope.names.any fun (n, k) => n == y && (k == .local || k == .cell))) = pure true
              rw [hb]
            have hl : X.env.scope.names.lookup y = some .local := by
              simp only [Bool.and_eq_true] at hb
              exact eq_of_beq hb.1.1.2
            unfold mE at he
            split at he
            · rename_i y' t' i' cs scope' lpos' heq
              cases heq
              simp only [Bool.and_eq_true, decide_eq_true_eq] at he
              obtain ⟨⟨⟨⟨⟨⟨⟨k0, k1⟩, k2⟩, k3⟩, k4⟩, k5⟩, k6⟩, hc⟩ := he
              have ok : BlkOk X.N X.env.scope scope (ownT c tg2) := by
                rw [G.N, G.sc]
                exact blkOk_by k2
              have pi := sIt it c X W i' t' G.toGood k0 k1
              refine (ps_setLc (G.cm hc).1 G.hN h1 hl hsw pi.1 ok (fun s H C cl fp => sG (G.toGood.blk hc s H scope cl C fp) tg2 t' k4) (fun s H C cl fp => (sEs ifs).ifs _ _ WF cs (G.toGood.blk hc s H scope cl C fp) k5) (fun s H C cl fp => (sE elt _ _ WF el (G.toGood.blk hc s H scope cl C fp) k6).1) pi.2).imp fun D σ H z => ?_
              rw [k3]
              exact lc_read (name_read z)
            · cases he
        | _ => cases hx
    · cases ht
/-! ### small ones -/
theorem ip_bop (G : GoodS fx cx nm c X W) (o : BOp) : PIp X o.py (fun x y H Q => ∃ g S tx ty W', Rel fx g S H ∧ RepT fx g H x tx ∧ RepT fx g H y ty ∧ Run fx g H (augS o tx ty S) Q W') := by
  intro pins s σ H x y v u Q I rx ry h
  obtain ⟨g, S, tx, ty, W', rl, hx, hy, h⟩ := h
  cases o with
  | add =>
    simp only [augS] at h
    split at h
    · obtain rfl := rt_int hx; obtain rfl := rt_int hy
      exact ip_add pins s σ H _ _ v u Q I rx ry ⟨_, _, rfl, rfl, h.fin rl (.d (.int _))⟩
    · exact h.elim
  | sub =>
    simp only [augS] at h
    split at h
    · obtain rfl := rt_int hx; obtain rfl := rt_int hy
      exact ip_sub pins s σ H _ _ v u Q I rx ry ⟨_, _, rfl, rfl, h.fin rl (.d (.int _))⟩
    · exact h.elim
  | _ => simp only [augS] at h; exact h.elim
theorem s_aug (G : GoodS fx cx nm c X W) {i : Nat} {o : BOp} {e : E} {y : Str} {p pos : Pos} {v : Expr} (hy : c.loc i y = true) (he : mE nm fx.ts e c v = true) : PS X (.AugAssign (.Name y p) o.py v pos) (rdS fx W n (ex cx n (.aug i o e))) := by
  have pe := (sE e c X W v G.toGood he).1
  obtain ⟨h1, h2, h3⟩ := G.loc hy
  refine (ps_aug G.hN h1 h2 pe (ip_bop G o) h3).imp fun D σ H z => ?_
  obtain ⟨g, τ, S, hn, rl, sl, z⟩ := z
  simp only [ex] at z
  split at z
  · rename_i x hi
    obtain ⟨u, e1, r⟩ := sl.at_ i x hi
    refine ⟨u, e1, g, τ, S, rl, sl, (z.stm sl).mono fun v H1 ⟨g1, S1, t, et, w, rl1, r1, q1⟩ => ?_⟩
    refine ⟨g1, S1, x, t, _, rl1, r.grow w, r1, (q1.stm (sl.grow w)).mono fun v2 H2 ⟨g2, S2, t2, et2, w2, rl2, r2, q2⟩ => ?_⟩
    exact q2 g2 _ H2 GrowS.refl rl2 (((sl.grow w).grow w2).set i r2)
  · exact z.elim
theorem s_setA (G : GoodS fx cx nm c X W) {o e : E} {f : Nat} {l v : Expr} {p pos : Pos} (hf : f < 28) (ho : mE nm fx.ts o c l = true) (he : mE nm fx.ts e c v = true) : PS X (.Assign [.Attribute l (fname f) p] v pos) (rdS fx W n (ex cx n (.setA o f e))) := by
  have pe := (sE e c X W v G.toGood he).1
  have po := (sE o c X W l G.toGood ho).1
  refine (ps_fld po pe (sw_attr _ _ _ _ _ _)).imp fun D σ H z => ?_
  obtain ⟨g, τ, S, hn, rl, sl, z⟩ := z
  simp only [ex] at z
  refine ⟨g, τ, S, rl, sl, (z.stm sl).mono fun y H1 ⟨g1, S1, t, et, w, rl1, r1, q1⟩ => ?_⟩
  have sl1 := sl.grow w
  refine ⟨g1, τ, S1, rl1, sl1, (q1.stm sl1).mono fun x H2 ⟨g2, S2, t2, et2, w2, rl2, r2, q2⟩ => ?_⟩
  split at q2
  · rename_i S3 e3
    obtain ⟨a, C, dx, fs, rfl, h1, h2, h3, h4, w3, rl3⟩ := at_setA hf rl2 r2 (r1.grow w2) e3
    exact ⟨a, C, dx, fs, rfl, h1, G.pub.K ▸ h2, G.pub.K ▸ h3, h4, q2 g2 σ _ w3.gs rl3 ((sl1.grow w2).grow w3)⟩
  · exact q2.elim
theorem s_augA (G : GoodS fx cx nm c X W) {o e : E} {f : Nat} {q : BOp} {l v : Expr} {p pos : Pos} (hf : f < 28) (ho : mE nm fx.ts o c l = true) (he : mE nm fx.ts e c v = true) : PS X (.AugAssign (.Attribute l (fname f) p) q.py v pos) (rdS fx W n (ex cx n (.augA o f q e))) := by
  have pe := (sE e c X W v G.toGood he).1
  have po := (sE o c X W l G.toGood ho).1
  have hop : InOp X q.py (fun x y H Q => ∃ g S tx ty W', Rel fx g S H ∧ RepT fx g H x tx ∧ RepT fx g H y ty ∧ Run fx g H (augS q tx ty S) Q W') := fun pins s σ H x y u v Q I r1 r2 h => ip_bop G q pins s σ H x y u v Q I r1 r2 h
  refine (ps_fldaug po pe hop).imp fun D σ H z => ?_
  obtain ⟨g, τ, S, hn, rl, sl, z⟩ := z
  simp only [ex] at z
  refine ⟨g, τ, S, rl, sl, (z.stm sl).mono fun x H1 ⟨g1, S1, t, et, w, rl1, r1, q1⟩ => ?_⟩
  have sl1 := sl.grow w
  have q1' := q1.stm sl1
  obtain ⟨a, C, dx, fs, u, rfl, h1, h2, h3, h4, q1''⟩ := at_attr hf rl1 r1 q1'
  refine ⟨a, C, dx, fs, u, rfl, h1, G.pub.K ▸ h2, G.pub.K ▸ h3, h4, ?_⟩
  obtain ⟨g2, S2, t2, et2, w2, rl2, r2, q2⟩ := q1''
  have sl2 := sl1.grow w2
  refine ⟨g2, τ, S2, rl2, sl2, (q2.stm sl2).mono fun y H3 ⟨g3, S3, t3, et3, w3, rl3, r3, q3⟩ => ?_⟩
  have sl3 := sl2.grow w3
  refine ⟨g3, S3, t2, t3, _, rl3, r2.grow w3, r3, (q3.stm sl3).mono fun y4 H4 ⟨g4, S4, t4, et4, w4, rl4, r4, q4⟩ => ?_⟩
  split at q4
  · rename_i c1 c4 ec1 ec4
    split at q4
    · rename_i ecc
      subst ecc
      have r4' := ((r1.grow w2).grow w3).grow w4
      obtain ⟨_, dx1, fv1, vs1, e1, z1, _, _⟩ := cls_at rl1 r1 ec1
      cases e1
      obtain ⟨_, dx4, fv4, vs4, e4, z4, _, _⟩ := cls_at rl4 r4' ec4
      cases e4
      split at q4
      · rename_i S5 e5
        obtain ⟨a', C', dx', fs', e', k1, k2, k3, k4, w5, rl5⟩ := at_setA hf rl4 r4' r4 e5
        cases e'
        have hC : C' = C := by
          rw [h1] at z1
          rw [k1] at z4
          cases z1
          cases z4
          rfl
        subst hC
        exact ⟨dx', fs', k1, k4, q4 g4 σ _ w5.gs rl5 ((sl3.grow w4).grow w5)⟩
      · exact q4.elim
    · exact q4.elim
  · exact q4.elim
theorem ok_assign {i : Expr} (h : okX i = true) (o : Expr) (pos : Pos) (env : Env) : ∀ v, assign (.Subscript o i pos) env v = (do
      let ov ← holding [v] (eval o env)
      let iv ← holding [v, ov] (eval i env)
      standAt pos
      holding [v, ov, iv] (setItem ov iv v)
      release [v, ov, iv] []) := by
  intro v
  cases i <;> first | rfl | cases h
theorem s_setI (G : GoodS fx cx nm c X W) {o i e : E} {l r v : Expr} {p pos : Pos} (ho : mE nm fx.ts o c l = true) (hi : mE nm fx.ts i c r = true) (he : mE nm fx.ts e c v = true) : PS X (.Assign [.Subscript l r p] v pos) (rdS fx W n (ex cx n (.setI o i e))) := by
  have pe := (sE e c X W v G.toGood he).1
  have po := (sE o c X W l G.toGood ho).1
  have pi := (sE i c X W r G.toGood hi).1
  have hu : X.A.units + 1 < cLine := by have := G.pub.un; omega
  refine (ps_asg pe (pg_sub po pi (or_setI (fx := fx) hu) (ok_assign (mE_okX _ _ _ hi) _ _ _)) (show swapsWithSole [_] v pos.line X.env = pure false from sw_sub v l r p pos.line X.env) (st_sub v l r p X.env) rfl).imp fun D σ H z => ?_
  obtain ⟨g, τ, S, hn, rl, sl, z⟩ := z
  simp only [ex] at z
  refine ⟨g, τ, S, rl, sl, (z.stm sl).mono fun y H1 ⟨g1, S1, t, et, w, rl1, r1, q1⟩ => ?_⟩
  have sl1 := sl.grow w
  refine ⟨g1, τ, S1, rl1, sl1, (q1.stm sl1).mono fun x H2 ⟨g2, S2, t2, et2, w2, rl2, r2, q2⟩ => ?_⟩
  have sl2 := sl1.grow w2
  refine ⟨g2, τ, S2, rl2, sl2, (q2.stm sl2).mono fun k H3 ⟨g3, S3, t3, et3, w3, rl3, r3, q3⟩ => ?_⟩
  have sl3 := sl2.grow w3
  split at q3
  · rename_i S4 e4
    exact ⟨g3, S3, t2, t3, t, S4, rl3, r2.grow w3, r3, (r1.grow w2).grow w3, e4, fun H4 w4 rl4 => q3 g3 σ H4 w4.gs rl4 (sl3.grow w4)⟩
  · exact q3.elim
theorem sw_par {X : Cx} {x y : Str} {px py p p2 : Pos} {k k2 : Nat} {u v : Expr} (hk : X.env.scope.kind = .function) (hx : X.env.scope.names.lookup x = some .local) (hy : X.env.scope.names.lookup y = some .local) (hne : x ≠ y) (hl : px.line = py.line)
    (hu : okX u = true) (hv : okX v = true) (h1 : [u, v].all (foldedForSure 8) = false) (h2 : [u, v].all (constantsAlone 8) = false) : swappedStores [.Tuple [.Name x px, .Name y py] k p] (.Tuple [u, v] k2 p2) X.env = pure (some [x, y]) := by
  have hb : X.env.blockKind = .function := by
    unfold Env.blockKind
    rw [hk]
    rfl
  have kx : X.env.kindOf x = some .local := hx
  have ky : X.env.kindOf y = some .local := hy
  unfold swappedStores
  simp only [pure_bind]
  rw [hb, h1, h2]
  split
  · rename_i h
    cases h
  · split
    · rename_i h
      exfalso
      revert h
      cases u <;> first | (cases hu; done) | (cases v <;> first | (cases hv; done) | (intro h; cases h))
    · simp [kx, ky, hl, hne, Ne.symm hne, Expr.pos, List.eraseDups_cons, List.filter, beq_eq_false_iff_ne.mpr (Ne.symm hne)]
theorem sw_sub2 {l r l2 r2 v : Expr} {p1 p2 p : Pos} {k : Nat} {env : Env} : swappedStores [.Tuple [.Subscript l r p1, .Subscript l2 r2 p2] k p] v env = pure none := by
  cases v with
  | Tuple vs k2 q =>
    unfold swappedStores
    simp only [pure_bind]
    split
    · rfl
    · split
      · rfl
      · rfl
  | _ => rfl
theorem s_par (G : GoodS fx cx nm c X W) {i j : Nat} {es : Es} {x y : Str} {px py p p2 pos : Pos} {k k2 : Nat} {u v : Expr} (hc : c.calm = true) (hp : c.par i j x y = true) (hl : px.line = py.line) (h1 : [u, v].all (foldedForSure 8) = false) (h2 : [u, v].all (constantsAlone 8) = false) (hm : mEs nm fx.ts es c [u, v] = true) :
    PS X (.Assign [.Tuple [.Name x px, .Name y py] k p] (.Tuple [u, v] k2 p2) pos) (rdS fx W n (ex cx n (.par i j es))) := by
  have pa := (sEs es).all c X W [u, v] G.toGood hm
  obtain ⟨e1, e2, _, m1, m2⟩ := ev_two hm
  unfold SC.par SC.knd at hp
  simp only [Bool.and_eq_true, decide_eq_true_eq] at hp
  obtain ⟨⟨⟨⟨⟨⟨d1, d2⟩, d3⟩, d4⟩, d5⟩, d6⟩, d7⟩ := hp
  have hx : X.env.scope.names.lookup x = some .local := by rw [G.sc]; exact d5
  have hy : X.env.scope.names.lookup y = some .local := by rw [G.sc]; exact d6
  have hw := sw_par (X := X) (px := px) (py := py) (p := p) (p2 := p2) (k := k) (k2 := k2) (by rw [G.sc]; exact d7) hx hy d4 hl (mE_okX _ _ _ m1) (mE_okX _ _ _ m2) h1 h2
  refine (ps_par (G.cm hc).1 G.hN (by rw [G.N]; exact d1) (by rw [G.N]; exact d2) d3 hx hy pa hw).imp fun D σ H z => ?_
  obtain ⟨g, τ, S, hn, rl, sl, z⟩ := z
  simp only [ex] at z
  refine ⟨g, τ, S, rl, sl, ?_⟩
  cases e : evs cx es τ S with
  | bad => rw [e] at z; exact z
  | exc cc p S1 => rw [e] at z; exact fun g' cls d H' w rl' rx => z g' σ cls d H' w.gs rl' (sl.grow w) rx
  | ok tl S1 =>
    rw [e] at z
    refine fun g' vs H' w rl' hv => ?_
    cases tl with
    | nil => exact z.elim
    | cons ta tl =>
      cases tl with
      | nil => exact z.elim
      | cons tb tl =>
        cases tl with
        | cons _ _ => exact z.elim
        | nil =>
          obtain ⟨va, vb, rfl, ra, rb⟩ := repTs2 hv
          exact ⟨va, vb, rfl, z g' _ H' w.gs rl' (((sl.grow w).set i ra).set j rb)⟩
theorem s_swp (G : GoodS fx cx nm c X W) {o i o2 i2 e : E} {l r l2 r2 v : Expr} {q1 q2 q pos : Pos} {k : Nat} (hc : c.calm = true) (ho : mE nm fx.ts o c l = true) (hi : mE nm fx.ts i c r = true) (ho2 : mE nm fx.ts o2 c l2 = true) (hi2 : mE nm fx.ts i2 c r2 = true) (he : mE nm fx.ts e c v = true) :
    PS X (.Assign [.Tuple [.Subscript l r q1, .Subscript l2 r2 q2] k q] v pos) (rdS fx W n (ex cx n (.swp o i o2 i2 e))) := by
  have pe := (sE e c X W v G.toGood he).1
  have po := (sE o c X W l G.toGood ho).1
  have pi := (sE i c X W r G.toGood hi).1
  have po2 := (sE o2 c X W l2 G.toGood ho2).1
  have pi2 := (sE i2 c X W r2 G.toGood hi2).1
  have hu : X.A.units + 1 < cLine := by have := G.pub.un; omega
  refine (ps_asg pe (pg_tup (n := 2) (G.cm hc).1 (pgs_cons (pg_sub po pi (or_setI (fx := fx) hu) (ok_assign (mE_okX _ _ _ hi) _ _ _)) (pgs_cons (pg_sub po2 pi2 (or_setI (fx := fx) hu) (ok_assign (mE_okX _ _ _ hi2) _ _ _)) pgs_nil)))
    (show swapsWithSole [_] v pos.line X.env = pure false from sw_tup v [.Subscript l r q1, .Subscript l2 r2 q2] k q pos.line X.env) sw_sub2 rfl).imp fun D σ H z => ?_
  obtain ⟨g, τ, S, hn, rl, sl, z⟩ := z
  simp only [ex] at z
  refine ⟨g, τ, S, rl, sl, (z.stm sl).mono fun y H1 ⟨g1, S1, t, et, w, rl1, r1, z1⟩ => ?_⟩
  have sl1 := sl.grow w
  split at z1
  · rename_i tl e1
    obtain ⟨a, vs, rfl, hq, rs⟩ : ∃ a vs, y = .ref a ∧ SqT X.K H1 a vs ∧ RepTs fx g1 H1 vs tl := by
      unfold parts at e1
      split at e1
      · cases e1
        obtain ⟨a, vs, rfl, f, rs⟩ := rt_tup r1
        exact ⟨a, vs, rfl, G.pub.K ▸ f.sq, RepTs.ofDs (g := g1) rs⟩
      · cases e1
        cases r1 with
        | tup f rs => exact ⟨_, _, rfl, G.pub.K ▸ f.sq, rs⟩
      · cases e1
    cases tl with
    | nil => exact z1.elim
    | cons ta tl =>
      cases tl with
      | nil => exact z1.elim
      | cons tb tl =>
        cases tl with
        | cons _ _ => exact z1.elim
        | nil =>
          obtain ⟨va, vb, rfl, ra, rb⟩ := repTs2 rs
          refine ⟨a, _, rfl, hq, rfl, va, [vb], rfl, g1, τ, S1, rl1, sl1, (z1.stm sl1).mono fun x H2 ⟨g2, S2, t2, et2, w2, rl2, r2, q2⟩ => ?_⟩
          have sl2 := sl1.grow w2
          refine ⟨g2, τ, S2, rl2, sl2, (q2.stm sl2).mono fun kk H3 ⟨g3, S3, t3, et3, w3, rl3, r3, q3⟩ => ?_⟩
          have sl3 := sl2.grow w3
          split at q3
          · rename_i S4 e4
            refine ⟨g3, S3, t2, t3, ta, S4, rl3, r2.grow w3, r3, (ra.grow w2).grow w3, e4, fun H4 w4 rl4 => ?_⟩
            have sl4 := sl3.grow w4
            have q3' := RunS.grow w4.gs q3
            refine ⟨vb, [], rfl, g3, τ, S4, rl4, sl4, (q3'.stm sl4).mono fun x2 H5 ⟨g5, S5, t5, et5, w5, rl5, r5, q5⟩ => ?_⟩
            have sl5 := sl4.grow w5
            refine ⟨g5, τ, S5, rl5, sl5, (q5.stm sl5).mono fun k2 H6 ⟨g6, S6, t6, et6, w6, rl6, r6, q6⟩ => ?_⟩
            have sl6 := sl5.grow w6
            split at q6
            · rename_i S7 e7
              exact ⟨g6, S6, t5, t6, tb, S7, rl6, r5.grow w6, r6, ((((rb.grow w2).grow w3).grow w4).grow w5).grow w6, e7, fun H7 w7 rl7 => ⟨rfl, q6 g6 σ H7 w7.gs rl7 (sl6.grow w7)⟩⟩
            · exact q6.elim
          · exact q3.elim
  · exact z1.elim
theorem s_expr (G : GoodS fx cx nm c X W) {e : E} {v : Expr} {pos : Pos} (hx : xComp v = false) (he : mE nm fx.ts e c v = true) : PS X (.Expr v pos) (rdS fx W n (ex cx n (.expr e))) := by
  have pe := (sE e c X W v G.toGood he).1
  refine (ps_expr pe (sw_plain hx _ _ _)).imp fun D σ H z => ?_
  obtain ⟨g, τ, S, hn, rl, sl, z⟩ := z
  simp only [ex] at z
  exact ⟨g, τ, S, rl, sl, (z.stm sl).mono fun y H1 ⟨g1, S1, t, et, w, rl1, r1, q1⟩ => q1 g1 σ H1 GrowS.refl rl1 (sl.grow w)⟩
theorem s_ret (G : GoodS fx cx nm c X W) {e : E} {v : Expr} {pos : Pos} (he : mE nm fx.ts e c v = true) : PS X (.Return (some v) pos) (rdS fx W n (ex cx n (.ret e))) := by
  have pe := (sE e c X W v G.toGood he).1
  refine (ps_ret pe).imp fun D σ H z => ?_
  obtain ⟨g, τ, S, hn, rl, sl, z⟩ := z
  simp only [ex] at z
  exact ⟨g, τ, S, rl, sl, (z.stm sl).mono fun y H1 ⟨g1, S1, t, et, w, rl1, r1, q1⟩ => q1 g1 y H1 GrowS.refl rl1 r1⟩
theorem s_retN {pos : Pos} : PS X (.Return none pos) (rdS fx W n (ex cx n .retN)) :=
  ps_retN.imp fun D σ H z => by
    obtain ⟨g, τ, S, hn, rl, sl, z⟩ := z
    simp only [ex] at z
    exact z g .non H GrowS.refl rl (.d .non)
theorem s_pass {pos : Pos} : PS X (.Pass pos) (rdS fx W n (ex cx n .pass)) :=
  ps_pass.imp fun D σ H z => by
    obtain ⟨g, τ, S, hn, rl, sl, z⟩ := z
    simp only [ex] at z
    exact z g σ H GrowS.refl rl sl
theorem s_brk {pos : Pos} : PS X (.Break pos) (rdS fx W n (ex cx n .brk)) :=
  ps_break.imp fun D σ H z => by
    obtain ⟨g, τ, S, hn, rl, sl, z⟩ := z
    simp only [ex] at z
    exact z g σ H GrowS.refl rl sl
theorem s_cnt {pos : Pos} : PS X (.Continue pos) (rdS fx W n (ex cx n .cnt)) :=
  ps_continue.imp fun D σ H z => by
    obtain ⟨g, τ, S, hn, rl, sl, z⟩ := z
    simp only [ex] at z
    exact z g σ H GrowS.refl rl sl
/-- a test's end -/
theorem RunS.test {g : Gh} {H : Hp} {q : R T} {τ : Sl} {σ : L2.St} {A B : Store → RS} {D : Ends} {f : T → Store → RS} (h : RunS fx n g H (q.stm τ f) D W) (hf : ∀ t S, f t S = match t with
      | .d (.bl true) => A S
      | .d (.bl false) => B S
      | _ => .bad) (sl : Slots fx g H τ σ) :
    RunG fx (fun _ _ (b : Bool) (b' : Bool) => b = b') g H (q.bnd toB) (fun b H1 => ∃ g1 S1, Grow g g1 H H1 ∧ Rel fx g1 S1 H1 ∧ RunS fx n g1 H1 (if b then A S1 else B S1) D W) (fun c d H' => W c d σ H') := by
  cases q with
  | bad => exact h
  | exc c p S => exact fun g' cls d H' w rl rx => h g' σ cls d H' w.gs rl (sl.grow w) rx
  | ok t S =>
    rw [stm_ok, hf] at h
    cases t with
    | d d =>
      cases d with
      | bl b =>
        intro g1 b1 H1 w rl eb
        have eb : b1 = b := eb
        subst eb
        cases b1 with
        | true => exact ⟨g1, S, w, rl, RunS.grow w.gs h⟩
        | false => exact ⟨g1, S, w, rl, RunS.grow w.gs h⟩
      | _ => exact h.elim
    | _ => exact h.elim
theorem s_if (G : GoodS fx cx nm c X W) {t : E} {a b : Ss} {u : Expr} {x y : List Stmt} {pos : Pos} (ht : mE nm fx.ts t c u = true) (ha : PSs X x (rdS fx W n (exs cx n a))) (hb : PSs X y (rdS fx W n (exs cx n b))) : PS X (.If u x y pos) (rdS fx W n (ex cx n (.ife t a b))) := by
  have pt := (sE t c X W u G.toGood ht).2
  refine (ps_if pt ha hb).imp fun D σ H z => ?_
  obtain ⟨g, τ, S, hn, rl, sl, z⟩ := z
  simp only [ex] at z
  refine ⟨g, τ, S, rl, sl, (z.test (A := fun S1 => exs cx n a τ S1) (B := fun S1 => exs cx n b τ S1) (fun t S => rfl) sl).mono fun d H1 ⟨g1, S1, w, rl1, q1⟩ => ?_⟩
  cases d with
  | true => exact ⟨g1, τ, S1, GrowS.len (n := n) w.gs hn, rl1, sl.grow w, q1⟩
  | false => exact ⟨g1, τ, S1, GrowS.len (n := n) w.gs hn, rl1, sl.grow w, q1⟩
end
end Mn
set_option Elab.async false
set_option linter.all false
set_option maxRecDepth 100000
set_option maxHeartbeats 4000000
/-! Mn18: loops, blocks, defs. -/
namespace Mn
open PySem PySem.Spec PyProof.Rows PySem.SeqAt
open L2 hiding ixN atI Takes XE CX takes_of passes_call passAt
open L2N (Takes XE CX takes_of)

section
variable {fx : Fx} {cx : Cxx} {nm : Nm} {c : SC} {X : Cx} {W : WX} {ts : List Nat} {n : Nat}
theorem RunS.turn {g : Gh} {H : Hp} {r : RS} {D : Ends} {k : Sl → Store → RS} (h : RunS fx n g H (match r with
      | .nx σ' S' => k σ' S'
      | .cnt σ' S' => k σ' S'
      | .brk σ' S' => .nx σ' S'
      | r => r) D W) : RunS fx n g H r { D with nx := At fx n g H k D W, ct := At fx n g H k D W, bk := D.nx } W := by
  cases r with
  | nx τ S => exact fun g' σ' H' w rl sl => ⟨g', τ, S, w, rl, sl, RunS.grow w h⟩
  | cnt τ S => exact fun g' σ' H' w rl sl => ⟨g', τ, S, w, rl, sl, RunS.grow w h⟩
  | brk τ S => exact h
  | ret t S => exact h
  | exc c p τ S => exact h
  | bad => exact h
theorem At.len {g : Gh} {H : Hp} {k : Sl → Store → RS} {D : Ends} {σ : L2.St} {H' : Hp} (h : At fx n g H k D W σ H') (hn : n ≤ g.as.length) : ∃ g1 τ S, GrowS n g g1 H H' ∧ n ≤ g1.as.length ∧ Rel fx g1 S H' ∧ Slots fx g1 H' τ σ ∧ RunS fx n g1 H' (k τ S) D W := by
  obtain ⟨g1, τ, S, w, rl, sl, q⟩ := h
  exact ⟨g1, τ, S, w, w.len hn, rl, sl, q⟩
theorem s_for (G : GoodS fx cx nm c X W) {tg : Tg} {it : It} {b : Ss} {t i : Expr} {x : List Stmt} {pos : Pos} (ht : mTg c tg t = true) (hi : mIt nm fx.ts it c i = true) (hp : (!it.pair || tupX t) = true) (hc : c.calm = true) (hb : PSs X x (rdS fx W n (exs cx n b))) :
    PS X (.For t i x [] pos) (rdS fx W n (ex cx n (.for tg it b))) := by
  have pi := sIt it c X W i t G.toGood hi hp
  have pg := sG G.toGood tg t ht
  refine (ps_for G.own (G.cm hc).1 pi.1 pg hb pi.2).imp fun D σ H z => ?_
  obtain ⟨g, τ, S, hn, rl, sl, z⟩ := z
  simp only [ex] at z
  -- what is walked
  have z2 : RunG fx (fun g H (J : L2.It) ds => IsIt fx J g H ds) g H (evIt cx it τ S) (fun J H1 => ∃ g1 S1 xs, Grow g g1 H H1 ∧ Rel fx g1 S1 H1 ∧ IsIt fx J g1 H1 xs ∧ RunS fx n g1 H1 (forL (fun x σ S => match asg tg (.d x) σ with
      | some σ' => exs cx n b σ' S
      | none => .bad) xs τ S1) D W) (fun c d H' => W c d σ H') := by
    cases e : evIt cx it τ S with
    | bad => rw [e] at z; exact z
    | exc cc p S1 => rw [e] at z; exact fun g' cls d H' w rl' rx => z g' σ cls d H' w.gs rl' (sl.grow w) rx
    | ok xs S1 => rw [e] at z; exact fun g' J H' w rl' hJ => ⟨g', S1, xs, w, rl', hJ, RunS.grow w.gs z⟩
  refine ⟨g, τ, S, rl, sl, z2.mono fun J H1 ⟨g1, S1, xs, w1, rl1, hJ, z3⟩ => ?_⟩
  refine ⟨fun i m σ' H' => m = xs.length - i ∧ i ≤ xs.length ∧ ∃ g' τ' S', GrowS n g1 g' H1 H' ∧ n ≤ g'.as.length ∧ Rel fx g' S' H' ∧ Slots fx g' H' τ' σ' ∧ RunS fx n g' H' (forL (fun x σ S => match asg tg (.d x) σ with
      | some σ' => exs cx n b σ' S
      | none => .bad) (xs.drop i) τ' S') D W, ⟨xs.length, by simp, Nat.zero_le _, g1, τ, S1, GrowS.refl, GrowS.len (n := n) w1.gs hn, rl1, sl.grow w1, by rw [List.drop_zero]; exact z3⟩, ?_⟩
  rintro i m σ' H2 ⟨rfl, hi, g2, τ2, S2, w2, hn2, rl2, sl2, z4⟩
  obtain ⟨jgo, jstop, jyld⟩ := hJ g2 H2 S2 w2.kf rl2
  by_cases hlt : i < xs.length
  · have ed : xs.drop i = xs[i] :: xs.drop (i + 1) := List.drop_eq_getElem_cons hlt
    rw [ed] at z4
    simp only [forL] at z4
    refine .inr ⟨jgo i hlt, fun σ' H' => ∃ g' τ' S', GrowS n g1 g' H1 H' ∧ n ≤ g'.as.length ∧ Rel fx g' S' H' ∧ Slots fx g' H' τ' σ' ∧ RunS fx n g' H' (forL (fun x σ S => match asg tg (.d x) σ with
      | some σ' => exs cx n b σ' S
      | none => .bad) (xs.drop (i + 1)) τ' S') D W, fun σ' H' p => ⟨xs.length - (i + 1), by omega, rfl, hlt, p⟩, fun x H3 y => ?_⟩
    obtain ⟨g3, w3, rl3, rx⟩ := jyld i x H3 y xs[i] (List.getElem?_eq_getElem hlt)
    have z5 := RunS.grow w3.gs z4.turn
    cases ea : asg tg (.d xs[i]) τ2 with
    | none =>
      simp only [ea] at z5
      exact z5.elim
    | some τ3 =>
      simp only [ea] at z5
      refine ⟨g3, τ2, S2, .d xs[i], τ3, rl3, sl2.grow w3, .d rx, ea, fun σ3 sl3 _ => ?_⟩
      refine ⟨g3, τ3, S2, GrowS.len (n := n) w3.gs hn2, rl3, sl3, z5.mono (fun σ4 H4 q => ?_) (fun _ _ q => q) (fun σ4 H4 q => ?_) fun _ _ q => q⟩
      · obtain ⟨g4, τ4, S4, w4, hn4, rl4, sl4, z6⟩ := q.len hn2
        exact ⟨g4, τ4, S4, w2.trans w4, hn4, rl4, sl4, z6⟩
      · obtain ⟨g4, τ4, S4, w4, hn4, rl4, sl4, z6⟩ := q.len hn2
        exact ⟨g4, τ4, S4, w2.trans w4, hn4, rl4, sl4, z6⟩
  · have hi' : i = xs.length := by omega
    subst hi'
    rw [List.drop_eq_nil_of_le (Nat.le_refl _)] at z4
    exact .inl ⟨jstop _ (Nat.le_refl _), z4 g2 σ' H2 GrowS.refl rl2 sl2⟩
theorem s_forC (G : GoodS fx cx nm c X W) {tg : Tg} {e : E} {b : Ss} {t i : Expr} {x : List Stmt} {pos : Pos} (ht : mTg c tg t = true) (hi : mE nm fx.ts e c i = true) (hc : c.calm = true) (hb : PSs X x (rdS fx W n (exs cx n b))) :
    PS X (.For t i x [] pos) (rdS fx W n (ex cx n (.forC tg e b))) := by
  have pe := (sE e c X W i G.toGood hi).1
  have pi := i_cellS (tg := t) (n := n) G.toGood pe
  have pg := sG G.toGood tg t ht
  refine (ps_for G.own (G.cm hc).1 pi pg hb (ok_set (mE_okX _ _ _ hi) _)).imp fun D σ H z => ?_
  obtain ⟨g, τ, S, hn, rl, sl, z⟩ := z
  simp only [ex] at z
  -- what is walked
  have z2 : RunG fx (fun g H (J : L2.It) (p : T × List Mn.D) => own n p.1 = true → IsItS fx n J g H p.2 (grd p.1 p.2)) g H (itC cx e τ S) (fun J H1 => ∃ g1 S1 zt xs, Grow g g1 H H1 ∧ Rel fx g1 S1 H1 ∧ IsItS fx n J g1 H1 xs (grd zt xs) ∧ RunS fx n g1 H1 (forG (fun x σ S => match asg tg (.d x) σ with
      | some σ' => exs cx n b σ' S
      | none => .bad) (grd zt xs) xs τ S1) D W) (fun c d H' => W c d σ H') := by
    unfold itC
    cases e : ev cx e τ S with
    | bad => rw [e] at z; exact z
    | exc cc p S1 => rw [e] at z; exact fun g' cls d H' w rl' rx => z g' σ cls d H' w.gs rl' (sl.grow w) rx
    | ok zt S1 =>
      rw [e] at z
      simp only [stm_ok] at z
      simp only [bnd_ok]
      split at z
      · rename_i ho
        cases e2 : S1.rdL zt with
        | none => rw [e2] at z; exact z.elim
        | some xs =>
          rw [e2] at z
          exact fun g' J H' w rl' hJ => ⟨g', S1, zt, xs, w, rl', hJ ho, RunS.grow w.gs z⟩
      · exact z.elim
  refine ⟨g, τ, S, rl, sl, z2.mono fun J H1 ⟨g1, S1, zt, xs, w1, rl1, hJ, z3⟩ => ?_⟩
  refine ⟨fun i m σ' H' => m = xs.length - i ∧ i ≤ xs.length ∧ ∃ g' τ' S', GrowS n g1 g' H1 H' ∧ n ≤ g'.as.length ∧ Rel fx g' S' H' ∧ Slots fx g' H' τ' σ' ∧ RunS fx n g' H' (forG (fun x σ S => match asg tg (.d x) σ with
      | some σ' => exs cx n b σ' S
      | none => .bad) (grd zt xs) (xs.drop i) τ' S') D W, ⟨xs.length, by simp, Nat.zero_le _, g1, τ, S1, GrowS.refl, GrowS.len (n := n) w1.gs hn, rl1, sl.grow w1, by rw [List.drop_zero]; exact z3⟩, ?_⟩
  rintro i m σ' H2 ⟨rfl, hi, g2, τ2, S2, w2, hn2, rl2, sl2, z4⟩
  by_cases hlt : i < xs.length
  · have ed : xs.drop i = xs[i] :: xs.drop (i + 1) := List.drop_eq_getElem_cons hlt
    rw [ed] at z4
    simp only [forG] at z4
    split at z4
    · rename_i hq
      obtain ⟨jgo, jstop, jyld⟩ := hJ g2 H2 S2 w2.kf w2.as rl2 hq
      refine .inr ⟨jgo i hlt, fun σ' H' => ∃ g' τ' S', GrowS n g1 g' H1 H' ∧ n ≤ g'.as.length ∧ Rel fx g' S' H' ∧ Slots fx g' H' τ' σ' ∧ RunS fx n g' H' (forG (fun x σ S => match asg tg (.d x) σ with
        | some σ' => exs cx n b σ' S
        | none => .bad) (grd zt xs) (xs.drop (i + 1)) τ' S') D W, fun σ' H' p => ⟨xs.length - (i + 1), by omega, rfl, hlt, p⟩, fun x H3 y => ?_⟩
      obtain ⟨g3, w3, rl3, rx⟩ := jyld i x H3 y xs[i] (List.getElem?_eq_getElem hlt)
      have z5 := RunS.grow w3.gs z4.turn
      cases ea : asg tg (.d xs[i]) τ2 with
      | none =>
        simp only [ea] at z5
        exact z5.elim
      | some τ3 =>
        simp only [ea] at z5
        refine ⟨g3, τ2, S2, .d xs[i], τ3, rl3, sl2.grow w3, .d rx, ea, fun σ3 sl3 _ => ?_⟩
        refine ⟨g3, τ3, S2, GrowS.len (n := n) w3.gs hn2, rl3, sl3, z5.mono (fun σ4 H4 q => ?_) (fun _ _ q => q) (fun σ4 H4 q => ?_) fun _ _ q => q⟩
        · obtain ⟨g4, τ4, S4, w4, hn4, rl4, sl4, z6⟩ := q.len hn2
          exact ⟨g4, τ4, S4, w2.trans w4, hn4, rl4, sl4, z6⟩
        · obtain ⟨g4, τ4, S4, w4, hn4, rl4, sl4, z6⟩ := q.len hn2
          exact ⟨g4, τ4, S4, w2.trans w4, hn4, rl4, sl4, z6⟩
    · exact z4.elim
  · have hi' : i = xs.length := by omega
    subst hi'
    rw [List.drop_eq_nil_of_le (Nat.le_refl _)] at z4
    simp only [forG] at z4
    split at z4
    · rename_i hq
      obtain ⟨jgo, jstop, jyld⟩ := hJ g2 H2 S2 w2.kf w2.as rl2 hq
      exact .inl ⟨jstop _ (Nat.le_refl _), z4 g2 σ' H2 GrowS.refl rl2 sl2⟩
    · exact z4.elim
theorem s_whl (G : GoodS fx cx nm c X W) {k : Nat} {t : E} {b : Ss} {u : Expr} {x : List Stmt} {pos : Pos} (ht : mE nm fx.ts t c u = true) (hb : PSs X x (rdS fx W n (exs cx n b))) : PS X (.While u x [] pos) (rdS fx W n (ex cx n (.whl k t b))) := by
  have pt := (sE t c X W u G.toGood ht).2
  refine (ps_while G.own pt hb).imp fun D σ H z => ?_
  obtain ⟨g, τ, S, hn, rl, sl, z⟩ := z
  simp only [ex] at z
  refine ⟨fun m σ' H' => ∃ g' τ' S', n ≤ g'.as.length ∧ Rel fx g' S' H' ∧ Slots fx g' H' τ' σ' ∧ RunS fx n g' H' (whlL (fun σ S => ev cx t σ S) (fun σ S => exs cx n b σ S) m τ' S') D W, ⟨k, g, τ, S, hn, rl, sl, z⟩, ?_⟩
  rintro m σ1 H1 ⟨g1, τ1, S1, hn1, rl1, sl1, z1⟩
  cases m with
  | zero => exact z1.elim
  | succ m =>
    simp only [whlL] at z1
    refine ⟨g1, τ1, S1, rl1, sl1, (z1.test (A := fun S1 => match exs cx n b τ1 S1 with
        | .nx σ' S' => whlL (fun σ S => ev cx t σ S) (fun σ S => exs cx n b σ S) m σ' S'
        | .cnt σ' S' => whlL (fun σ S => ev cx t σ S) (fun σ S => exs cx n b σ S) m σ' S'
        | .brk σ' S' => .nx σ' S'
        | r => r) (B := fun S1 => .nx τ1 S1) (fun t S => ?_) sl1).mono fun d H2 ⟨g2, S2, w2, rl2, q2⟩ => ?_⟩
    · cases t with
      | d d =>
        cases d with
        | bl b => cases b <;> rfl
        | _ => rfl
      | _ => rfl
    · cases d with
      | false =>
        simp only [Bool.false_eq_true, if_false] at q2 ⊢
        exact q2 g2 σ1 H2 GrowS.refl rl2 (sl1.grow w2)
      | true =>
        simp only [if_true] at q2 ⊢
        have hn2 : n ≤ g2.as.length := GrowS.len (n := n) w2.gs hn1
        refine ⟨fun σ' H' => ∃ g' τ' S', n ≤ g'.as.length ∧ Rel fx g' S' H' ∧ Slots fx g' H' τ' σ' ∧ RunS fx n g' H' (whlL (fun σ S => ev cx t σ S) (fun σ S => exs cx n b σ S) m τ' S') D W, fun σ' H' p => ⟨m, Nat.lt_succ_self m, p⟩, ?_⟩
        refine ⟨g2, τ1, S2, hn2, rl2, sl1.grow w2, (RunS.turn q2).mono (fun σ4 H4 q => ?_) (fun _ _ q => q) (fun σ4 H4 q => ?_) fun _ _ q => q⟩
        · obtain ⟨g4, τ4, S4, w4, hn4, rl4, sl4, z6⟩ := q.len hn2
          exact ⟨g4, τ4, S4, hn4, rl4, sl4, z6⟩
        · obtain ⟨g4, τ4, S4, w4, hn4, rl4, sl4, z6⟩ := q.len hn2
          exact ⟨g4, τ4, S4, hn4, rl4, sl4, z6⟩
/-! ### raise, try -/
theorem s_rai0 (G : GoodS fx cx nm c X W) {k : Nat} {y m : Str} {j : Nat} {p p2 p3 pos : Pos} (hc : c.calm = true) (hg : c.gl y = true) (hy : y = cname k) (hk : k ∈ fx.ts) (h40 : 40 ≤ k) (h0 : flds k = []) :
    PS X (.Raise (some (.Call (.Name y p) [.Constant (.str m) j p2] [] p3)) none pos) (rdS fx W n (ex cx n (.rai k .nil))) := by
  subst hy
  obtain ⟨g1, g2, g3⟩ := G.gl hg
  obtain ⟨e1, e2, e3, e4⟩ := G.pub.ex.own k hk h40 h0
  have K := G.pub.K
  refine (L2N.ps_raise (G.cm hc).1 G.tk (L2N.pmk_own (m := m) PySem.F.excBase_ValueError (C := fx.cA k) (by rw [K]; exact e1) (G.pub.cls k hk) (by rw [K]; exact e2) (raises_own (by rw [K]; exact e3) (by rw [K]; exact e4)) g1 g2)).imp fun D σ H z => ?_
  obtain ⟨g, τ, S, hn, rl, sl, z⟩ := z
  simp only [ex, evs, unDs] at z
  exact z g σ _ _ H GrowS.refl rl sl ⟨rfl, hk, h40, .inl ⟨rfl, rfl⟩⟩
theorem s_rai1 (G : GoodS fx cx nm c X W) {k : Nat} {e : E} {x : Expr} {y : Str} {p p3 pos : Pos} (hc : c.calm = true) (hg : c.gl y = true) (hy : y = cname k) (hk : k ∈ fx.ts) (h40 : 40 ≤ k) (hr : k ∈ nm.rx) (hm : mE nm fx.ts e c x = true) :
    PS X (.Raise (some (.Call (.Name y p) [x] [] p3)) none pos) (rdS fx W n (ex cx n (.rai k (.cons e .nil)))) := by
  subst hy
  obtain ⟨g1, g2, g3⟩ := G.gl hg
  obtain ⟨j, fI, fd, ps, f, ef, T, iC, tI, F, hR, hb⟩ := (G.pub.tb (G.cm hc).1).rx k hr
  have pe := (sE e c X W x G.toGood hm).1
  have hs : starEach [x] X.env = [(false, eval x X.env)] := by rw [ok_star (mE_okX e c x hm)]; rfl
  refine (L2N.ps_raise (G.cm hc).1 G.tk (pmk_ini T iC tI F hR hb G.tk g1 (G.pub.cls k hk) (pa_cons pe pa_nil hs) g2 hs)).imp fun D σ H z => ?_
  obtain ⟨g, τ, S, hn, rl, sl, z⟩ := z
  refine ⟨g, τ, S, rl, sl, ?_⟩
  simp only [ex, evs] at z
  have z2 : RunG fx (RepT fx) g H (ev cx e τ S) (fun v H1 => ∃ g1 S1 t, Grow g g1 H H1 ∧ Rel fx g1 S1 H1 ∧ RepT fx g1 H1 v t ∧ RunS fx n g1 H1 (match unDs [t] with
      | some ds => .exc k ds τ S1
      | none => .bad) D W) (fun c d H' => W c d σ H') := by
    cases e1 : ev cx e τ S with
    | bad => rw [e1] at z; exact z
    | exc cc p S1 => rw [e1] at z; exact fun g' cls d H' w rl' rx => z g' σ cls d H' w.gs rl' (sl.grow w) rx
    | ok t S1 => rw [e1] at z; exact fun g' v H' w rl' hv => ⟨g', S1, t, w, rl', hv, RunS.grow w.gs z⟩
  refine z2.mono fun v H1 ⟨g1, S1, t, w1, rl1, rv, z3⟩ => ⟨v, rfl, fun d hd => ?_⟩
  split at z3
  · rename_i ds eds
    have w2 := grow_new (o := .xd [(fname f, v)]) rl1 hd
    have rds := RepTs.unDs (.cons rv .nil) eds
    refine z3 (g1.addF d) σ _ _ _ w2.gs (rl1.newF hd) ((sl.grow w1).grow w2) ⟨rfl, hk, h40, .inr ⟨d, _, [v], rfl, .inr rfl, upd_same, ⟨rfl, by rw [ef]; exact Nat.le_refl _, fun x => ?_⟩, rds.grow w2⟩⟩
    unfold fnames
    rw [ef]
    rfl
  · exact z3.elim
theorem s_nev {x : Stmt} : PS X x (rdS fx W n (ex cx n .nev)) :=
  ⟨fun pins s σ H D I h => by
    obtain ⟨g, τ, S, hn, rl, sl, z⟩ := h
    simp only [ex] at z
    exact z.elim⟩
theorem _root_.L2.PSs.some {X : Cx} {xs : List Stmt} {P : Nat → Prop} {t : Nat → TS} (h : ∀ k, P k → PSs X xs (t k)) : PSs X xs (fun D σ H => ∃ k, P k ∧ t k D σ H) :=
  ⟨fun pins s σ H D I ⟨k, p, q⟩ => (h k p).run pins s σ H D I q⟩
theorem Good.tr (G : Good fx cx nm c X W) (pn : List (Addr × Obj)) (xe : Value → Shared → Prop) {W' : WX} (hc : c.calm = true) (tk : Takes (X.tr pn xe) W') : Good fx cx nm c (X.tr pn xe) W' := by
  have P := G.pub
  refine ⟨⟨P.K, P.un, P.bl, P.kit, P.glo, fun h => let T := P.tb h; ⟨T.cal, T.dis, T.new, T.newk, T.up, T.new0, T.rx⟩, P.ex, P.cls, P.hot⟩, G.N, G.nd, G.sc, G.fn, tk, G.cm, fun a k d h => ?_, fun a k d h => ?_, (fun h => by rw [hc] at h; cases h)⟩
  · rw [(G.cm hc).2] at h
    cases h
  · rw [(G.cm hc).2] at h
    cases h
theorem KitG.wx {e : Option (Addr × Nat × Option Addr)} (h : KitG fx) : KitG (fx.wx e) := ⟨h.is3⟩
theorem ExG.wx {e : Option (Addr × Nat × Option Addr)} (h : ExG fx) : ExG (fx.wx e) := ⟨h.k, h.fn, h.em, h.is, h.iv, h.own⟩
theorem Good.suite (G : Good fx cx nm c X W) {a : Addr} {oe : Obj} {k : Nat} {d : Option Addr} {pn : List (Addr × Obj)} (hz : L2N.Zn (.ref (fx.cA k)) d oe) (hv : ∃ vs, oe.data = .fields vs) : Good (fx.wx (some (a, k, d))) cx nm { c with calm := false } (X.suite a ((a, oe) :: pn)) WF := by
  have P := G.pub
  refine ⟨⟨P.K, P.un, P.bl, P.kit.wx, fun j x h => ?_, fun h => Bool.noConfusion h, P.ex.wx, P.cls, fun i hi x hx => ?_⟩, G.N, G.nd, G.sc, G.fn, fun u s' z => ?_, fun h => Bool.noConfusion h, fun a' k' d' h => ?_, fun a' k' d' h => ?_, fun _ => ⟨_, rfl⟩⟩
  · obtain ⟨d, v, u, e1, e2, e3, e4⟩ := P.glo j x h
    exact ⟨d, v, u, e1, e2, e3, fun F bs H => (e4 F bs H).wx⟩
  · obtain ⟨f, e1, kk, fa, fd, ps, ds, dvs, F, hr, hmg, hkp, hb, hd, hfx⟩ := P.hot i hi x hx
    exact ⟨f, e1, kk, fa, fd, ps, ds, dvs, F, ⟨hr.dp, hr.un⟩, hmg, hkp, hb, hd, fun F bs H => (hfx F bs H).wx⟩
  · obtain ⟨_, _, _, _, _, _, _, _, _, _, _, _, _, _, _, _, w⟩ := z
    exact w.elim
  · cases h
    exact ⟨oe, List.mem_cons_self, hz, hv⟩
  · cases h
    rfl
def HsHas : Hs → Ss → Prop
  | .nil, _ => False
  | .cons _ _ b hs, b' => b' = b ∨ HsHas hs b'
theorem hnd_ok (G : GoodS fx cx nm c X W) (hc : c.calm = true) : ∀ (hs : Hs) (_ : ∀ b, HsHas hs b → ∀ e, OkSs (fx.wx e) cx nm b) (hds : List ExceptHandler), mHs nm fx.ts hs c hds = true →
    ∃ l, HndOk X hds l ∧ ∀ (g : Gh) (k : Nat) (q : List D) (τ : Sl) (S : Store) (σ : L2.St) (cls : Value) (d : Option Addr) (H : Hp) (D : Ends), n ≤ g.as.length → Rel fx g S H → Slots fx g H τ σ → RepX fx g H cls d k q → RunS fx n g H (exh cx n hs k q τ S) D W → wHd X.K W D l cls d σ H
  | .nil, _, hds, h => by
    unfold mHs at h
    cases hds with
    | cons x xs => cases h
    | nil =>
      refine ⟨[], .nil, fun g k q τ S σ cls d H D hn rl sl rx h => ?_⟩
      simp only [exh] at h
      exact h g σ cls d H GrowS.refl rl sl rx
  | .cons k i b hs, hi, hds, h => by
    unfold mHs at h
    split at h
    · rename_i x p nmo suite p2 hds2
      simp only [Bool.and_eq_true, decide_eq_true_eq, Bool.not_eq_true'] at h
      obtain ⟨⟨⟨⟨⟨⟨⟨hg, hx⟩, hk⟩, h40⟩, hio⟩, hne⟩, hb⟩, hr⟩ := h
      obtain ⟨l, ok, rest⟩ := hnd_ok G hc hs (fun b h => hi b (.inr h)) hds2 hr
      have hk' : k ∈ fx.ts := by simpa using hk
      subst hx
      obtain ⟨g1, g2, g3⟩ := G.gl hg
      have names : Names X (cname k) (.ref (fx.cA k)) := ⟨g1, g2, .inl (G.pub.cls k hk')⟩
      have hfx : fx.ex = none := (G.cm hc).2
      let ts : Addr → Value → Option Addr → TS := fun a cls d D σ H => ∃ c0, cls = Value.ref (fx.cA c0) ∧ rdS (fx.wx (some (a, c0, d))) WF n (exs cx n b) D σ H
      have su : SuOk X suite ts := fun a oe cls d pn hz hv => by
        refine L2.PSs.some fun c0 ec => ?_
        subst ec
        refine hi b (.inl rfl) (some (a, c0, d)) { c with calm := false } (X.suite a ((a, oe) :: pn)) WF n suite ?_ hb
        exact { toGood := G.toGood.suite hz hv, own := PassesOwn.never, st := G.st, fr := G.fr }
      -- what the clause asks
      have ask : ∀ (g : Gh) (k0 : Nat) (q : List D) (τ : Sl) (S : Store) (σ : L2.St) (cls : Value) (d : Option Addr) (H : Hp) (D : Ends), n ≤ g.as.length → Rel fx g S H → Slots fx g H τ σ → RepX fx g H cls d k0 q → RunS fx n g H (exh cx n (.cons k i b hs) k0 q τ S) D W →
          ∃ bb, PySem.W.exmOne X.K cls (.ref (fx.cA k)) = some bb ∧ (bb = true → ∀ a, ts a cls d (endX i D) (match i with
            | none => σ
            | some i => σ.set i (some (.ref a))) H) ∧ (bb = false → wHd X.K W D l cls d σ H) := fun g k0 q τ S σ cls d H D hn rl sl rx h => by
        obtain ⟨ec, xr⟩ := rx
        obtain ⟨x1, x2, x3⟩ := id xr
        refine ⟨(ups k0).contains k, by rw [ec, G.pub.K]; exact G.pub.ex.em k0 x1 x2 k hk' h40, fun e a => ?_, fun e => ?_⟩
        · simp only [exh, e, if_true] at h
          have r := xout_run (e := some (a, k0, d)) (W' := WF) hfx h
          refine ⟨k0, ec, g, xIn i k0 q τ, S, hn, rl.wx, ?_, r⟩
          have s2 : Slots (fx.wx (some (a, k0, d))) g H τ σ := sl.wx (sl.nox hfx)
          cases i with
          | none => exact s2
          | some i => exact s2.set i (.exc rfl xr.wx)
        · simp only [exh, e, Bool.false_eq_true, if_false] at h
          exact rest g k0 q τ S σ cls d H D hn rl sl ⟨ec, xr⟩ h
      cases suite with
      | nil => cases hne
      | cons b0 bs =>
        cases i with
        | none =>
          cases nmo with
          | some m => cases hio
          | none =>
            refine ⟨(.ref (fx.cA k), none, ts) :: l, .bare names su ok, fun g k0 q τ S σ cls d H D hn rl sl rx h => ?_⟩
            obtain ⟨bb, e1, e2, e3⟩ := ask g k0 q τ S σ cls d H D hn rl sl rx h
            exact ⟨bb, e1, fun e a _ => e2 e a, e3⟩
        | some i =>
          cases nmo with
          | none => cases hio
          | some m =>
            simp only [Bool.and_eq_true, decide_eq_true_eq] at hio
            have hl : X.env.kindOf m = some .local := by
              show X.env.scope.names.lookup m = _
              rw [G.sc]
              exact hio.2
            refine ⟨(.ref (fx.cA k), some i, ts) :: l, .as names (by rw [G.N]; exact hio.1) hl su ok, fun g k0 q τ S σ cls d H D hn rl sl rx h => ?_⟩
            obtain ⟨bb, e1, e2, e3⟩ := ask g k0 q τ S σ cls d H D hn rl sl rx h
            exact ⟨bb, e1, fun e a _ => e2 e a, e3⟩
    · cases h
theorem s_try (G : GoodS fx cx nm c X W) {b els : Ss} {hs : Hs} {body orelse : List Stmt} {hds : List ExceptHandler} {pos : Pos} (hc : c.calm = true) (hne : hds.isEmpty = false) (hb : mSs nm fx.ts b c body = true) (hh : mHs nm fx.ts hs c hds = true) (he : mSs nm fx.ts els c orelse = true)
    (ib : OkSs fx cx nm b) (ie : OkSs fx cx nm els) (ih : ∀ b, HsHas hs b → ∀ e, OkSs (fx.wx e) cx nm b) : PS X (.Try body hds orelse [] pos) (rdS fx W n (ex cx n (.try b hs els))) := by
  obtain ⟨l, ok, rest⟩ := hnd_ok (n := n) G hc hs ih hds hh
  cases hds with
  | nil => cases hne
  | cons h0 hds =>
    refine (ps_tryG (tb := fun W' => rdS fx W' n (exs cx n b)) G.st G.fr G.hN G.tk (fun W' pn xe tk own => ?_) (ie c X W n orelse G he) ok).imp fun D σ H z => ?_
    · exact ib c (X.tr pn xe) W' n body { toGood := G.toGood.tr pn xe hc tk, own := own, st := G.st, fr := G.fr } hb
    · obtain ⟨g, τ, S, hn, rl, sl, z⟩ := z
      refine ⟨g, τ, S, hn, rl, sl, ?_⟩
      simp only [ex] at z
      cases e : exs cx n b τ S with
      | bad => rw [e] at z; exact z
      | nx τ' S' => rw [e] at z; exact fun g' σ' H' w rl' sl' => ⟨g', τ', S', w.len hn, rl', sl', RunS.grow w z⟩
      | brk τ' S' => rw [e] at z; exact z
      | cnt τ' S' => rw [e] at z; exact z
      | ret t S' => rw [e] at z; exact z
      | exc k q τ' S' => rw [e] at z; exact fun g' σ' cls d H' w rl' sl' rx => rest g' k q τ' S' σ' cls d H' D (w.len hn) rl' sl' rx (RunS.grow w z)
mutual
theorem sS : ∀ (s : S1) (fx : Fx), OkS fx cx nm s
  | .set tg e => fun fx c X W n x G h => by
    unfold mS at h; split at h
    · simp only [Bool.and_eq_true, Bool.not_eq_true'] at h
      obtain ⟨⟨⟨h1, h2⟩, h3⟩, h4⟩ := h
      exact s_set G h1 h2 h3 h4
    · cases h
  | .aug i o e => fun fx c X W n x G h => by
    unfold mS at h; split at h
    · simp only [Bool.and_eq_true, decide_eq_true_eq] at h
      obtain ⟨⟨h1, rfl⟩, h2⟩ := h
      exact s_aug G h1 h2
    · cases h
  | .setA o f e => fun fx c X W n x G h => by
    unfold mS at h; split at h
    · simp only [Bool.and_eq_true, decide_eq_true_eq] at h
      obtain ⟨⟨⟨rfl, h1⟩, h2⟩, h3⟩ := h
      exact s_setA G h1 h2 h3
    · cases h
  | .augA o f q e => fun fx c X W n x G h => by
    unfold mS at h; split at h
    · simp only [Bool.and_eq_true, decide_eq_true_eq] at h
      obtain ⟨⟨⟨⟨rfl, h1⟩, rfl⟩, h2⟩, h3⟩ := h
      exact s_augA G h1 h2 h3
    · cases h
  | .setI o i e => fun fx c X W n x G h => by
    unfold mS at h; split at h
    · simp only [Bool.and_eq_true] at h
      obtain ⟨⟨h1, h2⟩, h3⟩ := h
      exact s_setI G h1 h2 h3
    · cases h
  | .expr e => fun fx c X W n x G h => by
    unfold mS at h; split at h
    · simp only [Bool.and_eq_true, Bool.not_eq_true'] at h
      exact s_expr G h.1 h.2
    · cases h
  | .ret e => fun fx c X W n x G h => by
    unfold mS at h; split at h
    · exact s_ret G h
    · cases h
  | .retN => fun fx c X W n x G h => by
    unfold mS at h; split at h
    · exact s_retN
    · cases h
  | .pass => fun fx c X W n x G h => by
    unfold mS at h; split at h
    · exact s_pass
    · cases h
  | .brk => fun fx c X W n x G h => by
    unfold mS at h; split at h
    · exact s_brk
    · cases h
  | .cnt => fun fx c X W n x G h => by
    unfold mS at h; split at h
    · exact s_cnt
    · cases h
  | .ife t a b => fun fx c X W n x G h => by
    have ia := sSs a fx
    have ib := sSs b fx
    unfold mS at h; split at h
    · simp only [Bool.and_eq_true] at h
      obtain ⟨⟨h1, h2⟩, h3⟩ := h
      exact s_if G h1 (ia c X W n _ G h2) (ib c X W n _ G h3)
    · cases h
  | .for tg it b => fun fx c X W n x G h => by
    have ib := sSs b fx
    unfold mS at h; split at h
    · simp only [Bool.and_eq_true] at h
      obtain ⟨⟨⟨⟨h1, h2⟩, h3⟩, h4⟩, hc⟩ := h
      exact s_for G h1 h2 h3 hc (ib c X W n _ G h4)
    · cases h
  | .forC tg e b => fun fx c X W n x G h => by
    have ib := sSs b fx
    unfold mS at h; split at h
    · simp only [Bool.and_eq_true] at h
      obtain ⟨⟨⟨⟨h1, h2⟩, h3⟩, h4⟩, hc⟩ := h
      exact s_forC G h1 h2 hc (ib c X W n _ G h4)
    · cases h
  | .par i j es => fun fx c X W n x G h => by
    unfold mS at h; split at h
    · simp only [Bool.and_eq_true, Bool.not_eq_true', decide_eq_true_eq] at h
      obtain ⟨⟨⟨⟨⟨hc, h1⟩, h2⟩, h3⟩, h4⟩, h5⟩ := h
      exact s_par G hc h1 h2 h3 h4 h5
    · cases h
  | .swp o i o2 i2 e => fun fx c X W n x G h => by
    unfold mS at h; split at h
    · simp only [Bool.and_eq_true] at h
      obtain ⟨⟨⟨⟨⟨hc, h1⟩, h2⟩, h3⟩, h4⟩, h5⟩ := h
      exact s_swp G hc h1 h2 h3 h4 h5
    · cases h
  | .whl k t b => fun fx c X W n x G h => by
    have ib := sSs b fx
    unfold mS at h; split at h
    · simp only [Bool.and_eq_true] at h
      exact s_whl G h.1 (ib c X W n _ G h.2)
    · cases h
  | .rai k es => fun fx c X W n x G h => by
    unfold mS at h; split at h
    · rename_i y p xs p3 pos
      simp only [Bool.and_eq_true, decide_eq_true_eq] at h
      obtain ⟨⟨⟨⟨⟨hc, hg⟩, hy⟩, hk⟩, h40⟩, hm⟩ := h
      split at hm
      · exact s_rai0 G hc hg hy (by simpa using hk) h40 (of_decide_eq_true hm)
      · simp only [Bool.and_eq_true] at hm
        exact s_rai1 G hc hg hy (by simpa using hk) h40 (by simpa using hm.1) hm.2
      · cases hm
    · cases h
  | .try b hs els => fun fx c X W n x G h => by
    have ib := sSs b fx
    have ie := sSs els fx
    have ih := sHs hs
    unfold mS at h; split at h
    · simp only [Bool.and_eq_true, Bool.not_eq_true'] at h
      obtain ⟨⟨⟨⟨hc, hne⟩, hb⟩, hh⟩, he⟩ := h
      exact s_try G hc hne hb hh he ib ie fun b hb e => ih b hb (fx.wx e)
    · cases h
  | .nev => fun fx c X W n x G h => s_nev
  | .frz _ => fun fx c X W n x G h => by unfold mS at h; cases h
  | .clr _ => fun fx c X W n x G h => by unfold mS at h; cases h
  | .grf _ => fun fx c X W n x G h => by unfold mS at h; cases h
theorem sHs : ∀ (hs : Hs) (b : Ss), HsHas hs b → ∀ (fx : Fx), OkSs fx cx nm b
  | .nil, b, h => h.elim
  | .cons k i b0 hs, b, h => fun fx => by
    have i1 := sSs b0 fx
    have i2 := sHs hs
    rcases h with h | h
    · rw [h]; exact i1
    · exact i2 b h fx
theorem sSs : ∀ (ss : Ss) (fx : Fx), OkSs fx cx nm ss
  | .nil => fun fx c X W n xs G h => by
    unfold mSs at h
    cases xs with
    | cons x xs => cases h
    | nil =>
      refine pss_nil.imp fun D σ H z => ?_
      obtain ⟨g, τ, S, hn, rl, sl, z⟩ := z
      simp only [exs] at z
      exact z g σ H GrowS.refl rl sl
  | .cons s ss => fun fx c X W n xs G h => by
    have i1 := sS s fx
    have i2 := sSs ss fx
    unfold mSs at h
    split at h
    · rename_i hg
      refine (i2 c X W n xs G h).imp fun D σ H z => ?_
      obtain ⟨g, τ, S, hn, rl, sl, z⟩ := z
      simp only [exs] at z
      cases s with
      | frz i =>
        have e : ex cx n (.frz i) τ S = frzI n i τ S := by
          simp only [ex]
          rfl
        rw [e] at z
        obtain ⟨g', τ', S', w, rl', sl', z'⟩ := frz_run rl sl z
        exact ⟨g', τ', S', w.len hn, rl', sl', z'⟩
      | grf i =>
        have e : ex cx n (.grf i) τ S = grfI n i τ S := by
          simp only [ex]
          rfl
        rw [e] at z
        obtain ⟨g', τ', S', w, rl', sl', z'⟩ := grf_run rl sl z
        exact ⟨g', τ', S', w.len hn, rl', sl', z'⟩
      | clr i =>
        simp only [ex, seq_nx] at z
        exact ⟨g, τ.set i none, S, hn, rl, sl.clear i, z⟩
      | _ => cases hg
    · cases xs with
      | nil => cases h
      | cons x xs =>
        simp only [Bool.and_eq_true] at h
        refine (pss_cons (i1 c X W n x G h.1) (i2 c X W n xs G h.2)).imp fun D σ H z => ?_
        obtain ⟨g, τ, S, hn, rl, sl, z⟩ := z
        simp only [exs] at z
        refine ⟨g, τ, S, hn, rl, sl, z.seq.mono (fun σ1 H1 q => ?_) (fun _ _ q => q) (fun _ _ q => q) fun _ _ q => q⟩
        obtain ⟨g1, τ1, S1, w1, hn1, rl1, sl1, q1⟩ := q.len hn
        exact ⟨g1, τ1, S1, hn1, rl1, sl1, q1⟩
end
end
end Mn
set_option Elab.async false
set_option linter.all false
set_option maxRecDepth 100000
set_option maxHeartbeats 4000000
/-! Mn19: defs; the law's end. -/
namespace Mn
open PySem PySem.Spec PyProof.Rows PySem.SeqAt
open L2 hiding ixN atI Takes XE CX takes_of passes_call passAt
open L2N (Takes XE CX takes_of)

/-! ### what a def hands back -/
def Gh.pick (g : Gh) (n : Nat) (a : Addr) : Gh := ⟨fun b => g.F b ∨ (b ∈ g.as.drop n ∧ b ≠ a), g.P, g.as.take n ++ [a], g.bs⟩
section
variable {fx : Fx} {cx : Cxx} {g g1 : Gh} {H H1 : Hp} {S : Store}
theorem Rel.pick {n k : Nat} {a : Addr} {c : Cell} (r : Rel fx g S H) (hk : g.as[k]? = some a) (hn : n ≤ k) (hc : S.loc[k]? = some c) (hl : c.live = true) : Rel fx (g.pick n a) ((S.trunc n).push c) H := by
  have hm := mem_of_get hk
  have nd := r.nd
  rw [List.nodup_append] at nd
  obtain ⟨n1, n2, n3⟩ := nd
  have hkl := (List.getElem?_eq_some_iff.mp hc).1
  have hka := (List.getElem?_eq_some_iff.mp hk).1
  have w : ∀ a', g.F a' → (g.pick n a).F a' := fun _ h => .inl h
  have cell : ∀ {b : Addr} {c : Cell}, CellAt fx g H b c → CellAt fx (g.pick n a) H b c := fun {b c} h => by
    cases c with
    | dead => exact h
    | lst ds => obtain ⟨vs, e, q⟩ := h; exact ⟨vs, e, q.mono w (fun _ _ _ z => z) fun _ _ z => z⟩
    | dct ks ds => obtain ⟨vs, e, l, q⟩ := h; exact ⟨vs, e, l, q.mono w (fun _ _ _ z => z) fun _ _ z => z⟩
    | obj c fs => obtain ⟨dx, fvs, vs, e, c1, f, q⟩ := h; exact ⟨dx, fvs, vs, e, c1, f, q.mono w (fun _ _ _ z => z) fun _ _ z => z⟩
  have lt : (g.as.take n).length = n := by rw [List.length_take]; omega
  have ls : (S.loc.take n).length = n := by rw [List.length_take]; omega
  have getA : ∀ {j : Nat} {b : Addr}, (g.as.take n ++ [a])[j]? = some b → (j < n ∧ g.as[j]? = some b) ∨ (j = n ∧ b = a) := fun {j b} h => by
    by_cases e : j < n
    · rw [List.getElem?_append_left (by omega), List.getElem?_take_of_lt e] at h
      exact .inl ⟨e, h⟩
    · rw [List.getElem?_append_right (by omega), lt] at h
      by_cases e2 : j = n
      · subst e2
        simp at h
        exact .inr ⟨rfl, h.symm⟩
      · rw [List.getElem?_eq_none (by simp; omega)] at h
        cases h
  have getS : ∀ {j : Nat} {d : Cell}, (S.loc.take n ++ [c])[j]? = some d → (j < n ∧ S.loc[j]? = some d) ∨ (j = n ∧ d = c) := fun {j d} h => by
    by_cases e : j < n
    · rw [List.getElem?_append_left (by omega), List.getElem?_take_of_lt e] at h
      exact .inl ⟨e, h⟩
    · rw [List.getElem?_append_right (by omega), ls] at h
      by_cases e2 : j = n
      · subst e2
        simp at h
        exact .inr ⟨rfl, h.symm⟩
      · rw [List.getElem?_eq_none (by simp; omega)] at h
        cases h
  have notT : ∀ {j : Nat}, j < n → ∀ {b : Addr}, g.as[j]? = some b → b ≠ a ∧ b ∉ g.as.drop n := fun {j} hj {b} h => by
    refine ⟨fun e => ?_, fun z => ?_⟩
    · subst e
      have := nodup_get n1 h hk
      omega
    · obtain ⟨i, hi⟩ := List.mem_iff_getElem?.mp z
      rw [List.getElem?_drop] at hi
      have := nodup_get n1 h hi
      omega
  refine ⟨by show (g.as.take n ++ [a]).length = (S.loc.take n ++ [c]).length; rw [List.length_append, List.length_append, lt, ls]; rfl, r.lG, fun j b d h1 h2 => ?_, fun j b d h1 h2 => cell (r.cG j b d h1 h2), ?_, fun j b d h1 h2 h3 => ?_, fun b h => ?_, fun b h => ?_, fun b h => ?_⟩
  · rcases getA h1 with ⟨e, h1⟩ | ⟨e, rfl⟩
    · rcases getS h2 with ⟨_, h2⟩ | ⟨e2, _⟩
      · exact cell (r.cL j b d h1 h2)
      · omega
    · rcases getS h2 with ⟨e2, _⟩ | ⟨_, rfl⟩
      · omega
      · exact cell (r.cL k _ _ hk hc)
  · show ((g.as.take n ++ [a]) ++ g.bs).Nodup
    rw [List.nodup_append]
    refine ⟨?_, n2, fun x hx y hy => ?_⟩
    · rw [List.nodup_append]
      refine ⟨n1.sublist (List.take_sublist n g.as), by simp, fun x hx y hy => ?_⟩
      rw [List.mem_singleton] at hy
      subst hy
      obtain ⟨j, hj⟩ := List.mem_iff_getElem?.mp hx
      have hjn : j < n := by
        have := (List.getElem?_eq_some_iff.mp hj).1
        omega
      rw [List.getElem?_take_of_lt hjn] at hj
      exact (notT hjn hj).1
    · rcases List.mem_append.mp hx with z | z
      · exact n3 x (List.mem_of_mem_take z) y hy
      · rw [List.mem_singleton] at z
        subst z
        exact n3 _ hm y hy
  · rcases getA h1 with ⟨e, h1⟩ | ⟨e, rfl⟩
    · rcases getS h2 with ⟨_, h2⟩ | ⟨e2, _⟩
      · rintro (z | ⟨z, _⟩)
        · exact r.nF j b d h1 h2 h3 z
        · exact (notT e h1).2 z
      · omega
    · rintro (z | ⟨_, z⟩)
      · exact r.nF k _ c hk hc hl z
      · exact z rfl
  · rintro (z | ⟨z, _⟩)
    · exact r.nG b h z
    · exact n3 b (List.mem_of_mem_drop z) b h rfl
  · rcases h with z | ⟨z, _⟩
    · exact r.fs b z
    · exact r.asSome (List.mem_of_mem_drop z)
  · obtain ⟨p1, p2, p3, p4⟩ := r.pv b h
    refine ⟨fun z => ?_, p2, ?_, p4⟩
    · rcases List.mem_append.mp z with z | z
      · exact p1 (List.mem_of_mem_take z)
      · rw [List.mem_singleton] at z
        subst z
        exact p1 hm
    · rintro (q | ⟨q, _⟩)
      · exact p3 q
      · exact p1 (List.mem_of_mem_drop q)
theorem GrowS.cut {n : Nat} (w : GrowS n g g1 H H1) (h : g.as.length = n) : Grow g (g1.cutF n) H H1 :=
  ⟨fun a z => .inl (w.F a z), w.keep, w.P, w.kP, fun k a z => by
    have hk := (List.getElem?_eq_some_iff.mp z).1
    show (g1.as.take n)[k]? = some a
    rw [List.getElem?_take_of_lt (by omega)]
    exact w.as k a (by omega) z, w.bs⟩
theorem GrowS.pick {n : Nat} {a : Addr} (w : GrowS n g g1 H H1) (h : g.as.length = n) : Grow g (g1.pick n a) H H1 :=
  ⟨fun a z => .inl (w.F a z), w.keep, w.P, w.kP, fun k b z => by
    have hk := (List.getElem?_eq_some_iff.mp z).1
    have e := w.as k b (by omega) z
    have hk1 := (List.getElem?_eq_some_iff.mp e).1
    show (g1.as.take n ++ [a])[k]? = some b
    rw [List.getElem?_append_left (by rw [List.length_take]; omega), List.getElem?_take_of_lt (by omega)]
    exact e, w.bs⟩
theorem run_fin {n : Nat} {t : T} {Q : VK} {E : XW} {v : V} (h : Run fx g H (fin n t S) Q E) (hn : g.as.length = n) (w : GrowS n g g1 H H1) (rl : Rel fx g1 S H1) (r : RepT fx g1 H1 v t) : Q v H1 := by
  unfold fin at h
  split at h
  · cases r with
    | d r => exact h _ _ _ (w.cut hn) (rl.cut n) (.d (r.mono (fun _ z => .inl z) (fun _ _ _ z => z) fun _ _ z => z))
  · rename_i k
    cases r with
    | cell e =>
      rename_i a
      split at h
      · rename_i hk
        refine h _ _ _ (w.cut hn) (rl.cut n) (.cell ?_)
        show (g1.as.take n)[k]? = some a
        rw [List.getElem?_take_of_lt hk]
        exact e
      · rename_i hk
        have hlen : (g1.as.take n).length = n := by
          have := w.len (Nat.le_of_eq hn.symm)
          rw [List.length_take]
          omega
        have gt : (g1.pick n a).as[n]? = some a := by
          show (g1.as.take n ++ [a])[n]? = some a
          rw [List.getElem?_append_right (by omega), hlen]
          simp
        split at h
        · exact h.elim
        · rename_i c hd hc
          exact h _ _ _ (w.pick hn) (rl.pick e (by omega) hc (by cases c <;> first | rfl | exact absurd rfl hd)) (.cell gt)
        · exact h.elim
  · exact h.elim
theorem run_mkFn {np ns : Nat} {b : Ss} {tl : List T} {Q : VK} {E : XW} (h : Run fx g H (mkFn cx np ns b tl S) Q E) (rl : Rel fx g S H) :
    tl.length = np ∧ RunS fx S.loc.length g H (exs cx S.loc.length b (tl.map some ++ List.replicate (ns - np) none) S) { nx := fun _ H' => Q .non H', rt := Q } (fun c d _ H' => E c d H') := by
  unfold mkFn at h
  split at h
  · rename_i hl
    refine ⟨hl, ?_⟩
    have hn := rl.lL
    revert h
    cases exs cx S.loc.length b (tl.map some ++ List.replicate (ns - np) none) S with
    | nx τ S' => exact fun h g' σ' H' w rl' sl' => run_fin h hn w rl' (.d .non)
    | ret t S' => exact fun h g' v H' w rl' r => run_fin h hn w rl' r
    | brk τ S' => exact fun h => h.elim
    | cnt τ S' => exact fun h => h.elim
    | bad => exact fun h => h.elim
    | exc c p τ S' => exact fun h g' σ' cls d H' w rl' sl' rx => h _ _ _ _ (w.cut hn) (rl'.cut _) rx.cut
  · exact h.elim
theorem slots_start {N : List Str} {vs : List V} {tl : List T} (r : RepTs fx g H vs tl) : Slots fx g H (tl.map some ++ List.replicate (N.length - tl.length) none) (start N vs) := by
  have hl := r.length
  refine ⟨?_, fun i t e => ?_⟩
  · unfold L2.start
    simp only [List.length_append, List.length_map, List.length_replicate]
    omega
  · by_cases hi : i < tl.length
    · rw [List.getElem?_append_left (by simpa using hi), List.getElem?_map] at e
      cases e2 : tl[i]? with
      | none => rw [e2] at e; cases e
      | some t' =>
        rw [e2] at e
        cases e
        obtain ⟨v, e3, q⟩ := r.get e2
        refine ⟨v, ?_, q⟩
        unfold L2.start
        rw [List.getElem?_append_left (by simpa [hl] using hi), List.getElem?_map, e3]
        rfl
    · rw [List.getElem?_append_right (by simpa using hi), List.getElem?_replicate] at e
      split at e <;> cases e
end
/-! ### tables -/
section
variable (fx : Fx) (P : Program) (w : World) (K : PySem.W.Frag) (mg : Str → Option Value) (base : Heap) (k : Nat)
def CalT (x : Str) (c : Cal) : Prop := ∃ (f : Addr) (fd : FuncData) (ps : List Str) (ds : List Value) (dvs : List V), FnOk P w K mg base (CX P w) k f fd ps (spFn fx c.f) ∧ mg x = some (.ref f) ∧ PySem.W.keepIn K (.ref f) = true ∧ Binds K fd ps ds ∧ Vals dvs ds ∧ Fix fx dvs c.dv
def HotT (x : Str) (c : Cal) : Prop := ∃ (f : Addr) (fd : FuncData) (ps : List Str) (ds : List Value) (dvs : List V), (∀ e, FnX P w K mg base (CX P w) k f fd ps (PinE fx e) (spFn (fx.wx (some e)) c.f)) ∧ mg x = some (.ref f) ∧ PySem.W.keepIn K (.ref f) = true ∧ Binds K fd ps ds ∧ Vals dvs ds ∧ Fix fx dvs c.dv
def DisT (m : Str) (c : Nat) (d : Cal) : Prop := ∃ (f : Addr) (fd : FuncData) (ps : List Str) (ds : List Value) (dvs : List V), FnOk P w K mg base (CX P w) k f fd ps (spFn fx d.f) ∧ Meth K (fx.cA c) m f ∧ Binds K fd ps ds ∧ Vals dvs ds ∧ Fix fx dvs d.dv ∧ m ∉ fnames c
def NewT (x : Str) (c : Nat) (d : Cal) : Prop := ∃ (f : Addr) (fd : FuncData) (ps : List Str) (ds : List Value) (dvs : List V) (j : Nat), j + 1 ≤ k ∧ FnOk P w K mg base (CX P w) j f fd ps (spFn fx d.f) ∧ mg x = some (.ref (fx.cA c)) ∧ Mk K (fx.cA c) f ∧ Binds K fd ps ds ∧ Vals dvs ds ∧ Fix fx dvs d.dv ∧ ClsG fx c
def NewKT (x : Str × Str) (c : Nat) (d : Cal) : Prop := ∃ (f : Addr) (fd : FuncData) (ps : List Str) (n j : Nat), j + 1 ≤ k ∧ FnOk P w K mg base (CX P w) j f fd ps (spFn fx d.f) ∧ mg x.1 = some (.ref (fx.cA c)) ∧ Mk K (fx.cA c) f ∧ KBn K fd ps (n + 1) [x.2] (fun us ws => us ++ ws) (fun vs zs => vs ++ zs) ∧ ps.length = n + 2 ∧ d.dv = [] ∧ ClsG fx c
def UpT (x : Str × Str) (d : Cal) : Prop := ∃ (C f : Addr) (fd : FuncData) (ps : List Str) (ds : List Value) (dvs : List V), FnOk P w K mg base (CX P w) k f fd ps (spFn fx d.f) ∧ mg x.1 = some (.ref C) ∧ UpC K C x.2 f ∧ Binds K fd ps ds ∧ Vals dvs ds ∧ Fix fx dvs d.dv
def New0T (x : Str) (c : Nat) : Prop := mg x = some (.ref (fx.cA c)) ∧ PySem.W.makesIn K (fx.cA c) = true ∧ PySem.W.findIn K (.ref (fx.cA c)) "__init__" = some (some (.builtin "object.__init__")) ∧ PySem.W.keepIn K (.ref (fx.cA c)) = true ∧ ClsG fx c
def RaiT (c : Nat) : Prop := ∃ (fI : Addr) (fd : FuncData) (ps : List Str) (f j : Nat), j + 1 ≤ k ∧ flds c = [f] ∧ OexC K (fx.cA c) ∧ PySem.W.findIn K (.ref (fx.cA c)) "__init__" = some (some (.ref fI)) ∧ PySem.W.typeIn K (.ref fI) = some (.type "function") ∧
  FnOk P w K mg base (CX P w) j fI fd ps (spIni (fx.cA c) (fname f)) ∧ Binds K fd ps []
def GloT (x : Str) (d : D) : Prop := ∃ (v : V) (u : Value), mg x = some u ∧ RelV v u ∧ ∀ (F : Addr → Prop) (bs : List Addr) (H : Hp), RepD fx F bs H v d
def All2 {α β : Type} (p : α → β → Prop) : List α → List β → Prop
  | [], [] => True
  | x :: xs, y :: ys => p x y ∧ All2 p xs ys
  | _, _ => False
theorem All2.get {α β : Type} {p : α → β → Prop} : ∀ {xs : List α} {ys : List β}, All2 p xs ys → ∀ {i : Nat} {x : α}, xs[i]? = some x → ∃ y, ys[i]? = some y ∧ p x y
  | [], [], _, i, x, e => by simp at e
  | [], _ :: _, h, _, _, _ => h.elim
  | _ :: _, [], h, _, _, _ => h.elim
  | x :: xs, y :: ys, h, 0, _, e => by
    simp at e
    subst e
    exact ⟨y, rfl, h.1⟩
  | x :: xs, y :: ys, h, i + 1, _, e => by
    obtain ⟨z, e1, q⟩ := All2.get h.2 (i := i) (by simpa using e)
    exact ⟨z, by simpa using e1, q⟩
def AllDis (m : Str) : List (Nat × Cal) → Prop
  | [] => True
  | q :: r => DisT fx P w K mg base k m q.1 q.2 ∧ AllDis m r
theorem AllDis.get {fx : Fx} {P : Program} {w : World} {K : PySem.W.Frag} {mg : Str → Option Value} {base : Heap} {k : Nat} {m : Str} {c : Nat} {d : Cal} : ∀ {tb : List (Nat × Cal)}, AllDis fx P w K mg base k m tb → tb.lookup c = some d → DisT fx P w K mg base k m c d
  | [], _, e => by simp at e
  | (c', d') :: r, h, e => by
    by_cases z : c = c'
    · subst z
      simp only [List.lookup_cons, beq_self_eq_true] at e
      cases e
      exact h.1
    · have b : (c == c') = false := beq_eq_false_iff_ne.mpr z
      simp only [List.lookup_cons, b] at e
      exact AllDis.get h.2 e
/-- what a def may lean on -/
structure Tab (cx : Cxx) (nm : Nm) : Prop where
  hK : K = fx.K
  bl : ∀ x ∈ bnames, mg x = none
  kit : KitG fx
  cls : ∀ j ∈ fx.ts, mg (cname j) = some (.ref (fx.cA j))
  glo : All2 (GloT fx mg) nm.glo cx.glo
  cal : All2 (CalT fx P w K mg base k) nm.cal cx.cal
  dis : All2 (AllDis fx P w K mg base k) nm.dis cx.dis
  new : All2 (fun x (q : Nat × Cal) => NewT fx P w K mg base k x q.1 q.2) nm.new cx.new
  newk : All2 (fun x (q : Nat × Cal) => NewKT fx P w K mg base k x q.1 q.2) nm.newk cx.newk
  up : All2 (UpT fx P w K mg base k) nm.up cx.up
  new0 : All2 (New0T fx K mg) nm.new0 cx.new0
  rx : ∀ c ∈ nm.rx, RaiT fx P w K mg base k c
  ex : ExG fx
  nx : fx.ex = none
  hot : ∀ i ∈ nm.hot, ∀ x : Str, nm.cal[i]? = some x → ∃ c, cx.cal[i]? = some c ∧ HotT fx P w K mg base k x c
end
section
variable {fx : Fx} {cx : Cxx} {nm : Nm} {P : Program} {w : World} {K : PySem.W.Frag} {mg : Str → Option Value} {base : Heap} {k : Nat}
theorem CalT.up {j : Nat} {x : Str} {c : Cal} (h : CalT fx P w K mg base j x c) (hk : j ≤ k) : CalT fx P w K mg base k x c := by
  obtain ⟨f, fd, ps, ds, dvs, F, r⟩ := h
  exact ⟨f, fd, ps, ds, dvs, F.mono hk, r⟩
theorem HotT.up {j : Nat} {x : Str} {c : Cal} (h : HotT fx P w K mg base j x c) (hk : j ≤ k) : HotT fx P w K mg base k x c := by
  obtain ⟨f, fd, ps, ds, dvs, F, r⟩ := h
  exact ⟨f, fd, ps, ds, dvs, fun e => (F e).mono hk, r⟩
theorem DisT.up {j : Nat} {x : Str} {n : Nat} {c : Cal} (h : DisT fx P w K mg base j x n c) (hk : j ≤ k) : DisT fx P w K mg base k x n c := by
  obtain ⟨f, fd, ps, ds, dvs, F, r⟩ := h
  exact ⟨f, fd, ps, ds, dvs, F.mono hk, r⟩
theorem Tab.pub (T : Tab fx P w K mg base k cx nm) {N : List Str} {qual : Str} {scope : Scope} {f : Addr} {cd : Value} {A : Around} {outer : List Env} {s : Shared} {H : Hp} {E : XK} (hr : Room k (A.deeper (envOfC qual scope s.heap.objs.size f cd))) :
    Pub fx cx nm (cxOf (CX P w) P w K mg base N qual scope f cd A outer s H E) := by
  refine ⟨T.hK, by have := hr.un; show (A.deeper (envOfC qual scope s.heap.objs.size f cd)).units + 65 < cLine; omega, T.bl, T.kit, fun i x e => ?_, fun _ => ⟨fun i x e => ?_, fun i m c d e e2 => ?_, fun i x e => ?_, fun i x e => ?_, fun i x e => ?_, fun i x e => ?_, fun c hc => ?_⟩, T.ex, T.cls, fun i hi x hx => ?_⟩
  · obtain ⟨d, e1, v, u, q1, q2, q3⟩ := T.glo.get e
    exact ⟨d, v, u, e1, q1, q2, q3⟩
  · obtain ⟨c, e1, fa, fd, ps, ds, dvs, F, q⟩ := T.cal.get e
    exact ⟨c, e1, k, fa, fd, ps, ds, dvs, F, hr, q⟩
  · obtain ⟨tb, e1, q⟩ := T.dis.get e
    unfold Cxx.find at e2
    rw [e1] at e2
    obtain ⟨fa, fd, ps, ds, dvs, F, q⟩ := AllDis.get q e2
    exact ⟨k, fa, fd, ps, ds, dvs, F, hr, q⟩
  · obtain ⟨⟨c, d⟩, e1, fa, fd, ps, ds, dvs, j, hj, F, q⟩ := T.new.get e
    exact ⟨c, d, e1, j, fa, fd, ps, ds, dvs, F, hr.mono hj, q⟩
  · obtain ⟨⟨c, d⟩, e1, fa, fd, ps, n, j, hj, F, q⟩ := T.newk.get e
    exact ⟨c, d, e1, j, fa, fd, ps, n, F, hr.mono hj, q⟩
  · obtain ⟨d, e1, C, fa, fd, ps, ds, dvs, F, q⟩ := T.up.get e
    exact ⟨d, e1, k, C, fa, fd, ps, ds, dvs, F, hr, q⟩
  · obtain ⟨c, e1, q⟩ := T.new0.get e
    exact ⟨c, e1, q⟩
  · obtain ⟨fI, fd, ps, f, j, hj, ef, T1, iC, tI, F, hb⟩ := T.rx c hc
    exact ⟨j, fI, fd, ps, f, ef, T1, iC, tI, F, hr.mono hj, hb⟩
  · obtain ⟨c, e1, fa, fd, ps, ds, dvs, F, q⟩ := T.hot i hi x hx
    exact ⟨c, e1, k, fa, fd, ps, ds, dvs, F, L2H.roomH_of hr, q⟩
theorem Tab.pubH (T : Tab fx P w K mg base k cx nm) {N : List Str} {qual : Str} {scope : Scope} {f : Addr} {cd : Value} {A : Around} {outer : List Env} {s : Shared} {H : Hp} {E : XK} {p : Addr × Obj} {e : Addr × Nat × Option Addr} (hr : L2H.RoomH k (A.deeper (envOfC qual scope s.heap.objs.size f cd))) :
    Pub (fx.wx (some e)) cx nm (L2H.cxH (CX P w) P w K mg base N qual scope f cd A outer s H E p) := by
  refine ⟨T.hK, by have := hr.un; show (A.deeper (envOfC qual scope s.heap.objs.size f cd)).units + 65 < cLine; omega, T.bl, T.kit.wx, fun i x h => ?_, fun h => Bool.noConfusion h, T.ex.wx, T.cls, fun i hi x hx => ?_⟩
  · obtain ⟨d, e1, v, u, q1, q2, q3⟩ := T.glo.get h
    exact ⟨d, v, u, e1, q1, q2, fun F bs H => (q3 F bs H).wx⟩
  · obtain ⟨c, e1, fa, fd, ps, ds, dvs, F, m1, m2, m3, m4, m5⟩ := T.hot i hi x hx
    exact ⟨c, e1, k, fa, fd, ps, ds, dvs, F, hr, m1, m2, m3, m4, fun F bs H => (m5 F bs H).wx⟩
/-- THE RULE: a def keeps the promise of its meaning -/
theorem def_ok {x qual : Str} {params : Arguments} {body : List Stmt} {scope : Scope} {dvs : List V} {kws : List (Str × V)} {f : Addr} {fd : FuncData} {N ps : List Str} {b : Ss} (F : FunD K x qual params body scope dvs kws f fd) (S : FnScope N ps scope)
    (hm : mSs nm fx.ts b ⟨N, scope, fun _ => true, true⟩ body = true) (T : Tab fx P w K mg base k cx nm) : FnOk P w K mg base (CX P w) (k + 1) f fd ps (spFn fx (mkFn cx ps.length N.length b)) := by
  refine F.ok S (fun vs H Q E h => ?_) fun cdv A outer s H vs Q E hr h => ?_
  · obtain ⟨g, St, tl, rl, r, h⟩ := h
    rw [r.length]
    exact (run_mkFn h rl).1
  · obtain ⟨g, St, tl, rl, r, h⟩ := h
    obtain ⟨hl, h2⟩ := run_mkFn h rl
    refine ⟨rdS fx (fun c d _ H' => E c d H') St.loc.length (exs cx St.loc.length b), ?_, g, _, St, Nat.le_of_eq rl.lL.symm, rl, slots_start (N := N) r, by rw [hl]; exact h2⟩
    refine sSs (cx := cx) (nm := nm) b fx ⟨N, scope, fun _ => true, true⟩ _ _ _ body ?_ hm
    exact { pub := T.pub hr, N := rfl, nd := S.nd, sc := rfl, fn := rfl, tk := takes_of rfl rfl rfl rfl, own := passes_of rfl, st := rfl, fr := rfl, cm := fun _ => ⟨rfl, T.nx⟩, bear := (fun a k d h => by rw [T.nx] at h; cases h), hd := (fun a k d h => by rw [T.nx] at h; cases h), hx := fun h => Bool.noConfusion h }
/-- so while an exception is handled -/
theorem def_okH {x qual : Str} {params : Arguments} {body : List Stmt} {scope : Scope} {dvs : List V} {kws : List (Str × V)} {f : Addr} {fd : FuncData} {N ps : List Str} {b : Ss} (F : FunD K x qual params body scope dvs kws f fd) (S : FnScope N ps scope)
    (hm : mSs nm fx.ts b ⟨N, scope, fun _ => true, false⟩ body = true) (T : Tab fx P w K mg base k cx nm) (e : Addr × Nat × Option Addr) : FnX P w K mg base (CX P w) (k + 1) f fd ps (PinE fx e) (spFn (fx.wx (some e)) (mkFn cx ps.length N.length b)) := by
  refine fnx_of F S (fun vs H Q E h => ?_) fun cdv A outer s H vs Q E p hot hp hr h => ?_
  · obtain ⟨g, St, tl, rl, r, h⟩ := h
    rw [r.length]
    exact (run_mkFn h rl).1
  · obtain ⟨g, St, tl, rl, r, h⟩ := h
    obtain ⟨hl, h2⟩ := run_mkFn h rl
    refine ⟨rdS (fx.wx (some e)) (fun c d _ H' => E c d H') St.loc.length (exs cx St.loc.length b), ?_, g, _, St, Nat.le_of_eq rl.lL.symm, rl, slots_start (N := N) r, by rw [hl]; exact h2⟩
    refine sSs (cx := cx) (nm := nm) b (fx.wx (some e)) ⟨N, scope, fun _ => true, false⟩ _ _ _ body ?_ hm
    obtain ⟨pa, po⟩ := p
    obtain ⟨h1, h2, h3⟩ := hp
    have h1 : pa = e.1 := h1
    subst h1
    exact { pub := T.pubH hr, N := rfl, nd := S.nd, sc := rfl, fn := rfl, tk := takes_of rfl rfl rfl rfl, own := passes_of rfl, st := rfl, fr := rfl, cm := fun h => Bool.noConfusion h, bear := (fun a k d h => by cases h; exact ⟨po, List.mem_cons_self, h2, h3⟩), hd := (fun a k d h => by cases h; exact hot.1), hx := fun _ => ⟨_, rfl⟩ }
end
/-! ### the law's end -/
theorem walk_EB {l : PySem.W.OpenLaw} {n k : Nat} {q : Program} {loose : List Str} {XP : (Str → Option Value) → Heap → Prop} {YP : World → Heap → Prop} {d : DefRec} {x : Str}
    (hn : l.most = some n) (hn2 : n ≤ sizeLine) (hdf : d.params.defaults = []) (hr : Room k callerA)
    (F : ∀ (w : World) (mg : Str → Option Value) (fa : Addr) (h : Heap), YP w h → h.Ns mainGlobals mg → mg d.name = some (.ref fa) →
      ∃ (K : PySem.W.Frag) (fd : FuncData) (fx : Fx) (f : Fn), fx.K = K ∧ K.In h ∧ (∀ (s : Shared) (u : Value), BindsTo s fd ⟨[u], []⟩ [(x, u)]) ∧
        (∀ ns : List Int, ns.length ≤ n → (∀ z ∈ ns, Builtin.Int.intBits z ≤ 1048576) → ∃ S', f [.lst (ns.map fun i => .d (.int i))] ⟨[], []⟩ = .ok (.d (.bl true)) S') ∧
        ∀ base : Heap, K.In base → base.Ns mainGlobals mg → FnOk l.prog w K mg base (CX l.prog w) k fa fd [x] (spFn fx f)) :
    PySem.W.WalkO q loose XP YP l.row.toRowW d [] (fun f vs => PySem.call f vs) := by
  refine Att.attach_callB hn hdf fun w s₀ s₁ mg mb fa o pm cd doc a vs ns G Y ho hd hcd hmg hobj hints hlen hbits hg => ?_
  obtain ⟨K, fd, fx, f, rfl, KX, hb, hsp, hF⟩ := F w mg fa _ Y G.T.g hmg
  refine law_call KX G.T.g G.T.b G.T.builtins G.T.nolimit hg hobj hints (Nat.le_trans hlen hn2) hr hF hb (fun H hO hS => ?_) fun H e s' z => ?_
  · obtain ⟨S', e⟩ := hsp ns hlen hbits
    have rs : ∀ (g : Gh) (ns : List Int), RepTs fx g H (ns.map V.int) (ns.map fun i => .d (.int i)) := fun g ns => by
      induction ns with
      | nil => exact .nil
      | cons i ns ih => exact .cons (.d (.int i)) ih
    have fin : ∀ g : Gh, Rel fx g ⟨[], []⟩ H → FL fx.K g.F H a (ns.map V.int) → spFn fx f [.ref a] H (fun v _ => v = .bl true) fun _ _ _ => False := fun g rl fl => by
      refine ⟨g, ⟨[], []⟩, _, rl, .cons (.lst fl (rs g ns)) .nil, ?_⟩
      rw [e]
      exact fun g' v H' _ _ r => rt_bl r
    rcases hS with hS | hS
    · refine fin ⟨fun b => b = a, fun _ => False, [], []⟩ ⟨rfl, rfl, fun k b c e => by simp at e, fun k b c e => by simp at e, by simp, fun k b c e => by simp at e, fun b e => by simp at e, fun b e => ?_, fun b e => e.elim⟩ (.inl ⟨rfl, hS⟩)
      have e : b = a := e
      subst e
      rcases hS with z | ⟨o, z⟩ <;> rw [z] <;> simp
    · exact fin ⟨fun _ => False, fun _ => False, [], []⟩ ⟨rfl, rfl, fun k b c e => by simp at e, fun k b c e => by simp at e, by simp, fun k b c e => by simp at e, fun b e => by simp at e, fun b e => e.elim, fun b e => e.elim⟩ (.inr hS)
  · obtain ⟨_, _, _, _, _, _, _, _, _, _, _, _, z⟩ := z
    exact z
end Mn
set_option Elab.async false
set_option linter.all false
set_option maxRecDepth 100000
set_option maxHeartbeats 4000000
/-! Mn20: facts of the head. -/
namespace Mn
open PySem PySem.Spec PyProof.Rows PySem.SeqAt
open L2 hiding ixN atI Takes XE CX takes_of passes_call passAt
open L2N (Takes XE CX takes_of)

def fxOf (ts : List Nat) (K : PySem.W.Frag) : Fx := ⟨K, fun c => He.ga K (cname c), ts, none⟩
def clsB (ts : List Nat) (c : Nat) (K : PySem.W.Frag) : Bool :=
  (He.Fa.cls (cname c)).ok K && ((flds c).all (fun f => (He.Fa.noat (cname c) (fname f)).ok K) && (He.eqO (PySem.W.findIn K (.ref (He.ga K (cname c))) "__class__") (some (some (.builtin "object.__class__"))) &&
  (He.eqO (PySem.W.specialIn K (.builtin "object.__class__") "__get__") (some (some (.builtin "getset_descriptor.__get__"))) && (decide (PySem.W.takesIn K (.builtin "object.__class__") = some true) &&
  (decide (PySem.W.mroIn K (He.ga K (cname c)) (.type "object") = some true) && (ts.all (fun k => decide (PySem.W.kitOne K (.ref (He.ga K (cname c))) (.ref (He.ga K (cname k))) = some ((ups c).contains k))) &&
  (["bool", "int", "str", "list", "tuple", "dict"] : List String).all (fun n => decide (PySem.W.kitOne K (.ref (He.ga K (cname c))) (.type n) = some false))))))))
theorem clsG_ok {ts : List Nat} {c : Nat} {K : PySem.W.Frag} (h : clsB ts c K = true) : ClsG (fxOf ts K) c := by
  unfold clsB at h
  simp only [Bool.and_eq_true, List.all_eq_true, decide_eq_true_eq] at h
  obtain ⟨h1, h2, h3, h4, h5, h6, h7, h8⟩ := h
  exact ⟨He.cls_ok h1, fun f hf => He.noat_ok (h2 f hf), He.eqO_ok h3, He.eqO_ok h4, h5, h6, h7, h8⟩
def kitB3 (ts : List Nat) (K : PySem.W.Frag) : Bool := ts.all fun k => (["NoneType", "bool", "int", "str", "list", "tuple", "dict", "ValueError"] : List String).all fun n => decide (PySem.W.kitOne K (.type n) (.ref (He.ga K (cname k))) = some false)
theorem kitG_ok {ts : List Nat} {K : PySem.W.Frag} (h : kitB3 ts K = true) : KitG (fxOf ts K) := by
  unfold kitB3 at h
  simp only [List.all_eq_true, decide_eq_true_eq] at h
  exact ⟨fun k hk n hn => h k hk n hn⟩
/-- what is asked of an exception's class -/
def exB (ts : List Nat) (K : PySem.W.Frag) (c : Nat) : Bool :=
  (PySem.W.clsIn K (He.ga K (cname c))).isSome && (He.eqO (PySem.W.findIn K (.ref (He.ga K (cname c))) "__getattribute__") (some (some (.builtin "BaseException.__getattribute__"))) &&
  (He.eqO (PySem.W.findIn K (.ref (He.ga K (cname c))) "__getattr__") (some none) && (decide (PySem.W.subIn K (.ref (He.ga K (cname c))) (.type "BaseException") = some true) && (PySem.W.hasDictIn K (He.ga K (cname c)) &&
  (He.eqO (PySem.W.findIn K (.ref (He.ga K (cname c))) "__class__") (some (some (.builtin "object.__class__"))) && (He.eqO (PySem.W.specialIn K (.builtin "object.__class__") "__get__") (some (some (.builtin "getset_descriptor.__get__"))) &&
  (decide (PySem.W.takesIn K (.builtin "object.__class__") = some true) && (decide (PySem.W.mroIn K (He.ga K (cname c)) (.type "object") = some true) &&
  ((flds c).all (fun f => He.eqO (PySem.W.findIn K (.ref (He.ga K (cname c))) (fname f)) (some none)) &&
  (ts.all (fun k => decide (k < 40) || (decide (PySem.W.exmOne K (.ref (He.ga K (cname c))) (.ref (He.ga K (cname k))) = some ((ups c).contains k)) && decide (PySem.W.kitOne K (.ref (He.ga K (cname c))) (.ref (He.ga K (cname k))) = some ((ups c).contains k)))) &&
  (decide (PySem.W.kitOne K (.ref (He.ga K (cname c))) (.type "ValueError") = some true) && (!decide (flds c = []) || (PySem.W.excIn K (He.ga K (cname c)) [.type "ValueError", .type "Exception", .type "BaseException", .type "object"] "ValueError.__new__" &&
  (PySem.W.keepIn K (.ref (He.ga K (cname c))) && (decide (PySem.W.subIn K (.ref (He.ga K (cname c))) (.type "BaseException") = some true) && decide (PySem.W.typeIn K (.ref (He.ga K (cname c))) = some (.type "type")))))))))))))))))
def exsB (ts : List Nat) (K : PySem.W.Frag) : Bool := ts.all fun c => decide (c < 40) || exB ts K c
theorem exG_ok {ts : List Nat} {K : PySem.W.Frag} (h : exsB ts K = true) : ExG (fxOf ts K) := by
  have at_ : ∀ c ∈ ts, 40 ≤ c → exB ts K c = true := fun c hc h40 => by
    have q := List.all_eq_true.mp h c hc
    rw [Bool.or_eq_true] at q
    rcases q with q | q
    · have := of_decide_eq_true q
      omega
    · exact q
  have sp : ∀ c ∈ ts, 40 ≤ c → _ := fun c hc h40 => by
    have q := at_ c hc h40
    unfold exB at q
    simp only [Bool.and_eq_true, List.all_eq_true, Bool.or_eq_true, decide_eq_true_eq, Bool.not_eq_true', decide_eq_false_iff_not] at q
    exact q
  refine ⟨fun c hc h40 => ?_, fun c hc h40 f hf => ?_, fun c hc h40 k hk k40 => ?_, fun c hc h40 k hk k40 => ?_, fun c hc h40 => ?_, fun c hc h40 hf => ?_⟩
  · obtain ⟨q1, q2, q3, q4, q5, q6, q7, q8, q9, _⟩ := sp c hc h40
    exact ⟨q1, He.eqO_ok q2, He.eqO_ok q3, q4, q5, He.eqO_ok q6, He.eqO_ok q7, q8, q9⟩
  · obtain ⟨q1, q2, q3, q4, q5, q6, q7, q8, q9, r1, _⟩ := sp c hc h40
    exact He.eqO_ok (r1 f hf)
  · obtain ⟨q1, q2, q3, q4, q5, q6, q7, q8, q9, r1, r2, _⟩ := sp c hc h40
    rcases r2 k hk with z | z
    · omega
    · exact z.1
  · obtain ⟨q1, q2, q3, q4, q5, q6, q7, q8, q9, r1, r2, _⟩ := sp c hc h40
    rcases r2 k hk with z | z
    · omega
    · exact z.2
  · obtain ⟨q1, q2, q3, q4, q5, q6, q7, q8, q9, r1, r2, r3, _⟩ := sp c hc h40
    exact r3
  · obtain ⟨q1, q2, q3, q4, q5, q6, q7, q8, q9, r1, r2, r3, r4⟩ := sp c hc h40
    rcases r4 with z | z
    · exact absurd hf z
    · exact z
/-- C.m is a def -/
def upB (x m : Str) (K : PySem.W.Frag) : Bool := PySem.W.readsIn K (He.ga K x) (.type "type") && (He.eqO (PySem.W.specialIn K (.ref (He.ga K x)) "__getattribute__") (some (some (.builtin "type.__getattribute__"))) &&
  ((match PySem.W.findCls K (.ref (He.ga K x)) (.type "type") m with
    | some (.val (.ref f)) => decide (f = He.ma K (He.ga K x) m)
    | _ => false) && PySem.W.keepIn K (.ref (He.ma K (He.ga K x) m))))
theorem upC_ok {x m : Str} {K : PySem.W.Frag} (h : upB x m K = true) : UpC K (He.ga K x) m (He.ma K (He.ga K x) m) := by
  unfold upB at h
  simp only [Bool.and_eq_true] at h
  obtain ⟨h1, h2, h3, h4⟩ := h
  refine ⟨⟨h1, He.eqO_ok h2⟩, ?_, h4⟩
  split at h3
  · rename_i f e
    rw [of_decide_eq_true h3] at e
    exact e
  · cases h3
def new0B (x : Str) (K : PySem.W.Frag) : Bool := PySem.W.makesIn K (He.ga K x) && (He.eqO (PySem.W.findIn K (.ref (He.ga K x)) "__init__") (some (some (.builtin "object.__init__"))) && PySem.W.keepIn K (.ref (He.ga K x)))
/-- C is an exception with an own __init__, the def of the class y -/
def raiB (x y f : Str) (K : PySem.W.Frag) : Bool := oexB K (He.ga K x) && (He.eqO (PySem.W.findIn K (.ref (He.ga K x)) "__setattr__") (some (some (.builtin "object.__setattr__"))) && (decide (PySem.W.subIn K (.ref (He.ga K x)) (.type "BaseException") = some true) &&
  (decide (PySem.W.typeIn K (.ref (He.ga K x)) = some (.type "type")) && (PySem.W.keepIn K (.ref (He.ga K x)) && (He.eqO (PySem.W.findIn K (.ref (He.ga K x)) "__init__") (some (some (.ref (He.ma K (He.ga K y) "__init__")))) &&
  (decide (PySem.W.typeIn K (.ref (He.ma K (He.ga K y) "__init__")) = some (.type "function")) && He.eqO (PySem.W.findIn K (.ref (He.ga K x)) f) (some none)))))))
structure RaiC (x y f : Str) (K : PySem.W.Frag) : Prop where
  T : OexC K (He.ga K x)
  iC : PySem.W.findIn K (.ref (He.ga K x)) "__init__" = some (some (.ref (He.ma K (He.ga K y) "__init__")))
  tI : PySem.W.typeIn K (.ref (He.ma K (He.ga K y) "__init__")) = some (.type "function")
  no : PySem.W.findIn K (.ref (He.ga K x)) f = some none
theorem rai_ok {x y f : Str} {K : PySem.W.Frag} (h : raiB x y f K = true) : RaiC x y f K := by
  unfold raiB at h
  simp only [Bool.and_eq_true, decide_eq_true_eq] at h
  obtain ⟨h1, h2, h3, h4, h5, h6, h7, h8⟩ := h
  exact ⟨⟨oex_cls h1, He.eqO_ok h2, h3, h4, h5⟩, He.eqO_ok h6, h7, He.eqO_ok h8⟩
/-- Base.__init__ is ValueError's -/
def upvB (x : Str) (K : PySem.W.Frag) : Bool := PySem.W.readsIn K (He.ga K x) (.type "type") && (He.eqO (PySem.W.specialIn K (.ref (He.ga K x)) "__getattribute__") (some (some (.builtin "type.__getattribute__"))) &&
  (match PySem.W.findCls K (.ref (He.ga K x)) (.type "type") "__init__" with
    | some (.val (.builtin f)) => f == "ValueError.__init__"
    | _ => false))
theorem upv_ok {x : Str} {K : PySem.W.Frag} (h : upvB x K = true) : UpV K (He.ga K x) := by
  unfold upvB at h
  simp only [Bool.and_eq_true] at h
  obtain ⟨h1, h2, h3⟩ := h
  refine ⟨⟨h1, He.eqO_ok h2⟩, ?_⟩
  split at h3
  · rename_i f e
    rw [beq_iff_eq] at h3
    rw [e, h3]
  · cases h3
/-- a method come by from above -/
def sameB (x y m : Str) (K : PySem.W.Frag) : Bool := decide (He.ma K (He.ga K x) m = He.ma K (He.ga K y) m)
theorem same_ok {x y m : Str} {K : PySem.W.Frag} (h : sameB x y m K = true) : He.ma K (He.ga K x) m = He.ma K (He.ga K y) m := of_decide_eq_true h
abbrev AlM : Type := He.AlD × Bool
/-- what the head's names reach in n steps, and the interpreter's own table, where reads of a class look -/
def asM (g : Addr → Option Obj) (n : Nat) : List Addr := cStatics :: He.asD g n
def obsM (n : Nat) (fa : List He.Fa) (fn : List He.DefD) (ex : PySem.W.Frag → Bool) (g : Addr → Option Obj) : AlM := (He.obsD fa fn (He.frG g (asM g n)), ex (He.frG g (asM g n)))
structure SaysM (fa : List He.Fa) (fn : List He.DefD) (ex : PySem.W.Frag → Bool) (K : PySem.W.Frag) : Prop where
  d : He.SaysD fa fn K
  more : ex K = true
def hookM (n : Nat) (fa : List He.Fa) (fn : List He.DefD) (ex : PySem.W.Frag → Bool) : PySem.W.Hook where
  α := AlM
  obs := fun s => obsM n fa fn ex s.heap.get?
  val := fun _ => (He.valD fn, true)
  says := fun _ h => ∃ K : PySem.W.Frag, K.In h ∧ SaysM fa fn ex K
  of := fun _ _ e => ⟨_, He.frG_in, congrArg (fun z : AlM => z.1) e, congrArg (fun z : AlM => z.2) e⟩
  keeps := fun _ _ _ ⟨K, hK, c⟩ k => ⟨K, PySem.W.Frag.In.keeps hK k, c⟩
theorem obsM_eq {n : Nat} {fa : List He.Fa} {fn : List He.DefD} {ex : PySem.W.Frag → Bool} {g : Addr → Option Obj} {s : Shared} (h : ∀ a, g a = s.heap.get? a) : obsM n fa fn ex g = (hookM n fa fn ex).obs s := by
  have e : g = s.heap.get? := funext h
  rw [e] <;> rfl
section
variable {fx : Fx} {P : Program} {w : World} {K : PySem.W.Frag} {mg : Str → Option Value} {base h : Heap} {k : Nat} {x qual : Str} {params : Arguments} {body : List Stmt} {scope : Scope} {dvs : List V} {kws : List (Str × V)} {f : Addr} {fd : FuncData} {ps : List Str} {m : Fn}
theorem fix_nil : Fix fx [] [] := fun _ _ _ => .nil
theorem fix_cons {v : V} {d : D} {vs : List V} {ds : List D} (h : ∀ (F : Addr → Prop) (bs : List Addr) (H : Hp), RepD fx F bs H v d) (r : Fix fx vs ds) : Fix fx (v :: vs) (d :: ds) := fun F bs H => .cons (h F bs H) (r F bs H)
/-- all parameters written -/
theorem cal0 (F : FunD K x qual params body scope dvs kws f fd) (ok : FnOk P w K mg base (CX P w) k f fd ps (spFn fx m)) {y : Str} (g : mg y = some (.ref f)) (hb : Binds K fd ps []) : CalT fx P w K mg base k y ⟨m, []⟩ :=
  ⟨f, fd, ps, [], [], ok, g, F.kp, hb, .nil, fix_nil⟩
/-- some left out -/
theorem cal1 (F : FunD K x qual params body scope dvs kws f fd) (ok : FnOk P w K mg base (CX P w) k f fd ps (spFn fx m)) {y : Str} (g : mg y = some (.ref f)) {vs : List V} {dv : List D} (hb : ∃ ds, Vals vs ds ∧ Binds K fd ps ds) (hf : Fix fx vs dv) : CalT fx P w K mg base k y ⟨m, dv⟩ :=
  let ⟨ds, h1, h2⟩ := hb
  ⟨f, fd, ps, ds, vs, ok, g, F.kp, h2, h1, hf⟩
theorem hot1 (F : FunD K x qual params body scope dvs kws f fd) (ok : ∀ e, FnX P w K mg base (CX P w) k f fd ps (PinE fx e) (spFn (fx.wx (some e)) m)) {y : Str} (g : mg y = some (.ref f)) {vs : List V} {dv : List D} (hb : ∃ ds, Vals vs ds ∧ Binds K fd ps ds) (hf : Fix fx vs dv) : HotT fx P w K mg base k y ⟨m, dv⟩ :=
  let ⟨ds, h1, h2⟩ := hb
  ⟨f, fd, ps, ds, vs, ok, g, F.kp, h2, h1, hf⟩
theorem dis1 (ok : FnOk P w K mg base (CX P w) k f fd ps (spFn fx m)) {y : Str} {c : Nat} (g : Meth K (fx.cA c) y f) {vs : List V} {dv : List D} (hb : ∃ ds, Vals vs ds ∧ Binds K fd ps ds) (hf : Fix fx vs dv) (hn : y ∉ fnames c) : DisT fx P w K mg base k y c ⟨m, dv⟩ :=
  let ⟨ds, h1, h2⟩ := hb
  ⟨f, fd, ps, ds, vs, ok, g, h2, h1, hf, hn⟩
theorem new1 {j : Nat} (ok : FnOk P w K mg base (CX P w) j f fd ps (spFn fx m)) (hj : j + 1 ≤ k) {y : Str} {c : Nat} (g : mg y = some (.ref (fx.cA c))) (M : Mk K (fx.cA c) f) {vs : List V} {dv : List D} (hb : ∃ ds, Vals vs ds ∧ Binds K fd ps ds) (hf : Fix fx vs dv) (hc : ClsG fx c) : NewT fx P w K mg base k y c ⟨m, dv⟩ :=
  let ⟨ds, h1, h2⟩ := hb
  ⟨f, fd, ps, ds, vs, j, hj, ok, g, M, h2, h1, hf, hc⟩
theorem up1 (ok : FnOk P w K mg base (CX P w) k f fd ps (spFn fx m)) {y n : Str} {C : Addr} (g : mg y = some (.ref C)) (u : UpC K C n f) {vs : List V} {dv : List D} (hb : ∃ ds, Vals vs ds ∧ Binds K fd ps ds) (hf : Fix fx vs dv) : UpT fx P w K mg base k (y, n) ⟨m, dv⟩ :=
  let ⟨ds, h1, h2⟩ := hb
  ⟨C, f, fd, ps, ds, vs, ok, g, u, h2, h1, hf⟩
theorem new01 {y : Str} {c : Nat} (g : mg y = some (.ref (fx.cA c))) (hy : fx.cA c = He.ga K y) (h : new0B y K = true) (hc : ClsG fx c) : New0T fx K mg y c := by
  unfold new0B at h
  simp only [Bool.and_eq_true] at h
  obtain ⟨h1, h2, h3⟩ := h
  refine ⟨g, ?_, ?_, ?_, hc⟩
  · rw [hy]; exact h1
  · rw [hy]; exact He.eqO_ok h2
  · rw [hy]; exact h3
theorem rai1 {ts : List Nat} {c i j : Nat} {x y : Str} (R : RaiC x y (fname i) K) (F : FnOk P w K mg base (CX P w) j (He.ma K (He.ga K y) "__init__") fd ps (spIni (He.ga K x) (fname i))) (hb : Binds K fd ps []) (hx : cname c = x) (hf : flds c = [i]) (hj : j + 1 ≤ k) : RaiT (fxOf ts K) P w K mg base k c := by
  subst hx
  exact ⟨_, fd, ps, i, j, hj, hf, R.T, R.iC, R.tI, F, hb⟩
theorem RaiT.up {j c : Nat} (h : RaiT fx P w K mg base j c) (hk : j ≤ k) : RaiT fx P w K mg base k c := by
  obtain ⟨fI, fd, ps, f, i, hi, r⟩ := h
  exact ⟨fI, fd, ps, f, i, Nat.le_trans hi hk, r⟩
theorem UpT.up {j : Nat} {x : Str × Str} {c : Cal} (h : UpT fx P w K mg base j x c) (hk : j ≤ k) : UpT fx P w K mg base k x c := by
  obtain ⟨C, f, fd, ps, ds, dvs, F, r⟩ := h
  exact ⟨C, f, fd, ps, ds, dvs, F.mono hk, r⟩
theorem bind0 (hb : Binds K fd ps []) : ∃ ds, Vals [] ds ∧ Binds K fd ps ds := ⟨[], .nil, hb⟩
theorem glo_str (X : K.In h) (G : h.Ns mainGlobals mg) {y z : Str} (c : (He.Fa.str y z).ok K = true) : GloT fx mg y (.str z) :=
  let ⟨t, e⟩ := He.str_ok X G c
  ⟨.str z, .str z t, e, ⟨t, rfl⟩, fun _ _ _ => .str z⟩
theorem glo_int (X : K.In h) (G : h.Ns mainGlobals mg) {y : Str} {z : Int} (c : (He.Fa.int y z).ok K = true) : GloT fx mg y (.int z) :=
  let ⟨t, e⟩ := He.int_ok X G c
  ⟨.int z, .int z t, e, ⟨t, rfl⟩, fun _ _ _ => .int z⟩
theorem glo_tup {ts : List Nat} (X : K.In h) (G : h.Ns mainGlobals mg) {y : Str} {ds : List D} {vs : List He.Dv} (c : (He.Fa.glo y).ok K = true) (e : He.tupB K y vs = true) (r : ∀ (F : Addr → Prop) (bs : List Addr) (H : Hp), RepDs (fxOf ts K) F bs H (vs.map (He.Dv.v K)) ds) : GloT (fxOf ts K) mg y (.tup ds) := by
  refine ⟨.ref (He.ga K y), .ref (He.ga K y), He.glo_ok X G c, rfl, fun F bs H => .tup (.inr ?_) (r F bs H)⟩
  rcases He.tupB_ok e (fun _ => none) with q | q
  · rcases q with q | ⟨_, q⟩ <;> cases q
  · exact q
theorem bl_ok {fa : List He.Fa} {fn : List He.DefD} (X : K.In h) (G : h.Ns mainGlobals mg) (c : He.SaysD fa fn K) (hf : ∀ x ∈ bnames, He.Fa.free x ∈ fa) : ∀ x ∈ bnames, mg x = none := fun x hx => He.free_ok X G (c.facts (hf x hx))
end
def topS (P : Program) (i : Nat) : Stmt := P.main.body.getD i (.Pass ⟨0, 0, 0, 0⟩)
def inClass (s : Stmt) (j : Nat) : Stmt := match s with
  | .ClassDef _ _ _ body _ _ _ _ _ _ _ => body.getD j (.Pass ⟨0, 0, 0, 0⟩)
  | s => s
end Mn
set_option Elab.async false
set_option linter.all false
set_option maxRecDepth 100000
/-! MnS: equations for plain proofs. -/
namespace Mn
open PySem
/-- by a truth -/
def ifT {α : Type} (x : T) (a b z : α) : α := match x with
  | .d (.bl true) => a
  | .d (.bl false) => b
  | _ => z
@[simp] theorem ifT_bl {α : Type} (c : Bool) (a b z : α) : ifT (.d (.bl c)) a b z = if c then a else b := by cases c <;> rfl
@[simp] theorem bnd_ite {α β : Type} {c : Prop} [Decidable c] {x y : R α} {f : α → Store → R β} : (if c then x else y).bnd f = if c then x.bnd f else y.bnd f := by split <;> rfl
@[simp] theorem stm_ite {c : Prop} [Decidable c] {x y : R T} {σ : Sl} {f : T → Store → RS} : (if c then x else y).stm σ f = if c then x.stm σ f else y.stm σ f := by split <;> rfl
@[simp] theorem seq_ite {c : Prop} [Decidable c] {x y : RS} {f : Sl → Store → RS} : (if c then x else y).seq f = if c then x.seq f else y.seq f := by split <;> rfl
/-- a def's end -/
def RS.fin (n : Nat) (r : RS) : R T := match r with
  | .nx _ S' => Mn.fin n (.d .non) S'
  | .ret t S' => Mn.fin n t S'
  | .exc c p _ S' => .exc c p (S'.trunc n)
  | _ => .bad
@[simp] theorem fin_nx {n : Nat} {σ : Sl} {S : Store} : (RS.nx σ S).fin n = Mn.fin n (.d .non) S := rfl
@[simp] theorem fin_ret {n : Nat} {t : T} {S : Store} : (RS.ret t S).fin n = Mn.fin n t S := rfl
@[simp] theorem fin_exc {n : Nat} {c : Nat} {p : List D} {σ : Sl} {S : Store} : (RS.exc c p σ S).fin n = .exc c p (S.trunc n) := rfl
@[simp] theorem fin_ite {n : Nat} {c : Prop} [Decidable c] {x y : RS} : (if c then x else y).fin n = if c then x.fin n else y.fin n := by split <;> rfl
theorem mkFn_eq {cx : Cxx} {np ns : Nat} {b : Ss} {args : List T} {S : Store} (h : args.length = np) : mkFn cx np ns b args S = (exs cx S.loc.length b (args.map some ++ List.replicate (ns - np) none) S).fin S.loc.length := by
  unfold mkFn
  rw [if_pos h]
  cases exs cx S.loc.length b (args.map some ++ List.replicate (ns - np) none) S <;> rfl
section
variable {cx : Cxx} {σ : Sl} {S : Store}
@[simp] theorem ev_var (i : Nat) : ev cx (.var i) σ S = (match σ[i]? with
    | some (some t) => .ok t S
    | _ => .bad) := by first | (rw [ev]; done) | (rw [ev]; rfl) | (rw [ev]; congr 1; funext x S1; cases x with | d d => (cases d with | bl b => (cases b <;> rfl) | _ => rfl) | _ => rfl)
@[simp] theorem ev_con (d : D) : ev cx (.con d) σ S = .ok (.d d) S := by first | (rw [ev]; done) | (rw [ev]; rfl) | (rw [ev]; congr 1; funext x S1; cases x with | d d => (cases d with | bl b => (cases b <;> rfl) | _ => rfl) | _ => rfl)
@[simp] theorem ev_glo (k : Nat) : ev cx (.glo k) σ S = (match cx.glo[k]? with
    | some d => .ok (.d d) S
    | none => .bad) := by first | (rw [ev]; done) | (rw [ev]; rfl) | (rw [ev]; congr 1; funext x S1; cases x with | d d => (cases d with | bl b => (cases b <;> rfl) | _ => rfl) | _ => rfl)
@[simp] theorem ev_tup (es : Es) : ev cx (.tup es) σ S = (evs cx es σ S).bnd mkTup := by first | (rw [ev]; done) | (rw [ev]; rfl) | (rw [ev]; congr 1; funext x S1; cases x with | d d => (cases d with | bl b => (cases b <;> rfl) | _ => rfl) | _ => rfl)
@[simp] theorem ev_lst (md : Bool) (es : Es) : ev cx (.lst md es) σ S = (evs cx es σ S).bnd (mkLst md) := by first | (rw [ev]; done) | (rw [ev]; rfl) | (rw [ev]; congr 1; funext x S1; cases x with | d d => (cases d with | bl b => (cases b <;> rfl) | _ => rfl) | _ => rfl)
@[simp] theorem ev_dct (md : Bool) (es : Es) : ev cx (.dct md es) σ S = (evPs cx es σ S).bnd (mkD md) := by first | (rw [ev]; done) | (rw [ev]; rfl) | (rw [ev]; congr 1; funext x S1; cases x with | d d => (cases d with | bl b => (cases b <;> rfl) | _ => rfl) | _ => rfl)
@[simp] theorem ev_bin (md : Bool) (o : BOp) (a b : E) : ev cx (.bin md o a b) σ S = (ev cx a σ S).bnd fun x S1 => (ev cx b σ S1).bnd fun y S2 => binS md o x y S2 := by first | (rw [ev]; done) | (rw [ev]; rfl) | (rw [ev]; congr 1; funext x S1; cases x with | d d => (cases d with | bl b => (cases b <;> rfl) | _ => rfl) | _ => rfl)
@[simp] theorem ev_neg (a : E) : ev cx (.neg a) σ S = (ev cx a σ S).bnd negS := by first | (rw [ev]; done) | (rw [ev]; rfl) | (rw [ev]; congr 1; funext x S1; cases x with | d d => (cases d with | bl b => (cases b <;> rfl) | _ => rfl) | _ => rfl)
@[simp] theorem ev_cmp (o : COp) (a b : E) : ev cx (.cmp o a b) σ S = (ev cx a σ S).bnd fun x S1 => (ev cx b σ S1).bnd fun y S2 => cmpS o x y S2 := by first | (rw [ev]; done) | (rw [ev]; rfl) | (rw [ev]; congr 1; funext x S1; cases x with | d d => (cases d with | bl b => (cases b <;> rfl) | _ => rfl) | _ => rfl)
@[simp] theorem ev_chn (o o' : COp) (a b d : E) : ev cx (.chn o o' a b d) σ S = (ev cx a σ S).bnd fun x S1 => (ev cx b σ S1).bnd fun y S2 => (cmpS o x y S2).bnd fun t S3 => ifT t ((ev cx d σ S3).bnd fun z S4 => cmpS o' y z S4) (okB false S3) .bad := by
  first | (rw [ev]; done) | (rw [ev]; rfl)
@[simp] theorem ev_not (a : E) : ev cx (.not a) σ S = (ev cx a σ S).bnd fun x S1 => match x with
    | .d (.bl b) => okB (!b) S1
    | _ => .bad := by first | (rw [ev]; done) | (rw [ev]; rfl) | (rw [ev]; congr 1; funext x S1; cases x with | d d => (cases d with | bl b => (cases b <;> rfl) | _ => rfl) | _ => rfl)
@[simp] theorem ev_and (es : Es) : ev cx (.and es) σ S = evAnd cx es σ S := by first | (rw [ev]; done) | (rw [ev]; rfl) | (rw [ev]; congr 1; funext x S1; cases x with | d d => (cases d with | bl b => (cases b <;> rfl) | _ => rfl) | _ => rfl)
@[simp] theorem ev_or (es : Es) : ev cx (.or es) σ S = evOr cx es σ S := by first | (rw [ev]; done) | (rw [ev]; rfl) | (rw [ev]; congr 1; funext x S1; cases x with | d d => (cases d with | bl b => (cases b <;> rfl) | _ => rfl) | _ => rfl)
@[simp] theorem ev_ife (c a b : E) : ev cx (.ife c a b) σ S = (ev cx c σ S).bnd fun x S1 => ifT x (ev cx a σ S1) (ev cx b σ S1) .bad := by first | (rw [ev]; done) | (rw [ev]; rfl) | (rw [ev]; congr 1; funext x S1; cases x with | d d => (cases d with | bl b => (cases b <;> rfl) | _ => rfl) | _ => rfl)
@[simp] theorem ev_ix (a b : E) : ev cx (.ix a b) σ S = (ev cx a σ S).bnd fun x S1 => (ev cx b σ S1).bnd fun y S2 => ixS x y S2 := by first | (rw [ev]; done) | (rw [ev]; rfl) | (rw [ev]; congr 1; funext x S1; cases x with | d d => (cases d with | bl b => (cases b <;> rfl) | _ => rfl) | _ => rfl)
@[simp] theorem ev_slc (md : Bool) (a lo hi : E) : ev cx (.slc md a lo hi) σ S = (ev cx a σ S).bnd fun x S1 => (if lo.isNon then .ok none S1 else (ev cx lo σ S1).bnd ofI).bnd fun l S2 =>
      (if hi.isNon then .ok none S2 else (ev cx hi σ S2).bnd ofI).bnd fun h S3 => slcS md x l h S3 := by first | (rw [ev]; done) | (rw [ev]; rfl) | (rw [ev]; congr 1; funext x S1; cases x with | d d => (cases d with | bl b => (cases b <;> rfl) | _ => rfl) | _ => rfl)
@[simp] theorem ev_rev (md : Bool) (a : E) : ev cx (.rev md a) σ S = (ev cx a σ S).bnd (revS md) := by first | (rw [ev]; done) | (rw [ev]; rfl) | (rw [ev]; congr 1; funext x S1; cases x with | d d => (cases d with | bl b => (cases b <;> rfl) | _ => rfl) | _ => rfl)
@[simp] theorem ev_bi (md : Bool) (o : Bi) (es : Es) : ev cx (.bi md o es) σ S = (evs cx es σ S).bnd (biS md o) := by first | (rw [ev]; done) | (rw [ev]; rfl) | (rw [ev]; congr 1; funext x S1; cases x with | d d => (cases d with | bl b => (cases b <;> rfl) | _ => rfl) | _ => rfl)
@[simp] theorem ev_mt (md : Bool) (o : Mt) (a : E) (es : Es) : ev cx (.mt md o a es) σ S = (ev cx a σ S).bnd fun x S1 => if tyS x S1 = some o.on then (evs cx es σ S1).bnd fun ts S2 => mtS md o x ts S2 else .bad := by first | (rw [ev]; done) | (rw [ev]; rfl) | (rw [ev]; congr 1; funext x S1; cases x with | d d => (cases d with | bl b => (cases b <;> rfl) | _ => rfl) | _ => rfl)
@[simp] theorem ev_call (k : Nat) (es : Es) : ev cx (.call k es) σ S = (evs cx es σ S).bnd fun ts S1 => match cx.cal[k]? with
    | some c => c.f (ts ++ c.dv.map .d) S1
    | none => .bad := by first | (rw [ev]; done) | (rw [ev]; rfl) | (rw [ev]; congr 1; funext x S1; cases x with | d d => (cases d with | bl b => (cases b <;> rfl) | _ => rfl) | _ => rfl)
@[simp] theorem ev_meth (k : Nat) (o : E) (es : Es) : ev cx (.meth k o es) σ S = (ev cx o σ S).bnd fun x S1 => match clsOf x S1 with
    | some c => match cx.find k c with
      | some m => (evs cx es σ S1).bnd fun ts S2 => m.f (x :: (ts ++ m.dv.map .d)) S2
      | none => .bad
    | none => .bad := by first | (rw [ev]; done) | (rw [ev]; rfl) | (rw [ev]; congr 1; funext x S1; cases x with | d d => (cases d with | bl b => (cases b <;> rfl) | _ => rfl) | _ => rfl)
@[simp] theorem ev_new (md k : Nat) (es : Es) : ev cx (.new md k es) σ S = (evs cx es σ S).bnd fun ts S1 => match cx.new[k]? with
    | some (c, ini) => newS md c ini ts S1
    | none => .bad := by first | (rw [ev]; done) | (rw [ev]; rfl) | (rw [ev]; congr 1; funext x S1; cases x with | d d => (cases d with | bl b => (cases b <;> rfl) | _ => rfl) | _ => rfl)
@[simp] theorem ev_newK (md k : Nat) (es : Es) (e : E) : ev cx (.newK md k es e) σ S = (evs cx es σ S).bnd fun ts S1 => (ev cx e σ S1).bnd fun t S2 => match cx.newk[k]? with
    | some (c, ini) => newS md c ini (ts ++ [t]) S2
    | none => .bad := by first | (rw [ev]; done) | (rw [ev]; rfl)
@[simp] theorem ev_attr (o : E) (f : Nat) : ev cx (.attr o f) σ S = (ev cx o σ S).bnd fun x S1 => attrS x f S1 := by first | (rw [ev]; done) | (rw [ev]; rfl) | (rw [ev]; congr 1; funext x S1; cases x with | d d => (cases d with | bl b => (cases b <;> rfl) | _ => rfl) | _ => rfl)
@[simp] theorem ev_isi (a : E) (c : List Ty) : ev cx (.isi a c) σ S = (ev cx a σ S).bnd fun x S1 => ofB (isTy x S1 c) id S1 := by first | (rw [ev]; done) | (rw [ev]; rfl) | (rw [ev]; congr 1; funext x S1; cases x with | d d => (cases d with | bl b => (cases b <;> rfl) | _ => rfl) | _ => rfl)
@[simp] theorem ev_frz (a : E) : ev cx (.frz a) σ S = (ev cx a σ S).bnd (frzS S.loc.length) := by first | (rw [ev]; done) | (rw [ev]; rfl) | (rw [ev]; congr 1; funext x S1; cases x with | d d => (cases d with | bl b => (cases b <;> rfl) | _ => rfl) | _ => rfl)
@[simp] theorem ev_grf (a : E) : ev cx (.grf a) σ S = (ev cx a σ S).bnd (grfS S.loc.length) := by first | (rw [ev]; done) | (rw [ev]; rfl)
/-- one round of a comprehension -/
def cmpR (cx : Cxx) (tg : Tg) (ifs : Es) (elt : E) (σ : Sl) : D → Store → R (Option T) := fun x S => match asg tg (.d x) (clrs (tgv tg) σ) with
  | some σ' => (evAll cx ifs σ' S).bnd fun b S2 => if b then (ev cx elt σ' S2).bnd fun y S3 => .ok (some y) S3 else .ok none S2
  | none => .bad
@[simp] theorem ev_comp (md : Bool) (tg : Tg) (it : It) (ifs : Es) (elt : E) : ev cx (.comp md tg it ifs elt) σ S = (evIt cx it σ S).bnd fun xs S1 => (unexc (compL (cmpR cx tg ifs elt σ) xs S1)).bnd (mkLst md) := by
  rw [ev]
  rfl
@[simp] theorem ev_cmc (md : Bool) (tg : Tg) (e : E) (ifs : Es) (elt : E) : ev cx (.cmc md tg e ifs elt) σ S = (ev cx e σ S).bnd fun z S1 => match S1.rdL z with
    | some xs => (unexc (compG (cmpR cx tg ifs elt σ) (grd z xs) xs S1)).bnd (mkLst md)
    | none => .bad := by
  rw [ev]
  rfl
@[simp] theorem evs_nil : evs cx .nil σ S = .ok [] S := by first | (rw [evs]; done) | (rw [evs]; rfl) | (rw [evs]; congr 1; funext x S1; cases x with | d d => (cases d with | bl b => (cases b <;> rfl) | _ => rfl) | _ => rfl)
@[simp] theorem evs_cons (e : E) (es : Es) : evs cx (.cons e es) σ S = (ev cx e σ S).bnd fun t S1 => (evs cx es σ S1).bnd fun ts S2 => .ok (t :: ts) S2 := by first | (rw [evs]; done) | (rw [evs]; rfl) | (rw [evs]; congr 1; funext x S1; cases x with | d d => (cases d with | bl b => (cases b <;> rfl) | _ => rfl) | _ => rfl)
@[simp] theorem evPs_nil : evPs cx .nil σ S = .ok [] S := by first | (rw [evPs]; done) | (rw [evPs]; rfl) | (rw [evPs]; congr 1; funext x S1; cases x with | d d => (cases d with | bl b => (cases b <;> rfl) | _ => rfl) | _ => rfl)
@[simp] theorem evPs_cons (e e2 : E) (es2 : Es) : evPs cx (.cons e (.cons e2 es2)) σ S = (ev cx e σ S).bnd fun x S1 => (ev cx e2 σ S1).bnd fun y S2 => (evPs cx es2 σ S2).bnd fun ps S3 => .ok ((x, y) :: ps) S3 := by first | (rw [evPs]; done) | (rw [evPs]; rfl) | (rw [evPs]; congr 1; funext x S1; cases x with | d d => (cases d with | bl b => (cases b <;> rfl) | _ => rfl) | _ => rfl)
@[simp] theorem evAnd_one (e : E) : evAnd cx (.cons e .nil) σ S = ev cx e σ S := by first | (rw [evAnd]; done) | (rw [evAnd]; rfl) | (rw [evAnd]; congr 1; funext x S1; cases x with | d d => (cases d with | bl b => (cases b <;> rfl) | _ => rfl) | _ => rfl)
@[simp] theorem evAnd_two (e e2 : E) (es2 : Es) : evAnd cx (.cons e (.cons e2 es2)) σ S = (ev cx e σ S).bnd fun x S1 => ifT x (evAnd cx (.cons e2 es2) σ S1) (okB false S1) .bad := by first | (rw [evAnd]; done) | (rw [evAnd]; rfl) | (rw [evAnd]; congr 1; funext x S1; cases x with | d d => (cases d with | bl b => (cases b <;> rfl) | _ => rfl) | _ => rfl)
@[simp] theorem evOr_one (e : E) : evOr cx (.cons e .nil) σ S = ev cx e σ S := by first | (rw [evOr]; done) | (rw [evOr]; rfl) | (rw [evOr]; congr 1; funext x S1; cases x with | d d => (cases d with | bl b => (cases b <;> rfl) | _ => rfl) | _ => rfl)
@[simp] theorem evOr_two (e e2 : E) (es2 : Es) : evOr cx (.cons e (.cons e2 es2)) σ S = (ev cx e σ S).bnd fun x S1 => ifT x (okB true S1) (evOr cx (.cons e2 es2) σ S1) .bad := by first | (rw [evOr]; done) | (rw [evOr]; rfl) | (rw [evOr]; congr 1; funext x S1; cases x with | d d => (cases d with | bl b => (cases b <;> rfl) | _ => rfl) | _ => rfl)
@[simp] theorem evAll_nil : evAll cx .nil σ S = .ok true S := by first | (rw [evAll]; done) | (rw [evAll]; rfl) | (rw [evAll]; congr 1; funext x S1; cases x with | d d => (cases d with | bl b => (cases b <;> rfl) | _ => rfl) | _ => rfl)
@[simp] theorem evAll_one (e : E) : evAll cx (.cons e .nil) σ S = (ev cx e σ S).bnd fun x S1 => match x with
      | .d (.bl b) => .ok b S1
      | _ => .bad := by first | (rw [evAll]; done) | (rw [evAll]; rfl) | (rw [evAll]; congr 1; funext x S1; cases x with | d d => (cases d with | bl b => (cases b <;> rfl) | _ => rfl) | _ => rfl)
@[simp] theorem evIt_seq (e : E) : evIt cx (.seq e) σ S = (ev cx e σ S).bnd fun x S1 => match items x with
    | some ts => .ok ts S1
    | none => .bad := by first | (rw [evIt]; done) | (rw [evIt]; rfl) | (rw [evIt]; congr 1; funext x S1; cases x with | d d => (cases d with | bl b => (cases b <;> rfl) | _ => rfl) | _ => rfl)
@[simp] theorem evIt_rng (es : Es) : evIt cx (.rng es) σ S = (evs cx es σ S).bnd fun ts S1 => match rngS ts with
    | some (lo, n) => .ok (rngL lo n) S1
    | none => .bad := by first | (rw [evIt]; done) | (rw [evIt]; rfl) | (rw [evIt]; congr 1; funext x S1; cases x with | d d => (cases d with | bl b => (cases b <;> rfl) | _ => rfl) | _ => rfl)
@[simp] theorem evIt_enum (e : E) : evIt cx (.enum e) σ S = (ev cx e σ S).bnd fun x S1 => match itemL x with
    | some xs => .ok (enumL 0 xs) S1
    | none => .bad := by first | (rw [evIt]; done) | (rw [evIt]; rfl) | (rw [evIt]; congr 1; funext x S1; cases x with | d d => (cases d with | bl b => (cases b <;> rfl) | _ => rfl) | _ => rfl)
@[simp] theorem evIt_zip (a b : E) : evIt cx (.zip a b) σ S = (ev cx a σ S).bnd fun x S1 => (ev cx b σ S1).bnd fun y S2 => match itemL x, itemL y with
    | some xs, some ys => .ok (zipL xs ys) S2
    | _, _ => .bad := by first | (rw [evIt]; done) | (rw [evIt]; rfl) | (rw [evIt]; congr 1; funext x S1; cases x with | d d => (cases d with | bl b => (cases b <;> rfl) | _ => rfl) | _ => rfl)
@[simp] theorem evIt_rvs (e : E) : evIt cx (.rvs e) σ S = (ev cx e σ S).bnd fun x S1 => match itemL x with
    | some xs => .ok xs.reverse S1
    | _ => .bad := by first | (rw [evIt]; done) | (rw [evIt]; rfl) | (rw [evIt]; congr 1; funext x S1; cases x with | d d => (cases d with | bl b => (cases b <;> rfl) | _ => rfl) | _ => rfl)
@[simp] theorem evIt_rvr (es : Es) : evIt cx (.rvr es) σ S = (evs cx es σ S).bnd fun ts S1 => match rngS ts with
    | some (lo, n) => .ok (rngL lo n).reverse S1
    | none => .bad := by first | (rw [evIt]; done) | (rw [evIt]; rfl) | (rw [evIt]; congr 1; funext x S1; cases x with | d d => (cases d with | bl b => (cases b <;> rfl) | _ => rfl) | _ => rfl)
variable {n : Nat}
@[simp] theorem ex_set (tg : Tg) (e : E) : ex cx n (.set tg e) σ S = (ev cx e σ S).stm σ fun t S1 => match asg tg t σ with
    | some σ' => .nx σ' S1
    | none => .bad := by first | (rw [ex]; done) | (rw [ex]; rfl) | (rw [ex]; congr 1; funext x S1; cases x with | d d => (cases d with | bl b => (cases b <;> rfl) | _ => rfl) | _ => rfl)
@[simp] theorem ex_setA (o : E) (f : Nat) (e : E) : ex cx n (.setA o f e) σ S = (ev cx e σ S).stm σ fun v S1 => (ev cx o σ S1).stm σ fun x S2 => match setAS x f v S2 with
    | some S3 => .nx σ S3
    | none => .bad := by first | (rw [ex]; done) | (rw [ex]; rfl) | (rw [ex]; congr 1; funext x S1; cases x with | d d => (cases d with | bl b => (cases b <;> rfl) | _ => rfl) | _ => rfl)
@[simp] theorem ex_augA (o : E) (f : Nat) (op : BOp) (e : E) : ex cx n (.augA o f op e) σ S = (ev cx o σ S).stm σ fun x S1 => (attrS x f S1).stm σ fun y S2 => (ev cx e σ S2).stm σ fun z S3 => (augS op y z S3).stm σ fun v S4 => match clsOf x S1, clsOf x S4 with
    | some c1, some c4 => if c1 = c4 then (match setAS x f v S4 with
      | some S5 => .nx σ S5
      | none => .bad) else .bad
    | _, _ => .bad := by first | (rw [ex]; done) | (rw [ex]; rfl) | (rw [ex]; congr 1; funext x S1; cases x with | d d => (cases d with | bl b => (cases b <;> rfl) | _ => rfl) | _ => rfl)
@[simp] theorem ex_setI (o i e : E) : ex cx n (.setI o i e) σ S = (ev cx e σ S).stm σ fun v S1 => (ev cx o σ S1).stm σ fun x S2 => (ev cx i σ S2).stm σ fun k S3 => match setIS x k v S3 with
    | some S4 => .nx σ S4
    | none => .bad := by first | (rw [ex]; done) | (rw [ex]; rfl) | (rw [ex]; congr 1; funext x S1; cases x with | d d => (cases d with | bl b => (cases b <;> rfl) | _ => rfl) | _ => rfl)
@[simp] theorem ex_expr (e : E) : ex cx n (.expr e) σ S = (ev cx e σ S).stm σ fun _ S1 => .nx σ S1 := by first | (rw [ex]; done) | (rw [ex]; rfl) | (rw [ex]; congr 1; funext x S1; cases x with | d d => (cases d with | bl b => (cases b <;> rfl) | _ => rfl) | _ => rfl)
@[simp] theorem ex_ret (e : E) : ex cx n (.ret e) σ S = (ev cx e σ S).stm σ fun t S1 => .ret t S1 := by first | (rw [ex]; done) | (rw [ex]; rfl) | (rw [ex]; congr 1; funext x S1; cases x with | d d => (cases d with | bl b => (cases b <;> rfl) | _ => rfl) | _ => rfl)
@[simp] theorem ex_retN : ex cx n .retN σ S = .ret (.d .non) S := by first | (rw [ex]; done) | (rw [ex]; rfl) | (rw [ex]; congr 1; funext x S1; cases x with | d d => (cases d with | bl b => (cases b <;> rfl) | _ => rfl) | _ => rfl)
@[simp] theorem ex_pass : ex cx n .pass σ S = .nx σ S := by first | (rw [ex]; done) | (rw [ex]; rfl) | (rw [ex]; congr 1; funext x S1; cases x with | d d => (cases d with | bl b => (cases b <;> rfl) | _ => rfl) | _ => rfl)
@[simp] theorem ex_brk : ex cx n .brk σ S = .brk σ S := by first | (rw [ex]; done) | (rw [ex]; rfl) | (rw [ex]; congr 1; funext x S1; cases x with | d d => (cases d with | bl b => (cases b <;> rfl) | _ => rfl) | _ => rfl)
@[simp] theorem ex_cnt : ex cx n .cnt σ S = .cnt σ S := by first | (rw [ex]; done) | (rw [ex]; rfl) | (rw [ex]; congr 1; funext x S1; cases x with | d d => (cases d with | bl b => (cases b <;> rfl) | _ => rfl) | _ => rfl)
@[simp] theorem ex_ife (c : E) (a b : Ss) : ex cx n (.ife c a b) σ S = (ev cx c σ S).stm σ fun t S1 => ifT t (exs cx n a σ S1) (exs cx n b σ S1) .bad := by first | (rw [ex]; done) | (rw [ex]; rfl) | (rw [ex]; congr 1; funext x S1; cases x with | d d => (cases d with | bl b => (cases b <;> rfl) | _ => rfl) | _ => rfl)
/-- one round of a loop -/
def forR (cx : Cxx) (n : Nat) (tg : Tg) (b : Ss) : D → Sl → Store → RS := fun x σ S => match asg tg (.d x) σ with
  | some σ' => exs cx n b σ' S
  | none => .bad
@[simp] theorem ex_for (tg : Tg) (it : It) (b : Ss) : ex cx n (.for tg it b) σ S = (match evIt cx it σ S with
    | .ok xs S1 => forL (forR cx n tg b) xs σ S1
    | .exc c p S1 => .exc c p σ S1
    | .bad => .bad) := by
  rw [ex]
  rfl
@[simp] theorem ex_forC (tg : Tg) (e : E) (b : Ss) : ex cx n (.forC tg e b) σ S = (ev cx e σ S).stm σ fun z S1 => if own n z then (match S1.rdL z with
    | some xs => forG (forR cx n tg b) (grd z xs) xs σ S1
    | none => .bad) else .bad := by
  first | (rw [ex]; done) | (rw [ex]; rfl)
@[simp] theorem ex_par (i j : Nat) (es : Es) : ex cx n (.par i j es) σ S = (match evs cx es σ S with
    | .ok ts S1 => (match ts with
      | [x, y] => .nx ((σ.set i (some x)).set j (some y)) S1
      | _ => .bad)
    | .exc c p S1 => .exc c p σ S1
    | .bad => .bad) := by
  first | (rw [ex]; done) | (rw [ex]; rfl)
@[simp] theorem ex_swp (o i o2 i2 e : E) : ex cx n (.swp o i o2 i2 e) σ S = (ev cx e σ S).stm σ fun t S2 => match parts t with
    | some ts => (match ts with
      | [va, vb] => (ev cx o σ S2).stm σ fun x S3 => (ev cx i σ S3).stm σ fun k S4 => match setIS x k va S4 with
        | some S5 => (ev cx o2 σ S5).stm σ fun x2 S6 => (ev cx i2 σ S6).stm σ fun k2 S7 => match setIS x2 k2 vb S7 with
          | some S8 => .nx σ S8
          | none => .bad
        | none => .bad
      | _ => .bad)
    | none => .bad := by
  first | (rw [ex]; done) | (rw [ex]; rfl)
@[simp] theorem exs_nil : exs cx n .nil σ S = .nx σ S := by first | (rw [exs]; done) | (rw [exs]; rfl) | (rw [exs]; congr 1; funext x S1; cases x with | d d => (cases d with | bl b => (cases b <;> rfl) | _ => rfl) | _ => rfl)
@[simp] theorem exs_cons (s : S1) (ss : Ss) : exs cx n (.cons s ss) σ S = (ex cx n s σ S).seq (exs cx n ss) := by first | (rw [exs]; done) | (rw [exs]; rfl) | (rw [exs]; congr 1; funext x S1; cases x with | d d => (cases d with | bl b => (cases b <;> rfl) | _ => rfl) | _ => rfl)
end
/-! ### exceptions -/
section
variable {cx : Cxx} {n : Nat} {σ : Sl} {S : Store}
@[simp] theorem ev_isx (i : Nat) (ys : List Ty) : ev cx (.isx i ys) σ S = (match σ[i]? with
    | some (some (.exc c _)) => okB (ys.any fun z => Ty.is (.cls c) z) S
    | _ => .bad) := by first | (rw [ev]; done) | (rw [ev]; rfl)
@[simp] theorem ev_xat (i f : Nat) : ev cx (.xat i f) σ S = (match σ[i]? with
    | some (some (.exc c p)) => match ((flds c).zip p).lookup f with
      | some x => .ok (.d x) S
      | none => .bad
    | _ => .bad) := by first | (rw [ev]; done) | (rw [ev]; rfl)
@[simp] theorem ev_up (k : Nat) (es : Es) : ev cx (.up k es) σ S = (evs cx es σ S).bnd fun ts S1 => match cx.up[k]? with
    | some c => c.f (ts ++ c.dv.map .d) S1
    | none => .bad := by first | (rw [ev]; done) | (rw [ev]; rfl)
@[simp] theorem ev_new0 (k : Nat) : ev cx (.new0 k) σ S = (match cx.new0[k]? with
    | some c => .ok (.d (.obj c [])) S
    | none => .bad) := by first | (rw [ev]; done) | (rw [ev]; rfl)
@[simp] theorem ex_rai (c : Nat) (es : Es) : ex cx n (.rai c es) σ S = (match evs cx es σ S with
    | .ok ts S1 => match unDs ts with
      | some ds => .exc c ds σ S1
      | none => .bad
    | .exc c p S1 => .exc c p σ S1
    | .bad => .bad) := by first | (rw [ex]; done) | (rw [ex]; rfl)
/-- a try's end -/
def RS.tr (r : RS) (els : Sl → Store → RS) (hd : Nat → List D → Sl → Store → RS) : RS := match r with
  | .nx σ S => els σ S
  | .exc c p σ S => hd c p σ S
  | r => r
@[simp] theorem tr_nx {els : Sl → Store → RS} {hd : Nat → List D → Sl → Store → RS} : (RS.nx σ S).tr els hd = els σ S := rfl
@[simp] theorem tr_exc {els : Sl → Store → RS} {hd : Nat → List D → Sl → Store → RS} {c : Nat} {p : List D} : (RS.exc c p σ S).tr els hd = hd c p σ S := rfl
@[simp] theorem tr_ret {els : Sl → Store → RS} {hd : Nat → List D → Sl → Store → RS} {t : T} : (RS.ret t S).tr els hd = .ret t S := rfl
@[simp] theorem tr_ite {els : Sl → Store → RS} {hd : Nat → List D → Sl → Store → RS} {c : Prop} [Decidable c] {x y : RS} : (if c then x else y).tr els hd = if c then x.tr els hd else y.tr els hd := by split <;> rfl
@[simp] theorem ex_try (b : Ss) (hs : Hs) (els : Ss) : ex cx n (.try b hs els) σ S = (exs cx n b σ S).tr (exs cx n els) (exh cx n hs) := by
  rw [ex]
  cases exs cx n b σ S <;> rfl
@[simp] theorem exh_nil {c : Nat} {p : List D} : exh cx n .nil c p σ S = .exc c p σ S := by rw [exh]
@[simp] theorem exh_cons {k : Nat} {i : Option Nat} {b : Ss} {hs : Hs} {c : Nat} {p : List D} : exh cx n (.cons k i b hs) c p σ S = if (ups c).contains k then (exs cx n b (xIn i c p σ) S).xOut i else exh cx n hs c p σ S := by
  rw [exh]
@[simp] theorem xIn_some {i c : Nat} {p : List D} : xIn (some i) c p σ = σ.set i (some (.exc c p)) := rfl
@[simp] theorem xIn_none {c : Nat} {p : List D} : xIn none c p σ = σ := rfl
@[simp] theorem xDel_some {i : Nat} : xDel (some i) σ = σ.set i none := rfl
@[simp] theorem xDel_none : xDel none σ = σ := rfl
@[simp] theorem xOut_nx {i : Option Nat} : (RS.nx σ S).xOut i = if (xDel i σ).all noXo then .nx (xDel i σ) S else .bad := rfl
@[simp] theorem xOut_ret {i : Option Nat} {t : T} : (RS.ret t S).xOut i = if t.noX then .ret t S else .bad := rfl
@[simp] theorem xOut_ite {i : Option Nat} {c : Prop} [Decidable c] {x y : RS} : (if c then x else y).xOut i = if c then x.xOut i else y.xOut i := by split <;> rfl
@[simp] theorem noXo_none : noXo none = true := rfl
@[simp] theorem noXo_d {d : D} : noXo (some (.d d)) = true := rfl
@[simp] theorem noXo_cell {k : Nat} : noXo (some (.cell k)) = true := rfl
@[simp] theorem noX_d {d : D} : (T.d d).noX = true := rfl
end
/-! ### the store -/
@[simp] theorem trunc_self (S : Store) : S.trunc S.loc.length = S := by
  cases S
  simp [Store.trunc]
@[simp] theorem push_len {S : Store} {c : Cell} : (S.push c).loc.length = S.loc.length + 1 := by simp [Store.push]
@[simp] theorem push_get {S : Store} {c : Cell} : (S.push c).loc[S.loc.length]? = some c := by simp [Store.push]
@[simp] theorem push_at {S : Store} {c : Cell} : (S.push c).at (.cell S.loc.length) = some c := push_get
@[simp] theorem push_setL {S : Store} {c c' : Cell} : (S.push c).setL S.loc.length c' = S.push c' := by simp [Store.push, Store.setL]
@[simp] theorem push_put {S : Store} {c c' : Cell} : (S.push c).put (.cell S.loc.length) c' = S.push c' := push_setL
@[simp] theorem push_trunc {S : Store} {c : Cell} : (S.push c).trunc S.loc.length = S := by simp [Store.push, Store.trunc]
@[simp] theorem push_trunc1 {S : Store} {c : Cell} : (S.push c).trunc (S.loc.length + 1) = S.push c := by
  simp only [Store.push, Store.trunc]
  rw [List.take_of_length_le (by simp)]
@[simp] theorem frz_obj {S : Store} {c : Nat} {fs : List D} : frzS S.loc.length (.cell S.loc.length) (S.push (.obj c fs)) = .ok (.d (.obj c fs)) S := by
  unfold frzS
  dsimp only
  rw [if_pos ⟨Nat.le_refl _, push_len.symm⟩, push_get, push_trunc]
theorem new_ok {S : Store} {c : Nat} {ini : Cal} {ts : List T} {fs : List D} (h : ini.f (.cell S.loc.length :: (ts ++ ini.dv.map .d)) (S.push (.obj c [])) = .ok (.d .non) (S.push (.obj c fs))) : newS 0 c ini ts S = .ok (.d (.obj c fs)) S := by
  simp only [newS, h, frz_obj]
theorem new_exc {S S2 : Store} {c k : Nat} {ini : Cal} {ts : List T} {p : List D} (h : ini.f (.cell S.loc.length :: (ts ++ ini.dv.map .d)) (S.push (.obj c [])) = .exc k p S2) (h2 : S2.trunc S.loc.length = S) : newS 0 c ini ts S = .exc k p S := by
  simp only [newS, h, h2]
@[simp] theorem fin_d (n : Nat) (x : D) (S : Store) : fin n (.d x) S = .ok (.d x) (S.trunc n) := rfl
/-! ### calls of builtins -/
section
variable {S : Store} {md : Bool} {ts : List T}
@[simp] theorem bi_len : biS md .len ts S = bLen ts S := rfl
@[simp] theorem bi_list : biS md .list ts S = bList md ts S := rfl
@[simp] theorem bi_tuple : biS md .tuple ts S = bTuple ts S := rfl
@[simp] theorem bi_min : biS md .min ts S = bInt2 (fun i j => if j < i then j else i) ts S := rfl
@[simp] theorem bi_max : biS md .max ts S = bInt2 (fun i j => if j > i then j else i) ts S := rfl
@[simp] theorem bi_abs : biS md .abs ts S = bAbs ts S := rfl
@[simp] theorem bi_int : biS md .int ts S = bInt ts S := rfl
@[simp] theorem bi_sum : biS md .sum ts S = bSum ts S := rfl
@[simp] theorem bi_all : biS md .all ts S = bBools (fun bs => bs.all id) ts S := rfl
@[simp] theorem bi_any : biS md .any ts S = bBools (fun bs => bs.any id) ts S := rfl
@[simp] theorem len_str {z : Str} (h : z.length ≤ 100000) : bLen [.d (.str z)] S = .ok (.d (.int z.length)) S := by
  simp [bLen, lenS, Store.rd, h]
@[simp] theorem len_lst {xs : List D} : bLen [.d (.lst xs)] S = .ok (.d (.int xs.length)) S := by
  simp [bLen, lenS, Store.rd]
@[simp] theorem len_tup {xs : List D} : bLen [.d (.tup xs)] S = .ok (.d (.int xs.length)) S := by
  simp [bLen, lenS, Store.rd]
@[simp] theorem len_lstT {xs : List T} : bLen [.lst xs] S = .ok (.d (.int xs.length)) S := by
  simp [bLen, lenS]
@[simp] theorem asg_v {i : Nat} {t : T} {σ : Sl} : asg (.v i) t σ = some (σ.set i (some t)) := by rw [asg]
@[simp] theorem asg_t {gs : Tgs} {t : T} {σ : Sl} : asg (.t gs) t σ = (match parts t with
    | some ts => asgs gs ts σ
    | none => none) := by first | (rw [asg]; done) | (rw [asg]; rfl)
@[simp] theorem asgs_nil {σ : Sl} : asgs .nil [] σ = some σ := by rw [asgs]
@[simp] theorem asgs_cons {g : Tg} {gs : Tgs} {t : T} {ts : List T} {σ : Sl} : asgs (.cons g gs) (t :: ts) σ = (match asg g t σ with
    | some σ' => asgs gs ts σ'
    | none => none) := by first | (rw [asgs]; done) | (rw [asgs]; rfl)
@[simp] theorem parts_d {ds : List D} : parts (.d (.tup ds)) = some (ds.map .d) := rfl
@[simp] theorem parts_t {ds : List T} : parts (.tup ds) = some ds := rfl
@[simp] theorem okB_eq {b : Bool} : okB b S = .ok (.d (.bl b)) S := rfl
@[simp] theorem ofB_some {b : Bool} {f : Bool → Bool} : ofB (some b) f S = .ok (.d (.bl (f b))) S := rfl
theorem dBls_map {α : Type} (g : α → Bool) : ∀ xs : List α, dBls (xs.map fun x => .bl (g x)) = some (xs.map g)
  | [] => rfl
  | x :: xs => by simp [dBls, dBls_map g xs]
theorem dBls_id : ∀ bs : List Bool, dBls (bs.map .bl) = some bs
  | [] => rfl
  | x :: xs => by simp [dBls, dBls_id xs]
theorem dInts_id : ∀ bs : List Int, dInts (bs.map .int) = some bs
  | [] => rfl
  | x :: xs => by simp [dInts, dInts_id xs]
theorem dInts_map {α : Type} (g : α → Int) : ∀ xs : List α, dInts (xs.map fun x => .int (g x)) = some (xs.map g)
  | [] => rfl
  | x :: xs => by simp [dInts, dInts_map g xs]
end
/-! ### numbers -/
section
variable {S : Store} {md : Bool} {i j : Int}
@[simp] theorem bin_add : binS md .add (.d (.int i)) (.d (.int j)) S = .ok (.d (.int (i + j))) S := rfl
@[simp] theorem bin_adds {a b : Str} : binS md .add (.d (.str a)) (.d (.str b)) S = mkS (a ++ b) S := rfl
@[simp] theorem bin_sub : binS md .sub (.d (.int i)) (.d (.int j)) S = .ok (.d (.int (i - j))) S := rfl
@[simp] theorem bin_mul : binS md .mul (.d (.int i)) (.d (.int j)) S = if mulOk i j then .ok (.d (.int (i * j))) S else .bad := rfl
@[simp] theorem bin_fdiv (h0 : 0 < j) (h : j < 115792089237316195423570985008687907853269984665640564039457584007913129639936) : binS md .fdiv (.d (.int i)) (.d (.int j)) S = .ok (.d (.int (i / j))) S := by
  show (if 0 < j ∧ j.natAbs.log2 < 9000 then R.ok (T.d (.int (i / j))) S else .bad) = _
  rw [if_pos]
  refine ⟨h0, ?_⟩
  have h2 : j.natAbs < 2 ^ 256 := by omega
  have : j.natAbs.log2 < 256 := by
    rw [Nat.log2_lt (by omega)]
    exact h2
  omega
@[simp] theorem bin_mod : binS md .mod (.d (.int i)) (.d (.int j)) S = if 0 < j then .ok (.d (.int (i % j))) S else .bad := rfl
@[simp] theorem bin_pow : binS md .pow (.d (.int i)) (.d (.int j)) S = if 0 ≤ j ∧ j ≤ 1000 ∧ i.natAbs < 18446744073709551616 then .ok (.d (.int (i ^ j.toNat))) S else .bad := rfl
@[simp] theorem neg_int' : negS (.d (.int i)) S = .ok (.d (.int (-i))) S := rfl
@[simp] theorem cmp_lt : cmpS .lt (.d (.int i)) (.d (.int j)) S = .ok (.d (.bl (decide (i < j)))) S := rfl
@[simp] theorem cmp_le : cmpS .le (.d (.int i)) (.d (.int j)) S = .ok (.d (.bl (decide (i ≤ j)))) S := rfl
@[simp] theorem cmp_gt : cmpS .gt (.d (.int i)) (.d (.int j)) S = .ok (.d (.bl (decide (j < i)))) S := rfl
@[simp] theorem cmp_ge : cmpS .ge (.d (.int i)) (.d (.int j)) S = .ok (.d (.bl (decide (j ≤ i)))) S := rfl
@[simp] theorem cmp_neB {a b : Bool} : cmpS .ne (.d (.bl a)) (.d (.bl b)) S = .ok (.d (.bl (!(a == b)))) S := by
  cases a <;> cases b <;> rfl
@[simp] theorem cmp_eqB {a b : Bool} : cmpS .eq (.d (.bl a)) (.d (.bl b)) S = .ok (.d (.bl (a == b))) S := by
  cases a <;> cases b <;> rfl
@[simp] theorem cmp_isB {a b : Bool} : cmpS .is (.d (.bl a)) (.d (.bl b)) S = .ok (.d (.bl (a == b))) S := rfl
@[simp] theorem cmp_isnotB {a b : Bool} : cmpS .isnot (.d (.bl a)) (.d (.bl b)) S = .ok (.d (.bl (!(a == b)))) S := rfl
@[simp] theorem cmp_eqI : cmpS .eq (.d (.int i)) (.d (.int j)) S = .ok (.d (.bl (decide (i = j)))) S := rfl
@[simp] theorem cmp_neI : cmpS .ne (.d (.int i)) (.d (.int j)) S = .ok (.d (.bl (!decide (i = j)))) S := rfl
end
@[simp] theorem cmp_eqS {a b : Str} {S : Store} : cmpS .eq (.d (.str a)) (.d (.str b)) S = .ok (.d (.bl (decide (a = b)))) S := rfl
@[simp] theorem cmp_neS {a b : Str} {S : Store} : cmpS .ne (.d (.str a)) (.d (.str b)) S = .ok (.d (.bl (!decide (a = b)))) S := rfl
mutual
theorem eqv_refl : ∀ (n : Nat) (x : D), x.ly n = true → x.eqv x = true
  | _, .non, _ => rfl
  | _, .bl b, _ => by simp [D.eqv]
  | _, .int i, _ => by simp [D.eqv]
  | _, .str z, _ => by simp [D.eqv]
  | n + 1, .tup ds, h => by
    simp only [D.ly] at h
    simp only [D.eqv]
    exact eqvs_refl n ds h
  | n + 1, .lst ds, h => by
    simp only [D.ly] at h
    simp only [D.eqv]
    exact eqvs_refl n ds h
  | 0, .tup ds, h => by simp [D.ly] at h
  | 0, .lst ds, h => by simp [D.ly] at h
  | _, .obj _ _, h => by simp [D.ly] at h
  | _, .dct _ _, h => by simp [D.ly] at h
  | _, .gref _, h => by simp [D.ly] at h
theorem eqvs_refl : ∀ (n : Nat) (xs : List D), xs.all (D.ly n) = true → D.eqvs xs xs = true
  | _, [], _ => by simp [D.eqvs]
  | n, x :: xs, h => by
    simp only [List.all_cons, Bool.and_eq_true] at h
    simp only [D.eqvs, Bool.and_eq_true]
    exact ⟨eqv_refl n x h.1, eqvs_refl n xs h.2⟩
end
mutual
theorem same_refl : ∀ x : D, x.same x = true
  | .non => rfl
  | .bl _ => by simp [D.same]
  | .int _ => by simp [D.same]
  | .str _ => by simp [D.same]
  | .lst xs => by simp only [D.same]; exact sames_refl xs
  | .tup xs => by simp only [D.same]; exact sames_refl xs
  | .obj c xs => by simp only [D.same, decide_true, Bool.true_and]; exact sames_refl xs
  | .dct ks xs => by simp only [D.same, decide_true, Bool.true_and]; exact sames_refl xs
  | .gref _ => by simp [D.same]
theorem sames_refl : ∀ xs : List D, D.sames xs xs = true
  | [] => rfl
  | x :: xs => by simp only [D.sames, Bool.and_eq_true]; exact ⟨same_refl x, sames_refl xs⟩
end
theorem grd_ok {x : T} {xs : List D} {S : Store} (h : S.rdL x = some xs) : grd x xs S = true := by
  unfold grd
  simp only [h, sames_refl]
theorem rd_ly {x : D} {n : Nat} {S : Store} (h : x.ly n = true) : S.rd (.d x) = some x := by
  cases x <;> first | rfl | (simp [D.ly] at h)
theorem cmp_eqR {x : D} {S : Store} (h : x.ly lyMax = true) : cmpS .eq (.d x) (.d x) S = .ok (.d (.bl true)) S := by
  simp [cmpS, eqS, rd_ly h, h, eqv_refl _ _ h]
theorem cmp_neR {x : D} {S : Store} (h : x.ly lyMax = true) : cmpS .ne (.d x) (.d x) S = .ok (.d (.bl false)) S := by
  simp [cmpS, eqS, rd_ly h, h, eqv_refl _ _ h]
theorem cmp_in2 {a b c : Str} {S : Store} : cmpS .inn (.d (.str a)) (.d (.tup [.str b, .str c])) S = .ok (.d (.bl (decide (b = a) || decide (c = a)))) S := by
  simp [cmpS, inS, Store.rd, D.ly, lyMax, D.eqv]
@[simp] theorem unexc_ok {α : Type} {a : α} {S : Store} : unexc (R.ok a S) = .ok a S := rfl
/-! ### loops -/
theorem compL_map {f : D → Store → R (Option T)} {g : D → T} {S : Store} : ∀ {xs : List D}, (∀ x ∈ xs, f x S = .ok (some (g x)) S) → compL f xs S = .ok (xs.map g) S
  | [], _ => rfl
  | x :: xs, h => by
    rw [compL, h x List.mem_cons_self, bnd_ok, compL_map fun y hy => h y (List.mem_cons_of_mem _ hy)]
    rfl
theorem compL_filter {f : D → Store → R (Option T)} {g : D → Option T} {S : Store} : ∀ {xs : List D}, (∀ x ∈ xs, f x S = .ok (g x) S) → compL f xs S = .ok (xs.filterMap g) S
  | [], _ => rfl
  | x :: xs, h => by
    rw [compL, h x List.mem_cons_self, bnd_ok, compL_filter fun y hy => h y (List.mem_cons_of_mem _ hy), bnd_ok, List.filterMap_cons]
    cases g x <;> rfl
theorem unDs_map {α : Type} (g : α → D) : ∀ xs : List α, unDs (xs.map fun x => .d (g x)) = some (xs.map g)
  | [] => rfl
  | x :: xs => by simp [unDs, unDs_map g xs]
/-- a loop with an invariant by the turn -/
theorem forL_inv {f : D → Sl → Store → RS} (I : Nat → Sl → Store → Prop) : ∀ {xs : List D} {k : Nat} {σ : Sl} {S : Store}, I k σ S → (∀ i x σ S, xs[i]? = some x → I (k + i) σ S → ∃ σ' S', (f x σ S = .nx σ' S' ∨ f x σ S = .cnt σ' S') ∧ I (k + i + 1) σ' S') →
    ∃ σ' S', forL f xs σ S = .nx σ' S' ∧ I (k + xs.length) σ' S'
  | [], k, σ, S, h, _ => ⟨σ, S, rfl, h⟩
  | x :: xs, k, σ, S, h, hs => by
    obtain ⟨σ1, S1, e, h1⟩ := hs 0 x σ S rfl h
    obtain ⟨σ2, S2, e2, h2⟩ := forL_inv I (xs := xs) (k := k + 1) h1 fun i y σ S hy hI => by
      have := hs (i + 1) y σ S (by simpa using hy) (by rw [show k + (i + 1) = k + 1 + i by omega]; exact hI)
      rw [show k + (i + 1) + 1 = k + 1 + i + 1 by omega] at this
      exact this
    refine ⟨σ2, S2, ?_, by rw [show k + (x :: xs).length = k + 1 + xs.length by simp; omega]; exact h2⟩
    rw [forL]
    rcases e with e | e <;> rw [e] <;> exact e2
/-! ### items -/
theorem ixN_nn {n : Nat} {i : Int} (h0 : 0 ≤ i) (h : i < n) : ixN n i = some i.toNat := by
  unfold ixN
  rw [if_pos h0, if_pos h]
theorem ix_lst {xs : List D} {i : Int} {S : Store} {x : D} (h0 : 0 ≤ i) (h : xs[i.toNat]? = some x) : ixS (.d (.lst xs)) (.d (.int i)) S = .ok (.d x) S := by
  have hl : i < xs.length := by
    have := (List.getElem?_eq_some_iff.mp h).1
    omega
  simp [ixS, Store.rd, ixN_nn h0 hl, h]
theorem ix_lstT {xs : List T} {i : Int} {S : Store} {x : T} (h0 : 0 ≤ i) (h : xs[i.toNat]? = some x) : ixS (.lst xs) (.d (.int i)) S = .ok x S := by
  have hl : i < xs.length := by
    have := (List.getElem?_eq_some_iff.mp h).1
    omega
  simp [ixS, ixN_nn h0 hl, h]
theorem ix_str {z : Str} {i : Int} {S : Store} {c : Nat} (hz : z.length ≤ 100000) (h0 : 0 ≤ i) (h : z.cps.toList[i.toNat]? = some c) : ixS (.d (.str z)) (.d (.int i)) S = .ok (.d (.str ⟨#[c]⟩)) S := by
  have hl : i < z.cps.toList.length := by
    have := (List.getElem?_eq_some_iff.mp h).1
    omega
  simp only [ixS, Store.rd, hz, if_true]
  rw [ixN_nn h0 hl]
  simp only [Option.bind_some, h]
end Mn
set_option Elab.async false
set_option linter.all false
set_option maxRecDepth 100000
/-! MnC: what many laws say alike: names. -/
namespace MnC
open PySem Mn
def b__law_nth : Ss :=
  (.cons (.ret (.ife (.cmp .lt (.var 1) (.bi false .len (.cons (.var 0) .nil))) (.ix (.var 0) (.var 1)) (.con (.int 0))))
  .nil)
def c__law_nth : Cxx := { glo := [], cal := [], dis := [], new := [], newk := [], up := [], new0 := [] }
def m__law_nth : Fn := mkFn c__law_nth 2 2 b__law_nth
def b_is_name : Ss :=
  (.cons (.ife (.or (.cons (.not (.isi (.var 0) [.str])) (.cons (.cmp .lt (.bi false .len (.cons (.var 0) .nil)) (.con (.int 1))) (.cons (.cmp .gt (.bi false .len (.cons (.var 0) .nil)) (.glo 0)) .nil))))
  (.cons (.ret (.con (.bl false)))
  .nil)
  .nil)
  (.cons (.ret (.bi false .all (.cons (.comp false (.v 1) (.seq (.var 0)) .nil (.cmp .inn (.var 1) (.glo 1))) .nil)))
  .nil))
def c_is_name : Cxx := { glo := [(D.int 8), (D.str "abcdefghijklmnopqrstuvwxyz")], cal := [], dis := [], new := [], newk := [], up := [], new0 := [] }
@[simp] theorem cg_is_name_0 : c_is_name.glo[0]? = some (D.int 8) := rfl
@[simp] theorem cg_is_name_1 : c_is_name.glo[1]? = some (D.str "abcdefghijklmnopqrstuvwxyz") := rfl
def m_is_name : Fn := mkFn c_is_name 1 2 b_is_name
def b__law_called : Ss :=
  (.cons (.ife (.cmp .eq (.bin false .mod (.var 0) (.con (.int 2))) (.con (.int 0)))
  (.cons (.ret (.ix (.lst false (.cons (.con (.str "a")) (.cons (.con (.str "b")) (.cons (.con (.str "c")) (.cons (.con (.str "ab")) (.cons (.con (.str "ba")) (.cons (.con (.str "aa")) (.cons (.con (.str "self")) (.cons (.con (.str "abcdefgh")) (.cons (.con (.str "z")) (.cons (.con (.str "zz")) .nil))))))))))) (.bin false .mod (.bin false .fdiv (.var 0) (.con (.int 2))) (.con (.int 10)))))
  .nil)
  .nil)
  (.cons (.set (.v 1) (.bin false .fdiv (.var 0) (.con (.int 16))))
  (.cons (.set (.v 2) (.con (.str "")))
  (.cons (.for (.v 3) (.rng (.cons (.bin false .add (.con (.int 1)) (.bin false .mod (.bin false .fdiv (.var 0) (.con (.int 2))) (.con (.int 8)))) .nil))
  (.cons (.set (.v 2) (.bin false .add (.ix (.con (.str "abcdefghijklmnopqrstuvwxyz")) (.bin false .mod (.var 1) (.con (.int 26)))) (.var 2)))
  (.cons (.set (.v 1) (.bin false .fdiv (.var 1) (.con (.int 26))))
  .nil)))
  (.cons (.ret (.var 2))
  .nil)))))
def c__law_called : Cxx := { glo := [], cal := [], dis := [], new := [], newk := [], up := [], new0 := [] }
def m__law_called : Fn := mkFn c__law_called 1 4 b__law_called
def b__law_no_name : Ss :=
  (.cons (.set (.v 1) (.call 0 (.cons (.bin false .fdiv (.var 0) (.con (.int 8960))) .nil)))
  (.cons (.set (.v 2) (.bin false .mod (.bin false .mod (.bin false .fdiv (.var 0) (.con (.int 16))) (.con (.int 8))) (.bi false .len (.cons (.var 1) .nil))))
  (.cons (.set (.v 3) (.lst false (.cons (.con (.str "")) (.cons (.bin false .add (.var 1) (.con (.str "abcdefgh"))) (.cons (.con .non) (.cons (.con (.int 7)) (.cons (.con (.bl true)) (.cons (.lst false (.cons (.var 1) .nil)) (.cons (.tup (.cons (.var 1) .nil)) (.cons (.mt false .upper (.var 1) .nil) .nil))))))))))
  (.cons (.ife (.cmp .lt (.bin false .mod (.var 0) (.con (.int 16))) (.con (.int 8)))
  (.cons (.ret (.ix (.var 3) (.bin false .mod (.var 0) (.con (.int 16)))))
  .nil)
  .nil)
  (.cons (.ife (.cmp .eq (.bin false .mod (.var 0) (.con (.int 16))) (.con (.int 15)))
  (.cons (.ret (.bin false .add (.var 1) (.con (.str "\n"))))
  .nil)
  .nil)
  (.cons (.set (.v 4) (.con (.str " !\"#$&'()*+,-./0123456789:;<=>?@ABCDEFGHIJKLMNOPQRSTUVWXYZ[\\]^_`{|}~\t\n")))
  (.cons (.ret (.bin false .add (.bin false .add (.slc false (.var 1) (.con .non) (.var 2)) (.ix (.var 4) (.bin false .mod (.bin false .fdiv (.var 0) (.con (.int 128))) (.con (.int 70))))) (.slc false (.var 1) (.bin false .add (.var 2) (.bi false .int (.cons (.cmp .lt (.bin false .mod (.var 0) (.con (.int 16))) (.con (.int 14))) .nil))) (.con .non))))
  .nil)))))))
def c__law_no_name : Cxx := { glo := [], cal := [{ f := m__law_called, dv := [] }], dis := [], new := [], newk := [], up := [], new0 := [] }
@[simp] theorem cc__law_no_name_0 : c__law_no_name.cal[0]? = some { f := m__law_called, dv := [] } := rfl
def m__law_no_name : Fn := mkFn c__law_no_name 1 5 b__law_no_name
def LET : Str := "abcdefghijklmnopqrstuvwxyz"
theorem let_len : LET.length = 26 := by decide +kernel
theorem let_mem (c : Nat) : (c ∈ LET.cps.toList) ↔ (97 ≤ c ∧ c ≤ 122) := by
  have h : LET.cps.toList = [97, 98, 99, 100, 101, 102, 103, 104, 105, 106, 107, 108, 109, 110, 111, 112, 113, 114, 115, 116, 117, 118, 119, 120, 121, 122] := by decide +kernel
  rw [h]
  simp only [List.mem_cons, List.not_mem_nil, or_false]
  omega
def let1 (c : Nat) : Bool := decide (97 ≤ c ∧ c ≤ 122)
theorem sub_let (c : Nat) : subStr ⟨#[c]⟩ LET = let1 c := by
  unfold subStr let1
  rw [PySem.StrLaws.found_one]
  simp only [let_mem]
def isNm (x : Str) : Bool := decide (1 ≤ x.length ∧ x.length ≤ 8) && x.cps.toList.all let1
/-! ### _law_nth -/
theorem nth_in (L : List Int) (k : Nat) (S : Store) : m__law_nth [.lst (L.map fun i => .d (.int i)), .d (.int k)] S = .ok (.d (.int (L.getD k 0))) S := by
  unfold m__law_nth
  rw [mkFn_eq (by rfl)]
  simp [b__law_nth]
  split
  · rename_i h
    rw [ix_lstT (x := .d (.int L[k])) (by omega) (by simp [h])]
    simp [List.getElem?_eq_getElem h]
  · rename_i h
    rw [List.getElem?_eq_none (by omega)]
    rfl
/-! ### is_name -/
theorem in_let (c : Nat) (S : Store) : inS (.d (.str ⟨#[c]⟩)) (.d (.str (Str.ofString "abcdefghijklmnopqrstuvwxyz"))) S = some (let1 c) := by
  show some (subStr ⟨#[c]⟩ LET) = _
  rw [sub_let]
def isD : D → Bool
  | .str z => let1 (z.cps.getD 0 0)
  | _ => false
theorem nm_str (x : Str) (hx : x.length ≤ 100000) (S : Store) : m_is_name [.d (.str x)] S = .ok (.d (.bl (isNm x))) S := by
  unfold m_is_name
  rw [mkFn_eq (by rfl)]
  have e : ∀ y ∈ x.cps.toList.map fun c => D.str ⟨#[c]⟩, cmpR c_is_name (.v 1) .nil (.cmp .inn (.var 1) (.glo 1)) [some (.d (.str x)), none] y S = .ok (some (.d (.bl (isD y)))) S := by
    intro y hy
    obtain ⟨c, _, rfl⟩ := List.mem_map.mp hy
    unfold cmpR
    simp [asg, clrs, tgv, cmpS, in_let]
    rfl
  have e2 := compL_map e
  have e3 : (x.cps.toList.map fun c => D.str ⟨#[c]⟩).map (fun x => T.d (.bl (isD x))) = (x.cps.toList.map let1).map fun b => .d (.bl b) := by
    rw [List.map_map, List.map_map]
    rfl
  rw [e3] at e2
  have e4 : mkLst false ((x.cps.toList.map let1).map fun b => .d (.bl b)) S = .ok (.d (.lst ((x.cps.toList.map let1).map D.bl))) S := by
    have hz : x.cps.size ≤ 100000 := hx
    simp only [mkLst, unDs_map, mkL]
    rw [if_pos (by simpa using hz)]
    rfl
  simp [b_is_name, isTy, tyS, D.ty, Ty.is, hx, items]
  rw [e2, unexc_ok, bnd_ok]
  rw [e4]
  simp only [bnd_ok, bi_all, bBools, Store.rdL, dBls_id]
  unfold isNm
  by_cases h1 : x.length < 1
  · rw [if_pos (by omega), decide_eq_false (by omega)]
    rfl
  · rw [if_neg (by omega)]
    by_cases h2 : 8 < x.length
    · rw [if_pos (by omega), decide_eq_false (by omega)]
      rfl
    · rw [if_neg (by omega), decide_eq_true (by omega)]
      simp
theorem nm_other (d : D) (y : Ty) (S : Store) (h : d.ty = some y) (h2 : y ≠ .str) : m_is_name [.d d] S = .ok (.d (.bl false)) S := by
  unfold m_is_name
  rw [mkFn_eq (by rfl)]
  have ht : tyS (.d d) S = some y := by
    cases d <;> first | exact h | cases h
  have hi : isTy (.d d) S [.str] = some false := by
    unfold isTy
    rw [ht]
    cases y <;> first | rfl | exact absurd rfl h2
  simp [b_is_name, hi]
/-! ### _law_called -/
def ten : List Str := ["a", "b", "c", "ab", "ba", "aa", "self", "abcdefgh", "z", "zz"]
theorem ten_nm : ∀ x ∈ ten, isNm x = true := by decide +kernel
theorem nm_len {x : Str} (h : isNm x = true) : 1 ≤ x.length ∧ x.length ≤ 8 ∧ x.cps.toList.all let1 = true := by
  unfold isNm at h
  simp only [Bool.and_eq_true, decide_eq_true_eq] at h
  exact ⟨h.1.1, h.1.2, h.2⟩
theorem app_len (a b : Str) : (a ++ b).length = a.length + b.length := by
  show (a.cps ++ b.cps).size = _
  rw [Array.size_append]
  rfl
theorem app_list (a b : Str) : (a ++ b).cps.toList = a.cps.toList ++ b.cps.toList := by
  show (a.cps ++ b.cps).toList = _
  simp
theorem let_at (r : Int) : ∃ c, LET.cps.toList[(r % 26).toNat]? = some c ∧ let1 c = true := by
  have hl : LET.cps.toList.length = 26 := by decide +kernel
  have h : (r % 26).toNat < LET.cps.toList.length := by omega
  refine ⟨_, List.getElem?_eq_getElem h, ?_⟩
  have := (let_mem _).mp (List.getElem_mem h)
  exact decide_eq_true this
def stp (p : Int × Str) : Int × Str := (p.1 / 26, ⟨#[LET.cps.toList.getD (p.1 % 26).toNat 0]⟩ ++ p.2)
def stpN : Nat → Int × Str → Int × Str
  | 0, p => p
  | n + 1, p => stp (stpN n p)
def calledF (c : Int) : Str := if c % 2 = 0 then ten.getD (c / 2 % 10).toNat "" else (stpN (1 + c / 2 % 8).toNat (c / 16, "")).2
theorem let_get (r : Int) : LET.cps.toList[(r % 26).toNat]? = some (LET.cps.toList.getD (r % 26).toNat 0) ∧ let1 (LET.cps.toList.getD (r % 26).toNat 0) = true := by
  obtain ⟨c, h1, h2⟩ := let_at r
  rw [List.getD_eq_getElem?_getD, h1]
  exact ⟨rfl, h2⟩
theorem stpN_ok (r : Int) : ∀ n, (stpN n (r, "")).2.length = n ∧ (stpN n (r, "")).2.cps.toList.all let1 = true
  | 0 => ⟨rfl, rfl⟩
  | n + 1 => by
    obtain ⟨h1, h2⟩ := stpN_ok r n
    refine ⟨?_, ?_⟩
    · show (⟨#[_]⟩ ++ (stpN n (r, "")).2 : Str).length = _
      rw [app_len, h1]
      show 1 + n = n + 1
      omega
    · show (⟨#[_]⟩ ++ (stpN n (r, "")).2 : Str).cps.toList.all let1 = true
      rw [app_list, List.all_append, h2]
      simp only [Bool.and_true]
      show (let1 _ && true) = true
      rw [(let_get _).2]
      rfl
theorem called_nm (c : Int) : isNm (calledF c) = true := by
  unfold calledF
  split
  · have hl : (c / 2 % 10).toNat < ten.length := by
      have : ten.length = 10 := rfl
      omega
    rw [List.getD_eq_getElem?_getD, List.getElem?_eq_getElem hl]
    exact ten_nm _ (List.getElem_mem hl)
  · obtain ⟨h1, h2⟩ := stpN_ok (c / 16) (1 + c / 2 % 8).toNat
    unfold isNm
    rw [h1, h2, Bool.and_true]
    exact decide_eq_true (by omega)
theorem called (c : Int) (S : Store) : m__law_called [.d (.int c)] S = .ok (.d (.str (calledF c))) S := by
  unfold m__law_called
  rw [mkFn_eq (by rfl)]
  by_cases h : c % 2 = 0
  · have hl : (c / 2 % 10).toNat < ten.length := by
      have : ten.length = 10 := rfl
      omega
    have e : (ten.map D.str)[(c / 2 % 10).toNat]? = some (.str (calledF c)) := by
      unfold calledF
      rw [if_pos h, List.getElem?_map, List.getElem?_eq_getElem hl, List.getD_eq_getElem?_getD, List.getElem?_eq_getElem hl]
      rfl
    have e2 : ten.map D.str = [.str "a", .str "b", .str "c", .str "ab", .str "ba", .str "aa", .str "self", .str "abcdefgh", .str "z", .str "zz"] := rfl
    rw [e2] at e
    simp [b__law_called, h, mkLst, unDs, mkL]
    rw [ix_lst (by omega) e]
    simp
  · have hn : small62 (1 + c / 2 % 8) = true := by
      unfold small62
      exact decide_eq_true (by omega)
    obtain ⟨σ', S', e, rfl, z, rfl⟩ := forL_inv (f := forR c__law_called S.loc.length (.v 3) (.cons (.set (.v 2) (.bin false .add (.ix (.con (.str "abcdefghijklmnopqrstuvwxyz")) (.bin false .mod (.var 1) (.con (.int 26)))) (.var 2)))
  (.cons (.set (.v 1) (.bin false .fdiv (.var 1) (.con (.int 26))))
  .nil))) (fun k σ' S' => S' = S ∧ ∃ z, σ' = [some (.d (.int c)), some (.d (.int (stpN k (c / 16, "")).1)), some (.d (.str (stpN k (c / 16, "")).2)), z])
      (xs := rngL 0 (1 + c / 2 % 8).toNat) (k := 0) (σ := [some (.d (.int c)), some (.d (.int (c / 16))), some (.d (.str "")), none]) (S := S) ⟨rfl, _, rfl⟩ (by
        rintro i x σ S1 hx ⟨rfl, z, rfl⟩
        have hi : i < 8 := by
          have := (List.getElem?_eq_some_iff.mp hx).1
          simp [rngL] at this
          omega
        rw [Nat.zero_add]
        obtain ⟨h1, h2⟩ := let_get (stpN i (c / 16, "")).1
        obtain ⟨l1, l2⟩ := stpN_ok (c / 16) i
        refine ⟨_, _, .inl ?_, rfl, some (.d x), rfl⟩
        · unfold forR
          simp [asg]
          rw [show Str.ofString "abcdefghijklmnopqrstuvwxyz" = LET from rfl, ix_str (by rw [let_len]; omega) (by omega) h1]
          have hz : (⟨#[LET.cps.toList.getD ((stpN i (c / 16, "")).1 % 26).toNat 0]⟩ ++ (stpN i (c / 16, "")).2 : Str).length ≤ 100000 := by
            rw [app_len]
            show 1 + (stpN i (c / 16, "")).2.length ≤ _
            omega
          simp [mkS, stpN, stp]
          simpa using hz)
    have hc : calledF c = (stpN (1 + c / 2 % 8).toNat (c / 16, "")).2 := by unfold calledF; rw [if_neg h]
    have hl : (rngL 0 (1 + c / 2 % 8).toNat).length = (1 + c / 2 % 8).toNat := by simp [rngL]
    rw [Nat.zero_add, hl] at e
    simp [b__law_called, h, asg, rngS, hn]
    rw [e, hc]
    simp
/-! ### _law_no_name -/
inductive Good : D → Bool → Prop where
  | str (x : Str) (h : x.length ≤ 100) : Good (.str x) (isNm x)
  | other (d : D) (y : Ty) (h : d.ty = some y) (h2 : y ≠ .str) (h3 : d.ly 11 = true) : Good d false
theorem mkS_ok {x : Str} {S : Store} (h : x.length ≤ 100000) : mkS x S = .ok (.d (.str x)) S := if_pos h
theorem slc_str {x : Str} {a b : Option Int} {S : Store} (h : x.length ≤ 100000) : slcS false (.d (.str x)) a b S = .ok (.d (.str ⟨(cut x.cps.toList a b).toArray⟩)) S := by
  simp [slcS, Store.rd, h]
theorem cut_len {α : Type} (xs : List α) (a b : Option Int) : (cut xs a b).length ≤ xs.length := by
  unfold cut
  rw [List.length_take, List.length_drop]
  omega
theorem mk_len (l : List Nat) : (⟨l.toArray⟩ : Str).length = l.length := by
  show l.toArray.size = _
  simp
theorem one_len (s : Nat) : (⟨#[s]⟩ : Str).length = 1 := rfl
theorem mk_list (l : List Nat) : (⟨l.toArray⟩ : Str).cps.toList = l := by simp
theorem cut_all {l : List Nat} {p : Nat → Bool} (h : l.all p = true) (a b : Option Int) : (cut l a b).all p = true := by
  rw [List.all_eq_true] at h ⊢
  intro x hx
  unfold cut at hx
  exact h x (List.mem_of_mem_drop (List.mem_of_mem_take hx))
theorem nm_bad {y : Str} {c : Nat} (h : c ∈ y.cps.toList) (h2 : let1 c = false) : isNm y = false := by
  unfold isNm
  have : y.cps.toList.all let1 = false := by
    rw [List.all_eq_false]
    exact ⟨c, h, by rw [h2]; decide⟩
  rw [this, Bool.and_false]
theorem nm_upper {x : Str} (h : isNm x = true) : isNm (Txt.upper x) = false ∧ (Txt.upper x).length = x.length := by
  obtain ⟨n1, n2, n3⟩ := nm_len h
  rw [List.all_eq_true] at n3
  have hA : ∀ c ∈ x.cps.toList, c < 128 := fun c hc => by
    have := of_decide_eq_true (show decide (97 ≤ c ∧ c ≤ 122) = true from n3 c hc)
    omega
  rw [PyProof.Rows.upper_ascii hA]
  have hl : (⟨x.cps.map PyProof.Rows.up1⟩ : Str).cps.toList = x.cps.toList.map PyProof.Rows.up1 := by simp
  refine ⟨?_, by show (x.cps.map _).size = x.cps.size; simp⟩
  cases e : x.cps.toList with
  | nil =>
    have : x.length = 0 := by
      show x.cps.size = 0
      rw [← Array.length_toList, e]
      rfl
    omega
  | cons c r =>
    have hc := of_decide_eq_true (show decide (97 ≤ c ∧ c ≤ 122) = true from n3 c (by rw [e]; exact List.mem_cons_self))
    refine nm_bad (c := PyProof.Rows.up1 c) (by rw [hl, e]; exact List.mem_map_of_mem List.mem_cons_self) ?_
    unfold PyProof.Rows.up1 let1
    rw [if_pos hc]
    exact decide_eq_false (by omega)
theorem good_name {d : D} {b : Bool} (h : Good d b) (S : Store) : m_is_name [.d d] S = .ok (.d (.bl b)) S := by
  cases h with
  | str x hx => exact nm_str x (by omega) S
  | other _ y h1 h2 _ => exact nm_other d y S h1 h2
def SG : Str := " !\"#$&'()*+,-./0123456789:;<=>?@ABCDEFGHIJKLMNOPQRSTUVWXYZ[\\]^_`{|}~\t\n"
theorem sg_at {k : Nat} (h : k < 70) : ∃ c, SG.cps.toList[k]? = some c ∧ let1 c = false := by
  have hl : SG.cps.toList.length = 70 := by decide +kernel
  have hk : k < SG.cps.toList.length := by omega
  have ha : ∀ c ∈ SG.cps.toList, let1 c = false := by decide +kernel
  exact ⟨_, List.getElem?_eq_getElem hk, ha _ (List.getElem_mem hk)⟩
theorem odd_no (x : Str) (hx : isNm x = true) (k : Nat) (hk : k < 8) :
    ∃ d, Good d false ∧ [D.str "", .str (x ++ "abcdefgh"), .non, .int 7, .bl true, .lst [.str x], .tup [.str x], .str (Txt.upper x)][k]? = some d := by
  obtain ⟨n1, n2, n3⟩ := nm_len hx
  have hh : k = 0 ∨ k = 1 ∨ k = 2 ∨ k = 3 ∨ k = 4 ∨ k = 5 ∨ k = 6 ∨ k = 7 := by omega
  have le : (Str.ofString "abcdefgh").length = 8 := by decide +kernel
  rcases hh with rfl | rfl | rfl | rfl | rfl | rfl | rfl | rfl
  · exact ⟨.str "", .str "" (by decide), rfl⟩
  · have hf : isNm (x ++ "abcdefgh") = false := by
      unfold isNm
      rw [app_len]
      have : decide (1 ≤ x.length + (Str.ofString "abcdefgh").length ∧ x.length + (Str.ofString "abcdefgh").length ≤ 8) = false := decide_eq_false (by omega)
      rw [this]
      rfl
    have g := Good.str (x ++ "abcdefgh") (by rw [app_len]; omega)
    rw [hf] at g
    exact ⟨_, g, rfl⟩
  · exact ⟨.non, .other .non .non rfl (by decide) (by simp [D.ly]), rfl⟩
  · exact ⟨.int 7, .other _ .int rfl (by decide) (by simp [D.ly]), rfl⟩
  · exact ⟨.bl _, .other _ .bool rfl (by decide) (by simp [D.ly]), rfl⟩
  · exact ⟨.lst _, .other _ .lst rfl (by decide) (by simp [D.ly]), rfl⟩
  · exact ⟨.tup _, .other _ .tup rfl (by decide) (by simp [D.ly]), rfl⟩
  · obtain ⟨u1, u2⟩ := nm_upper hx
    have g := Good.str (Txt.upper x) (by omega)
    rw [u1] at g
    exact ⟨_, g, rfl⟩
theorem no_name (c : Int) : ∃ d, Good d false ∧ ∀ S, m__law_no_name [.d (.int c)] S = .ok (.d d) S := by
  have hx := called_nm (c / 8960)
  obtain ⟨n1, n2, n3⟩ := nm_len hx
  have hc : ∀ S, m__law_called [.d (.int (c / 8960))] S = .ok (.d (.str (calledF (c / 8960)))) S := fun S => called _ S
  generalize calledF (c / 8960) = x at hx n1 n2 n3 hc
  have hx0 : x.length ≤ 100000 := by omega
  have hl0 : 0 < x.length := by omega
  have le : (Str.ofString "abcdefgh").length = 8 := by decide +kernel
  have l8 : (x ++ Str.ofString "abcdefgh").length ≤ 100000 := by rw [app_len]; omega
  obtain ⟨u1, u2⟩ := nm_upper hx
  have ty : ∀ S, tyS (.d (.str x)) S = some .str := fun _ => rfl
  have up : ∀ S, mtS false .upper (.d (.str x)) [] S = .ok (.d (.str (Txt.upper x))) S := fun S => by
    show mUpper (.d (.str x)) [] S = _
    simp [mUpper, hx0]
  by_cases h1 : c % 16 < 8
  · obtain ⟨d, hg, hd⟩ := odd_no x hx (c % 16).toNat (by omega)
    refine ⟨d, hg, fun S => ?_⟩
    unfold m__law_no_name
    rw [mkFn_eq (by rfl)]
    simp [b__law_no_name, hc, hx0, hl0, mkS_ok l8, ty, Mt.on, up, mkLst, unDs, mkL, mkTup, h1]
    rw [ix_lst (by omega) hd]
    simp
  · by_cases h2 : c % 16 = 15
    · have l1 : (x ++ Str.ofString "\n").length ≤ 100 := by
        rw [app_len]
        have : (Str.ofString "\n").length = 1 := by decide +kernel
        omega
      refine ⟨.str (x ++ "\n"), ?_, fun S => ?_⟩
      · have g := Good.str (x ++ Str.ofString "\n") l1
        rw [nm_bad (c := 10) (by rw [app_list]; exact List.mem_append_right _ (by decide +kernel)) (by decide)] at g
        exact g
      · unfold m__law_no_name
        rw [mkFn_eq (by rfl)]
        simp [b__law_no_name, hc, hx0, hl0, mkS_ok l8, ty, Mt.on, up, mkLst, unDs, mkL, mkTup, h1, h2]
        rw [mkS_ok (by omega)]
        simp
    · obtain ⟨s, hs, hs2⟩ := sg_at (k := (c / 128 % 70).toNat) (by omega)
      have sgl : SG.length = 70 := by decide +kernel
      have xl : x.cps.toList.length = x.length := by simp [Str.length]
      have c1 : ∀ a b, (⟨(cut x.cps.toList a b).toArray⟩ : Str).length ≤ 8 := fun a b => by
        rw [mk_len]
        exact Nat.le_trans (cut_len _ _ _) (by rw [xl]; exact n2)
      refine ⟨.str (⟨(cut x.cps.toList none (some (c / 16 % 8 % x.length))).toArray⟩ ++ ⟨#[s]⟩ ++ ⟨(cut x.cps.toList (some (c / 16 % 8 % x.length + (if c % 16 < 14 then 1 else 0))) none).toArray⟩), ?_, fun S => ?_⟩
      · have e : isNm (⟨(cut x.cps.toList none (some (c / 16 % 8 % x.length))).toArray⟩ ++ ⟨#[s]⟩ ++ ⟨(cut x.cps.toList (some (c / 16 % 8 % x.length + (if c % 16 < 14 then 1 else 0))) none).toArray⟩) = false := by
          refine nm_bad (c := s) ?_ hs2
          rw [app_list, app_list]
          simp
        rw [← e]
        have := c1 none (some (c / 16 % 8 % x.length))
        have := c1 (some (c / 16 % 8 % x.length + (if c % 16 < 14 then 1 else 0))) none
        refine .str _ ?_
        rw [app_len, app_len, one_len]
        omega
      · unfold m__law_no_name
        rw [mkFn_eq (by rfl)]
        have i1 : ixS (.d (.str SG)) (.d (.int (c / 128 % 70))) S = .ok (.d (.str ⟨#[s]⟩)) S := ix_str (by omega) (by omega) hs
        have i2 : ixS (.d (.str (Str.ofString " !\"#$&'()*+,-./0123456789:;<=>?@ABCDEFGHIJKLMNOPQRSTUVWXYZ[\\]^_`{|}~\t\n"))) (.d (.int (c / 128 % 70))) S = .ok (.d (.str ⟨#[s]⟩)) S := i1
        have z1 := c1 none (some (c / 16 % 8 % x.length))
        have z2 := c1 (some (c / 16 % 8 % x.length + (if c % 16 < 14 then 1 else 0))) none
        simp [b__law_no_name, hc, hx0, hl0, mkS_ok l8, ty, Mt.on, up, mkLst, unDs, mkL, mkTup, h1, h2, i2, E.isNon, ofI, slc_str hx0, bInt]
        rw [mkS_ok (by rw [app_len, one_len]; omega)]
        simp
        rw [mkS_ok (by rw [app_len, app_len, one_len]; omega)]
        simp
end MnC
set_option Elab.async false
set_option linter.all false
set_option maxRecDepth 100000
/-! MnP: what many laws say alike: parameters. -/
namespace MnP
open PySem Mn MnC
def b_Seat_word : Ss :=
  (.cons (.ret (.con (.str "seat")))
  .nil)
def c_Seat_word : Cxx := { glo := [], cal := [], dis := [], new := [], newk := [], up := [], new0 := [] }
def m_Seat_word : Fn := mkFn c_Seat_word 1 1 b_Seat_word
def b_Both_word : Ss :=
  (.cons (.ret (.con (.str "both")))
  .nil)
def c_Both_word : Cxx := { glo := [], cal := [], dis := [], new := [], newk := [], up := [], new0 := [] }
def m_Both_word : Fn := mkFn c_Both_word 1 1 b_Both_word
def b_Tail_word : Ss :=
  (.cons (.ret (.con (.str "tail")))
  .nil)
def c_Tail_word : Cxx := { glo := [], cal := [], dis := [], new := [], newk := [], up := [], new0 := [] }
def m_Tail_word : Fn := mkFn c_Tail_word 1 1 b_Tail_word
def b_Tag_word : Ss :=
  (.cons (.ret (.con (.str "tag")))
  .nil)
def c_Tag_word : Cxx := { glo := [], cal := [], dis := [], new := [], newk := [], up := [], new0 := [] }
def m_Tag_word : Fn := mkFn c_Tag_word 1 1 b_Tag_word
def b_Bag_word : Ss :=
  (.cons (.ret (.con (.str "bag")))
  .nil)
def c_Bag_word : Cxx := { glo := [], cal := [], dis := [], new := [], newk := [], up := [], new0 := [] }
def m_Bag_word : Fn := mkFn c_Bag_word 1 1 b_Bag_word
def b_Single_told : Ss :=
  (.cons (.ret (.tup (.cons (.meth 0 (.var 0) .nil) (.cons (.attr (.var 0) 0) (.cons (.attr (.var 0) 1) .nil)))))
  .nil)
def c_Single_told : Cxx := { glo := [], cal := [], dis := [[(2, { f := m_Seat_word, dv := [] }), (3, { f := m_Both_word, dv := [] }), (4, { f := m_Tail_word, dv := [] }), (5, { f := m_Tag_word, dv := [] }), (6, { f := m_Bag_word, dv := [] })]], new := [], newk := [], up := [], new0 := [] }
@[simp] theorem cd_Single_told_0_Seat : c_Single_told.find 0 2 = some { f := m_Seat_word, dv := [] } := rfl
@[simp] theorem cd_Single_told_0_Both : c_Single_told.find 0 3 = some { f := m_Both_word, dv := [] } := rfl
@[simp] theorem cd_Single_told_0_Tail : c_Single_told.find 0 4 = some { f := m_Tail_word, dv := [] } := rfl
@[simp] theorem cd_Single_told_0_Tag : c_Single_told.find 0 5 = some { f := m_Tag_word, dv := [] } := rfl
@[simp] theorem cd_Single_told_0_Bag : c_Single_told.find 0 6 = some { f := m_Bag_word, dv := [] } := rfl
def m_Single_told : Fn := mkFn c_Single_told 1 1 b_Single_told
def b_Parameter_told : Ss :=
  (.cons (.ret (.tup (.cons (.meth 0 (.var 0) .nil) (.cons (.attr (.var 0) 0) .nil))))
  .nil)
def c_Parameter_told : Cxx := { glo := [], cal := [], dis := [[(2, { f := m_Seat_word, dv := [] }), (3, { f := m_Both_word, dv := [] }), (4, { f := m_Tail_word, dv := [] }), (5, { f := m_Tag_word, dv := [] }), (6, { f := m_Bag_word, dv := [] })]], new := [], newk := [], up := [], new0 := [] }
@[simp] theorem cd_Parameter_told_0_Seat : c_Parameter_told.find 0 2 = some { f := m_Seat_word, dv := [] } := rfl
@[simp] theorem cd_Parameter_told_0_Both : c_Parameter_told.find 0 3 = some { f := m_Both_word, dv := [] } := rfl
@[simp] theorem cd_Parameter_told_0_Tail : c_Parameter_told.find 0 4 = some { f := m_Tail_word, dv := [] } := rfl
@[simp] theorem cd_Parameter_told_0_Tag : c_Parameter_told.find 0 5 = some { f := m_Tag_word, dv := [] } := rfl
@[simp] theorem cd_Parameter_told_0_Bag : c_Parameter_told.find 0 6 = some { f := m_Bag_word, dv := [] } := rfl
def m_Parameter_told : Fn := mkFn c_Parameter_told 1 1 b_Parameter_told
def b_Parameter_by_name : Ss :=
  (.cons (.ret (.con (.bl false)))
  .nil)
def c_Parameter_by_name : Cxx := { glo := [], cal := [], dis := [], new := [], newk := [], up := [], new0 := [] }
def m_Parameter_by_name : Fn := mkFn c_Parameter_by_name 1 1 b_Parameter_by_name
def b_Both_by_name : Ss :=
  (.cons (.ret (.con (.bl true)))
  .nil)
def c_Both_by_name : Cxx := { glo := [], cal := [], dis := [], new := [], newk := [], up := [], new0 := [] }
def m_Both_by_name : Fn := mkFn c_Both_by_name 1 1 b_Both_by_name
def b_Tag_by_name : Ss :=
  (.cons (.ret (.con (.bl true)))
  .nil)
def c_Tag_by_name : Cxx := { glo := [], cal := [], dis := [], new := [], newk := [], up := [], new0 := [] }
def m_Tag_by_name : Fn := mkFn c_Tag_by_name 1 1 b_Tag_by_name
def b_Seat_by_place : Ss :=
  (.cons (.ret (.con (.bl true)))
  .nil)
def c_Seat_by_place : Cxx := { glo := [], cal := [], dis := [], new := [], newk := [], up := [], new0 := [] }
def m_Seat_by_place : Fn := mkFn c_Seat_by_place 1 1 b_Seat_by_place
def b_Both_by_place : Ss :=
  (.cons (.ret (.con (.bl true)))
  .nil)
def c_Both_by_place : Cxx := { glo := [], cal := [], dis := [], new := [], newk := [], up := [], new0 := [] }
def m_Both_by_place : Fn := mkFn c_Both_by_place 1 1 b_Both_by_place
def b_Parameter_by_place : Ss :=
  (.cons (.ret (.con (.bl false)))
  .nil)
def c_Parameter_by_place : Cxx := { glo := [], cal := [], dis := [], new := [], newk := [], up := [], new0 := [] }
def m_Parameter_by_place : Fn := mkFn c_Parameter_by_place 1 1 b_Parameter_by_place
def b_Single_free : Ss :=
  (.cons (.ret (.attr (.var 0) 1))
  .nil)
def c_Single_free : Cxx := { glo := [], cal := [], dis := [], new := [], newk := [], up := [], new0 := [] }
def m_Single_free : Fn := mkFn c_Single_free 1 1 b_Single_free
def b_Parameter_free : Ss :=
  (.cons (.ret (.con (.bl true)))
  .nil)
def c_Parameter_free : Cxx := { glo := [], cal := [], dis := [], new := [], newk := [], up := [], new0 := [] }
def m_Parameter_free : Fn := mkFn c_Parameter_free 1 1 b_Parameter_free
def b_ParameterU__initU_ : Ss :=
  (.cons (.ife (.not (.call 0 (.cons (.var 1) .nil)))
  (.cons (.rai 41 .nil)
  .nil)
  .nil)
  (.cons (.setA (.var 0) 0 (.var 1))
  .nil))
def c_ParameterU__initU_ : Cxx := { glo := [], cal := [{ f := MnC.m_is_name, dv := [] }], dis := [], new := [], newk := [], up := [], new0 := [] }
@[simp] theorem cc_ParameterU__initU__0 : c_ParameterU__initU_.cal[0]? = some { f := MnC.m_is_name, dv := [] } := rfl
def m_ParameterU__initU_ : Fn := mkFn c_ParameterU__initU_ 2 2 b_ParameterU__initU_
def b_SingleU__initU_ : Ss :=
  (.cons (.expr (.up 0 (.cons (.var 0) (.cons (.var 1) .nil))))
  (.cons (.setA (.var 0) 1 (.var 2))
  .nil))
def c_SingleU__initU_ : Cxx := { glo := [], cal := [], dis := [], new := [], newk := [], up := [{ f := m_ParameterU__initU_, dv := [] }], new0 := [] }
@[simp] theorem cu_SingleU__initU__0 : c_SingleU__initU_.up[0]? = some { f := m_ParameterU__initU_, dv := [] } := rfl
def m_SingleU__initU_ : Fn := mkFn c_SingleU__initU_ 3 3 b_SingleU__initU_
def b_Parameter_group : Ss :=
  (.cons (.ret (.con (.int 0)))
  .nil)
def c_Parameter_group : Cxx := { glo := [], cal := [], dis := [], new := [], newk := [], up := [], new0 := [] }
def m_Parameter_group : Fn := mkFn c_Parameter_group 1 1 b_Parameter_group
def b_Tail_group : Ss :=
  (.cons (.ret (.con (.int 1)))
  .nil)
def c_Tail_group : Cxx := { glo := [], cal := [], dis := [], new := [], newk := [], up := [], new0 := [] }
def m_Tail_group : Fn := mkFn c_Tail_group 1 1 b_Tail_group
def b_Tag_group : Ss :=
  (.cons (.ret (.con (.int 2)))
  .nil)
def c_Tag_group : Cxx := { glo := [], cal := [], dis := [], new := [], newk := [], up := [], new0 := [] }
def m_Tag_group : Fn := mkFn c_Tag_group 1 1 b_Tag_group
def b_Bag_group : Ss :=
  (.cons (.ret (.con (.int 3)))
  .nil)
def c_Bag_group : Cxx := { glo := [], cal := [], dis := [], new := [], newk := [], up := [], new0 := [] }
def m_Bag_group : Fn := mkFn c_Bag_group 1 1 b_Bag_group
/-! ### a parameter -/
inductive Pm where
  | seat (x : Str) (f : Bool) | both (x : Str) (f : Bool) | tail (x : Str) | tag (x : Str) (f : Bool) | bag (x : Str)
  deriving DecidableEq
def Pm.name : Pm → Str
  | .seat x _ => x
  | .both x _ => x
  | .tail x => x
  | .tag x _ => x
  | .bag x => x
def Pm.free : Pm → Bool
  | .seat _ f => f
  | .both _ f => f
  | .tail _ => true
  | .tag _ f => f
  | .bag _ => true
def Pm.byPlace : Pm → Bool
  | .seat _ _ => true
  | .both _ _ => true
  | _ => false
def Pm.byName : Pm → Bool
  | .both _ _ => true
  | .tag _ _ => true
  | _ => false
def Pm.group : Pm → Nat
  | .seat _ _ => 0
  | .both _ _ => 0
  | .tail _ => 1
  | .tag _ _ => 2
  | .bag _ => 3
def Pm.cls : Pm → Nat
  | .seat _ _ => 2
  | .both _ _ => 3
  | .tail _ => 4
  | .tag _ _ => 5
  | .bag _ => 6
def Pm.word : Pm → Str
  | .seat _ _ => "seat"
  | .both _ _ => "both"
  | .tail _ => "tail"
  | .tag _ _ => "tag"
  | .bag _ => "bag"
def Pm.flds : Pm → List D
  | .seat x f => [.str x, .bl f]
  | .both x f => [.str x, .bl f]
  | .tail x => [.str x]
  | .tag x f => [.str x, .bl f]
  | .bag x => [.str x]
def Pm.obj (p : Pm) : D := .obj p.cls p.flds
def Pm.told (p : Pm) : D := .tup (.str p.word :: p.flds)
theorem word_seat (o : T) (S : Store) : m_Seat_word [o] S = .ok (.d (.str "seat")) S := by
  unfold m_Seat_word
  rw [mkFn_eq (by rfl)]
  simp [b_Seat_word]
theorem word_both (o : T) (S : Store) : m_Both_word [o] S = .ok (.d (.str "both")) S := by
  unfold m_Both_word
  rw [mkFn_eq (by rfl)]
  simp [b_Both_word]
theorem word_tail (o : T) (S : Store) : m_Tail_word [o] S = .ok (.d (.str "tail")) S := by
  unfold m_Tail_word
  rw [mkFn_eq (by rfl)]
  simp [b_Tail_word]
theorem word_tag (o : T) (S : Store) : m_Tag_word [o] S = .ok (.d (.str "tag")) S := by
  unfold m_Tag_word
  rw [mkFn_eq (by rfl)]
  simp [b_Tag_word]
theorem word_bag (o : T) (S : Store) : m_Bag_word [o] S = .ok (.d (.str "bag")) S := by
  unfold m_Bag_word
  rw [mkFn_eq (by rfl)]
  simp [b_Bag_word]
theorem told_seat (x : Str) (f : Bool) (S : Store) : m_Single_told [.d (.obj 2 [.str x, .bl f])] S = .ok (.d (Pm.seat x f).told) S := by
  unfold m_Single_told
  rw [mkFn_eq (by rfl)]
  simp [b_Single_told, clsOf, word_seat, attrS, flds, List.lookup, mkTup, unDs, Pm.told, Pm.flds, Pm.word]
theorem told_both (x : Str) (f : Bool) (S : Store) : m_Single_told [.d (.obj 3 [.str x, .bl f])] S = .ok (.d (Pm.both x f).told) S := by
  unfold m_Single_told
  rw [mkFn_eq (by rfl)]
  simp [b_Single_told, clsOf, word_both, attrS, flds, List.lookup, mkTup, unDs, Pm.told, Pm.flds, Pm.word]
theorem told_tag (x : Str) (f : Bool) (S : Store) : m_Single_told [.d (.obj 5 [.str x, .bl f])] S = .ok (.d (Pm.tag x f).told) S := by
  unfold m_Single_told
  rw [mkFn_eq (by rfl)]
  simp [b_Single_told, clsOf, word_tag, attrS, flds, List.lookup, mkTup, unDs, Pm.told, Pm.flds, Pm.word]
theorem told_tail (x : Str) (S : Store) : m_Parameter_told [.d (.obj 4 [.str x])] S = .ok (.d (Pm.tail x).told) S := by
  unfold m_Parameter_told
  rw [mkFn_eq (by rfl)]
  simp [b_Parameter_told, clsOf, word_tail, attrS, flds, List.lookup, mkTup, unDs, Pm.told, Pm.flds, Pm.word]
theorem told_bag (x : Str) (S : Store) : m_Parameter_told [.d (.obj 6 [.str x])] S = .ok (.d (Pm.bag x).told) S := by
  unfold m_Parameter_told
  rw [mkFn_eq (by rfl)]
  simp [b_Parameter_told, clsOf, word_bag, attrS, flds, List.lookup, mkTup, unDs, Pm.told, Pm.flds, Pm.word]
theorem byname_no (o : T) (S : Store) : m_Parameter_by_name [o] S = .ok (.d (.bl false)) S := by
  unfold m_Parameter_by_name
  rw [mkFn_eq (by rfl)]
  simp [b_Parameter_by_name]
theorem byname_both (o : T) (S : Store) : m_Both_by_name [o] S = .ok (.d (.bl true)) S := by
  unfold m_Both_by_name
  rw [mkFn_eq (by rfl)]
  simp [b_Both_by_name]
theorem byname_tag (o : T) (S : Store) : m_Tag_by_name [o] S = .ok (.d (.bl true)) S := by
  unfold m_Tag_by_name
  rw [mkFn_eq (by rfl)]
  simp [b_Tag_by_name]
theorem byplace_no (o : T) (S : Store) : m_Parameter_by_place [o] S = .ok (.d (.bl false)) S := by
  unfold m_Parameter_by_place
  rw [mkFn_eq (by rfl)]
  simp [b_Parameter_by_place]
theorem byplace_seat (o : T) (S : Store) : m_Seat_by_place [o] S = .ok (.d (.bl true)) S := by
  unfold m_Seat_by_place
  rw [mkFn_eq (by rfl)]
  simp [b_Seat_by_place]
theorem byplace_both (o : T) (S : Store) : m_Both_by_place [o] S = .ok (.d (.bl true)) S := by
  unfold m_Both_by_place
  rw [mkFn_eq (by rfl)]
  simp [b_Both_by_place]
theorem free_no (o : T) (S : Store) : m_Parameter_free [o] S = .ok (.d (.bl true)) S := by
  unfold m_Parameter_free
  rw [mkFn_eq (by rfl)]
  simp [b_Parameter_free]
theorem free_one (c : Nat) (hc : c = 2 ∨ c = 3 ∨ c = 5) (x : D) (f : Bool) (S : Store) : m_Single_free [.d (.obj c [x, .bl f])] S = .ok (.d (.bl f)) S := by
  unfold m_Single_free
  rw [mkFn_eq (by rfl)]
  rcases hc with rfl | rfl | rfl <;> simp [b_Single_free, attrS, flds, List.lookup]
theorem group_no (o : T) (S : Store) : m_Parameter_group [o] S = .ok (.d (.int 0)) S := by
  unfold m_Parameter_group
  rw [mkFn_eq (by rfl)]
  simp [b_Parameter_group]
theorem group_tail (o : T) (S : Store) : m_Tail_group [o] S = .ok (.d (.int 1)) S := by
  unfold m_Tail_group
  rw [mkFn_eq (by rfl)]
  simp [b_Tail_group]
theorem group_tag (o : T) (S : Store) : m_Tag_group [o] S = .ok (.d (.int 2)) S := by
  unfold m_Tag_group
  rw [mkFn_eq (by rfl)]
  simp [b_Tag_group]
theorem group_bag (o : T) (S : Store) : m_Bag_group [o] S = .ok (.d (.int 3)) S := by
  unfold m_Bag_group
  rw [mkFn_eq (by rfl)]
  simp [b_Bag_group]
/-! ### making one -/
theorem good_nm {x : Str} (h : isNm x = true) : Good (.str x) true := by
  have g := Good.str x (by have := (nm_len h).2.1; omega)
  rw [h] at g
  exact g
theorem init_par (c : Nat) (hc : c = 2 ∨ c = 3 ∨ c = 4 ∨ c = 5 ∨ c = 6) {x : Str} (h : isNm x = true) (S : Store) : m_ParameterU__initU_ [.cell S.loc.length, .d (.str x)] (S.push (.obj c [])) = .ok (.d .non) (S.push (.obj c [.str x])) := by
  have hn := fun S => good_name (good_nm h) S
  unfold m_ParameterU__initU_
  rw [mkFn_eq (by rfl)]
  rcases hc with rfl | rfl | rfl | rfl | rfl <;> simp [b_ParameterU__initU_, hn, setAS, fput, flds]
theorem init_parN (c : Nat) {d : D} (h : Good d false) (S : Store) : m_ParameterU__initU_ [.cell S.loc.length, .d d] (S.push (.obj c [])) = .exc 41 [] (S.push (.obj c [])) := by
  have hn := fun S => good_name h S
  unfold m_ParameterU__initU_
  rw [mkFn_eq (by rfl)]
  simp [b_ParameterU__initU_, hn, unDs]
theorem init_one (c : Nat) (hc : c = 2 ∨ c = 3 ∨ c = 5) {x : Str} (h : isNm x = true) (f : D) (S : Store) : m_SingleU__initU_ [.cell S.loc.length, .d (.str x), .d f] (S.push (.obj c [])) = .ok (.d .non) (S.push (.obj c [.str x, f])) := by
  have hn := init_par c (by omega) h S
  unfold m_SingleU__initU_
  rw [mkFn_eq (by rfl)]
  rcases hc with rfl | rfl | rfl <;> simp [b_SingleU__initU_, hn, setAS, fput, flds]
theorem init_oneN (c : Nat) {d : D} (h : Good d false) (f : D) (S : Store) : m_SingleU__initU_ [.cell S.loc.length, .d d, .d f] (S.push (.obj c [])) = .exc 41 [] (S.push (.obj c [])) := by
  have hn := init_parN c h S
  unfold m_SingleU__initU_
  rw [mkFn_eq (by rfl)]
  simp [b_SingleU__initU_, hn]
theorem new_par (c : Nat) (hc : c = 4 ∨ c = 6) {x : Str} (h : isNm x = true) (S : Store) : newS 0 c { f := m_ParameterU__initU_, dv := [] } [.d (.str x)] S = .ok (.d (.obj c [.str x])) S := new_ok (init_par c (by omega) h S)
theorem new_parN (c : Nat) {d : D} (h : Good d false) (S : Store) : newS 0 c { f := m_ParameterU__initU_, dv := [] } [.d d] S = .exc 41 [] S := new_exc (init_parN c h S) push_trunc
theorem new_one (c : Nat) (hc : c = 2 ∨ c = 3 ∨ c = 5) {x : Str} (h : isNm x = true) (f : D) (S : Store) : newS 0 c { f := m_SingleU__initU_, dv := [] } [.d (.str x), .d f] S = .ok (.d (.obj c [.str x, f])) S := new_ok (init_one c hc h f S)
theorem new_oneD (c : Nat) (hc : c = 2 ∨ c = 3 ∨ c = 5) {x : Str} (h : isNm x = true) (f : D) (S : Store) : newS 0 c { f := m_SingleU__initU_, dv := [f] } [.d (.str x)] S = .ok (.d (.obj c [.str x, f])) S := new_ok (init_one c hc h f S)
theorem new_oneN (c : Nat) {d : D} (h : Good d false) (f : D) (S : Store) : newS 0 c { f := m_SingleU__initU_, dv := [] } [.d d, .d f] S = .exc 41 [] S := new_exc (init_oneN c h f S) push_trunc
theorem new_oneDN (c : Nat) {d : D} (h : Good d false) (f : D) (S : Store) : newS 0 c { f := m_SingleU__initU_, dv := [f] } [.d d] S = .exc 41 [] S := new_exc (init_oneN c h f S) push_trunc
end MnP
set_option Elab.async false
set_option linter.all false
set_option maxRecDepth 100000
set_option maxHeartbeats 0
/-! MnF: what many laws say alike: forms. -/
namespace MnF
open PySem Mn MnC MnP
open L2 (Key)
def b_Form_told : Ss :=
  (.cons (.ret (.tup (.cons (.comp false (.v 1) (.seq (.attr (.var 0) 2)) .nil (.meth 0 (.var 1) .nil)) (.cons (.bi false .list (.cons (.attr (.var 0) 3) .nil)) .nil))))
  .nil)
def c_Form_told : Cxx := { glo := [], cal := [], dis := [[(2, { f := MnP.m_Single_told, dv := [] }), (3, { f := MnP.m_Single_told, dv := [] }), (4, { f := MnP.m_Parameter_told, dv := [] }), (5, { f := MnP.m_Single_told, dv := [] }), (6, { f := MnP.m_Parameter_told, dv := [] })]], new := [], newk := [], up := [], new0 := [] }
@[simp] theorem cd_Form_told_0_Seat : c_Form_told.find 0 2 = some { f := MnP.m_Single_told, dv := [] } := rfl
@[simp] theorem cd_Form_told_0_Both : c_Form_told.find 0 3 = some { f := MnP.m_Single_told, dv := [] } := rfl
@[simp] theorem cd_Form_told_0_Tail : c_Form_told.find 0 4 = some { f := MnP.m_Parameter_told, dv := [] } := rfl
@[simp] theorem cd_Form_told_0_Tag : c_Form_told.find 0 5 = some { f := MnP.m_Single_told, dv := [] } := rfl
@[simp] theorem cd_Form_told_0_Bag : c_Form_told.find 0 6 = some { f := MnP.m_Parameter_told, dv := [] } := rfl
def m_Form_told : Fn := mkFn c_Form_told 1 2 b_Form_told
def b_check_order : Ss :=
  (.cons (.set (.v 1) (.con (.int 0)))
  (.cons (.for (.t (.cons (.v 2) (.cons (.v 3) .nil))) (.enum (.var 0))
  (.cons (.set (.v 4) (.meth 0 (.var 3) .nil))
  (.cons (.ife (.or (.cons (.cmp .lt (.var 4) (.var 1)) (.cons (.and (.cons (.cmp .eq (.var 4) (.var 1)) (.cons (.cmp .inn (.var 4) (.glo 0)) .nil))) .nil)))
  (.cons (.rai 43 (.cons (.var 2) .nil))
  .nil)
  .nil)
  (.cons (.set (.v 1) (.var 4))
  .nil))))
  .nil))
def c_check_order : Cxx := { glo := [(D.tup [(.int 1), (.int 3)])], cal := [], dis := [[(2, { f := MnP.m_Parameter_group, dv := [] }), (3, { f := MnP.m_Parameter_group, dv := [] }), (4, { f := MnP.m_Tail_group, dv := [] }), (5, { f := MnP.m_Tag_group, dv := [] }), (6, { f := MnP.m_Bag_group, dv := [] })]], new := [], newk := [], up := [], new0 := [] }
@[simp] theorem cg_check_order_0 : c_check_order.glo[0]? = some (D.tup [(.int 1), (.int 3)]) := rfl
@[simp] theorem cd_check_order_0_Seat : c_check_order.find 0 2 = some { f := MnP.m_Parameter_group, dv := [] } := rfl
@[simp] theorem cd_check_order_0_Both : c_check_order.find 0 3 = some { f := MnP.m_Parameter_group, dv := [] } := rfl
@[simp] theorem cd_check_order_0_Tail : c_check_order.find 0 4 = some { f := MnP.m_Tail_group, dv := [] } := rfl
@[simp] theorem cd_check_order_0_Tag : c_check_order.find 0 5 = some { f := MnP.m_Tag_group, dv := [] } := rfl
@[simp] theorem cd_check_order_0_Bag : c_check_order.find 0 6 = some { f := MnP.m_Bag_group, dv := [] } := rfl
def m_check_order : Fn := mkFn c_check_order 1 5 b_check_order
def b_check_names : Ss :=
  (.cons (.for (.v 2) (.seq (.var 1))
  (.cons (.ife (.not (.call 0 (.cons (.var 2) .nil)))
  (.cons (.rai 41 .nil)
  .nil)
  .nil)
  .nil))
  (.cons (.set (.v 3) (.dct true .nil))
  (.cons (.for (.v 2) (.seq (.bin false .add (.comp false (.v 4) (.seq (.var 0)) (.cons (.meth 0 (.var 4) .nil) .nil) (.attr (.var 4) 0)) (.var 1)))
  (.cons (.ife (.cmp .inn (.var 2) (.var 3))
  (.cons (.rai 44 (.cons (.var 2) .nil))
  .nil)
  .nil)
  (.cons (.setI (.var 3) (.var 2) (.con (.bl true)))
  .nil)))
  (.cons (.frz 3)
  .nil))))
def c_check_names : Cxx := { glo := [], cal := [{ f := MnC.m_is_name, dv := [] }], dis := [[(2, { f := MnP.m_Parameter_by_name, dv := [] }), (3, { f := MnP.m_Both_by_name, dv := [] }), (4, { f := MnP.m_Parameter_by_name, dv := [] }), (5, { f := MnP.m_Tag_by_name, dv := [] }), (6, { f := MnP.m_Parameter_by_name, dv := [] })]], new := [], newk := [], up := [], new0 := [] }
@[simp] theorem cc_check_names_0 : c_check_names.cal[0]? = some { f := MnC.m_is_name, dv := [] } := rfl
@[simp] theorem cd_check_names_0_Seat : c_check_names.find 0 2 = some { f := MnP.m_Parameter_by_name, dv := [] } := rfl
@[simp] theorem cd_check_names_0_Both : c_check_names.find 0 3 = some { f := MnP.m_Both_by_name, dv := [] } := rfl
@[simp] theorem cd_check_names_0_Tail : c_check_names.find 0 4 = some { f := MnP.m_Parameter_by_name, dv := [] } := rfl
@[simp] theorem cd_check_names_0_Tag : c_check_names.find 0 5 = some { f := MnP.m_Tag_by_name, dv := [] } := rfl
@[simp] theorem cd_check_names_0_Bag : c_check_names.find 0 6 = some { f := MnP.m_Parameter_by_name, dv := [] } := rfl
def m_check_names : Fn := mkFn c_check_names 2 5 b_check_names
def b_FormU__initU_ : Ss :=
  (.cons (.set (.v 3) (.bi false .list (.cons (.var 1) .nil)))
  (.cons (.set (.v 4) (.lst false .nil))
  (.cons (.ife (.cmp .isnot (.var 2) (.con .non))
  (.cons (.set (.v 4) (.bi false .list (.cons (.var 2) .nil)))
  .nil)
  .nil)
  (.cons (.ife (.or (.cons (.cmp .gt (.bi false .len (.cons (.var 3) .nil)) (.glo 1)) (.cons (.cmp .gt (.bi false .len (.cons (.var 4) .nil)) (.glo 0)) .nil)))
  (.cons (.rai 42 .nil)
  .nil)
  .nil)
  (.cons (.expr (.call 0 (.cons (.var 3) .nil)))
  (.cons (.expr (.call 1 (.cons (.var 3) (.cons (.var 4) .nil))))
  (.cons (.setA (.var 0) 2 (.var 3))
  (.cons (.setA (.var 0) 3 (.var 4))
  .nil))))))))
def c_FormU__initU_ : Cxx := { glo := [(D.int 60), (D.int 24)], cal := [{ f := m_check_order, dv := [] }, { f := m_check_names, dv := [] }], dis := [], new := [], newk := [], up := [], new0 := [] }
@[simp] theorem cg_FormU__initU__0 : c_FormU__initU_.glo[0]? = some (D.int 60) := rfl
@[simp] theorem cg_FormU__initU__1 : c_FormU__initU_.glo[1]? = some (D.int 24) := rfl
@[simp] theorem cc_FormU__initU__0 : c_FormU__initU_.cal[0]? = some { f := m_check_order, dv := [] } := rfl
@[simp] theorem cc_FormU__initU__1 : c_FormU__initU_.cal[1]? = some { f := m_check_names, dv := [] } := rfl
def m_FormU__initU_ : Fn := mkFn c_FormU__initU_ 3 5 b_FormU__initU_
def b__law_told : Ss :=
  (.cons (.set (.v 1) (.call 0 (.cons (.bin false .fdiv (.var 0) (.con (.int 12))) .nil)))
  (.cons (.set (.v 2) (.bin false .mod (.var 0) (.con (.int 6))))
  (.cons (.ife (.cmp .eq (.var 2) (.con (.int 4)))
  (.cons (.ret (.tup (.cons (.con (.str "tail")) (.cons (.var 1) .nil))))
  .nil)
  .nil)
  (.cons (.ife (.cmp .eq (.var 2) (.con (.int 5)))
  (.cons (.ret (.tup (.cons (.con (.str "bag")) (.cons (.var 1) .nil))))
  .nil)
  .nil)
  (.cons (.ret (.tup (.cons (.ix (.lst false (.cons (.con (.str "seat")) (.cons (.con (.str "both")) (.cons (.con (.str "tag")) (.cons (.con (.str "both")) .nil))))) (.var 2)) (.cons (.var 1) (.cons (.cmp .eq (.bin false .mod (.bin false .fdiv (.var 0) (.con (.int 6))) (.con (.int 2))) (.con (.int 1))) .nil)))))
  .nil)))))
def c__law_told : Cxx := { glo := [], cal := [{ f := MnC.m__law_called, dv := [] }], dis := [], new := [], newk := [], up := [], new0 := [] }
@[simp] theorem cc__law_told_0 : c__law_told.cal[0]? = some { f := MnC.m__law_called, dv := [] } := rfl
def m__law_told : Fn := mkFn c__law_told 1 3 b__law_told
def b__law_ordered : Ss :=
  (.cons (.set (.v 2) (.dct true .nil))
  (.cons (.set (.v 3) (.lst false (.cons (.lst true .nil) (.cons (.lst true .nil) (.cons (.lst true .nil) (.cons (.lst true .nil) .nil))))))
  (.cons (.for (.v 4) (.seq (.var 0))
  (.cons (.set (.v 5) (.ix (.dct false (.cons (.con (.str "seat")) (.cons (.con (.int 0)) (.cons (.con (.str "both")) (.cons (.con (.int 0)) (.cons (.con (.str "tail")) (.cons (.con (.int 1)) (.cons (.con (.str "tag")) (.cons (.con (.int 2)) (.cons (.con (.str "bag")) (.cons (.con (.int 3)) .nil))))))))))) (.ix (.var 4) (.con (.int 0)))))
  (.cons (.set (.v 6) (.and (.cons (.cmp .inn (.ix (.var 4) (.con (.int 0))) (.tup (.cons (.con (.str "both")) (.cons (.con (.str "tag")) .nil)))) (.cons (.cmp .inn (.ix (.var 4) (.con (.int 1))) (.var 2)) .nil))))
  (.cons (.ife (.and (.cons (.not (.var 6)) (.cons (.not (.and (.cons (.cmp .eq (.bin false .mod (.var 5) (.con (.int 2))) (.con (.int 1))) (.cons (.cmp .ne (.ix (.var 3) (.var 5)) (.lst false .nil)) .nil)))) .nil)))
  (.cons (.expr (.mt false .append (.ix (.var 3) (.var 5)) (.cons (.var 4) .nil)))
  (.cons (.ife (.cmp .inn (.ix (.var 4) (.con (.int 0))) (.tup (.cons (.con (.str "both")) (.cons (.con (.str "tag")) .nil))))
  (.cons (.setI (.var 2) (.ix (.var 4) (.con (.int 1))) (.con (.bl true)))
  .nil)
  .nil)
  .nil))
  .nil)
  .nil))))
  (.cons (.frz 2)
  (.cons (.ret (.slc false (.bin false .add (.bin false .add (.bin false .add (.ix (.var 3) (.con (.int 0))) (.ix (.var 3) (.con (.int 1)))) (.ix (.var 3) (.con (.int 2)))) (.ix (.var 3) (.con (.int 3)))) (.con .non) (.var 1)))
  .nil)))))
def c__law_ordered : Cxx := { glo := [], cal := [], dis := [], new := [], newk := [], up := [], new0 := [] }
def m__law_ordered : Fn := mkFn c__law_ordered 2 7 b__law_ordered
def b__law_barred : Ss :=
  (.cons (.set (.v 2) (.comp false (.v 3) (.seq (.var 0)) (.cons (.cmp .inn (.ix (.var 3) (.con (.int 0))) (.tup (.cons (.con (.str "both")) (.cons (.con (.str "tag")) .nil)))) .nil) (.ix (.var 3) (.con (.int 1)))))
  (.cons (.set (.v 4) (.lst true .nil))
  (.cons (.for (.v 5) (.seq (.var 1))
  (.cons (.ife (.and (.cons (.cmp .notin (.var 5) (.var 2)) (.cons (.cmp .notin (.var 5) (.var 4)) .nil)))
  (.cons (.expr (.mt false .append (.var 4) (.cons (.var 5) .nil)))
  .nil)
  .nil)
  .nil))
  (.cons (.frz 4)
  (.cons (.ret (.var 4))
  .nil)))))
def c__law_barred : Cxx := { glo := [], cal := [], dis := [], new := [], newk := [], up := [], new0 := [] }
def m__law_barred : Fn := mkFn c__law_barred 2 6 b__law_barred
def b__law_made : Ss :=
  (.cons (.ife (.cmp .eq (.ix (.var 0) (.con (.int 0))) (.con (.str "tail")))
  (.cons (.ret (.new 0 0 (.cons (.ix (.var 0) (.con (.int 1))) .nil)))
  .nil)
  .nil)
  (.cons (.ife (.cmp .eq (.ix (.var 0) (.con (.int 0))) (.con (.str "bag")))
  (.cons (.ret (.new 0 1 (.cons (.ix (.var 0) (.con (.int 1))) .nil)))
  .nil)
  .nil)
  (.cons (.ife (.cmp .eq (.ix (.var 0) (.con (.int 0))) (.con (.str "seat")))
  (.cons (.ret (.ife (.ix (.var 0) (.con (.int 2))) (.new 0 2 (.cons (.ix (.var 0) (.con (.int 1))) (.cons (.ix (.var 0) (.con (.int 2))) .nil))) (.new 0 3 (.cons (.ix (.var 0) (.con (.int 1))) .nil))))
  .nil)
  .nil)
  (.cons (.ife (.cmp .eq (.ix (.var 0) (.con (.int 0))) (.con (.str "both")))
  (.cons (.ret (.ife (.ix (.var 0) (.con (.int 2))) (.new 0 4 (.cons (.ix (.var 0) (.con (.int 1))) (.cons (.ix (.var 0) (.con (.int 2))) .nil))) (.new 0 5 (.cons (.ix (.var 0) (.con (.int 1))) .nil))))
  .nil)
  .nil)
  (.cons (.ret (.ife (.ix (.var 0) (.con (.int 2))) (.new 0 6 (.cons (.ix (.var 0) (.con (.int 1))) (.cons (.ix (.var 0) (.con (.int 2))) .nil))) (.new 0 7 (.cons (.ix (.var 0) (.con (.int 1))) .nil))))
  .nil)))))
def c__law_made : Cxx := { glo := [], cal := [], dis := [], new := [(4, { f := MnP.m_ParameterU__initU_, dv := [] }), (6, { f := MnP.m_ParameterU__initU_, dv := [] }), (2, { f := MnP.m_SingleU__initU_, dv := [] }), (2, { f := MnP.m_SingleU__initU_, dv := [(.bl false)] }), (3, { f := MnP.m_SingleU__initU_, dv := [] }), (3, { f := MnP.m_SingleU__initU_, dv := [(.bl false)] }), (5, { f := MnP.m_SingleU__initU_, dv := [] }), (5, { f := MnP.m_SingleU__initU_, dv := [(.bl false)] })], newk := [], up := [], new0 := [] }
@[simp] theorem cn__law_made_0 : c__law_made.new[0]? = some (4, { f := MnP.m_ParameterU__initU_, dv := [] }) := rfl
@[simp] theorem cn__law_made_1 : c__law_made.new[1]? = some (6, { f := MnP.m_ParameterU__initU_, dv := [] }) := rfl
@[simp] theorem cn__law_made_2 : c__law_made.new[2]? = some (2, { f := MnP.m_SingleU__initU_, dv := [] }) := rfl
@[simp] theorem cn__law_made_3 : c__law_made.new[3]? = some (2, { f := MnP.m_SingleU__initU_, dv := [(.bl false)] }) := rfl
@[simp] theorem cn__law_made_4 : c__law_made.new[4]? = some (3, { f := MnP.m_SingleU__initU_, dv := [] }) := rfl
@[simp] theorem cn__law_made_5 : c__law_made.new[5]? = some (3, { f := MnP.m_SingleU__initU_, dv := [(.bl false)] }) := rfl
@[simp] theorem cn__law_made_6 : c__law_made.new[6]? = some (5, { f := MnP.m_SingleU__initU_, dv := [] }) := rfl
@[simp] theorem cn__law_made_7 : c__law_made.new[7]? = some (5, { f := MnP.m_SingleU__initU_, dv := [(.bl false)] }) := rfl
def m__law_made : Fn := mkFn c__law_made 1 1 b__law_made
@[simp] theorem q_seat_both : (Str.ofString "seat" = Str.ofString "both") = False := eq_false (by decide +kernel)
@[simp] theorem q_seat_tail : (Str.ofString "seat" = Str.ofString "tail") = False := eq_false (by decide +kernel)
@[simp] theorem q_seat_tag : (Str.ofString "seat" = Str.ofString "tag") = False := eq_false (by decide +kernel)
@[simp] theorem q_seat_bag : (Str.ofString "seat" = Str.ofString "bag") = False := eq_false (by decide +kernel)
@[simp] theorem q_both_seat : (Str.ofString "both" = Str.ofString "seat") = False := eq_false (by decide +kernel)
@[simp] theorem q_both_tail : (Str.ofString "both" = Str.ofString "tail") = False := eq_false (by decide +kernel)
@[simp] theorem q_both_tag : (Str.ofString "both" = Str.ofString "tag") = False := eq_false (by decide +kernel)
@[simp] theorem q_both_bag : (Str.ofString "both" = Str.ofString "bag") = False := eq_false (by decide +kernel)
@[simp] theorem q_tail_seat : (Str.ofString "tail" = Str.ofString "seat") = False := eq_false (by decide +kernel)
@[simp] theorem q_tail_both : (Str.ofString "tail" = Str.ofString "both") = False := eq_false (by decide +kernel)
@[simp] theorem q_tail_tag : (Str.ofString "tail" = Str.ofString "tag") = False := eq_false (by decide +kernel)
@[simp] theorem q_tail_bag : (Str.ofString "tail" = Str.ofString "bag") = False := eq_false (by decide +kernel)
@[simp] theorem q_tag_seat : (Str.ofString "tag" = Str.ofString "seat") = False := eq_false (by decide +kernel)
@[simp] theorem q_tag_both : (Str.ofString "tag" = Str.ofString "both") = False := eq_false (by decide +kernel)
@[simp] theorem q_tag_tail : (Str.ofString "tag" = Str.ofString "tail") = False := eq_false (by decide +kernel)
@[simp] theorem q_tag_bag : (Str.ofString "tag" = Str.ofString "bag") = False := eq_false (by decide +kernel)
@[simp] theorem q_bag_seat : (Str.ofString "bag" = Str.ofString "seat") = False := eq_false (by decide +kernel)
@[simp] theorem q_bag_both : (Str.ofString "bag" = Str.ofString "both") = False := eq_false (by decide +kernel)
@[simp] theorem q_bag_tail : (Str.ofString "bag" = Str.ofString "tail") = False := eq_false (by decide +kernel)
@[simp] theorem q_bag_tag : (Str.ofString "bag" = Str.ofString "tag") = False := eq_false (by decide +kernel)
/-! ### a block, statement by statement -/
def hd : Ss → S1
  | .cons s _ => s
  | .nil => .pass
def tl : Ss → Ss
  | .cons _ r => r
  | .nil => .nil
def dr (b : Ss) : Nat → Ss
  | 0 => b
  | n + 1 => tl (dr b n)
theorem step {cx : Cxx} {n : Nat} {σ σ' : Sl} {S S' : Store} (b : Ss) (k : Nat) (e : ex cx n (hd (dr b k)) σ S = .nx σ' S') (h : dr b k ≠ .nil := by exact fun h => nomatch h) : exs cx n (dr b k) σ S = exs cx n (dr b (k + 1)) σ' S' := by
  show _ = exs cx n (tl (dr b k)) σ' S'
  generalize dr b k = c at e h
  cases c with
  | nil => exact absurd rfl h
  | cons s r =>
    rw [exs_cons]
    have e : ex cx n s σ S = _ := e
    rw [e]
    rfl
theorem stepL {cx : Cxx} {n : Nat} {σ : Sl} {S : Store} {r : RS} (b : Ss) (k : Nat) (e : ex cx n (hd (dr b k)) σ S = r) (hr : ∀ f, r.seq f = r) (h : dr b k ≠ .nil := by exact fun h => nomatch h) : exs cx n (dr b k) σ S = r := by
  generalize dr b k = c at e h
  cases c with
  | nil => exact absurd rfl h
  | cons s r =>
    rw [exs_cons]
    have e : ex cx n s σ S = _ := e
    rw [e]
    exact hr _
/-! ### numbers -/
theorem mul_small {i j : Int} (hi : i.natAbs < 2 ^ 64) (hj : j.natAbs < 2 ^ 64) : mulOk i j = true := by
  have h : ∀ n : Nat, n < 2 ^ 64 → n.log2 < 65 := fun n hn => by
    by_cases h0 : n = 0
    · subst h0
      decide
    · have := (Nat.log2_lt h0).mpr hn
      omega
  unfold mulOk
  have h1 := h _ hi
  have h2 := h _ hj
  exact decide_eq_true (by omega)
theorem sm62 (n : Nat) (hl : n ≤ 1000000) : small62 (n : Int) = true := by
  unfold small62
  exact decide_eq_true (by omega)
theorem rng_int (i : Int) (h : small62 i = true) : rngS [.d (.int i)] = some (0, i.toNat) := by simp [rngS, h]
theorem rng_nat (n : Nat) (h : n ≤ 1000000) : rngS [.d (.int (n : Int))] = some (0, n) := by
  rw [rng_int _ (sm62 n h), Int.toNat_natCast]
/-! ### lists -/
theorem compL_on {α : Type} {f : D → Store → R (Option T)} {a : α → D} {g : α → T} {S : Store} : ∀ {xs : List α}, (∀ x ∈ xs, f (a x) S = .ok (some (g x)) S) → compL f (xs.map a) S = .ok (xs.map g) S
  | [], _ => rfl
  | x :: xs, h => by
    rw [List.map_cons, compL, h x List.mem_cons_self, bnd_ok, compL_on fun y hy => h y (List.mem_cons_of_mem _ hy)]
    rfl
theorem compL_if {α : Type} {f : D → Store → R (Option T)} {a : α → D} {p : α → Bool} {g : α → T} {S : Store} : ∀ {xs : List α}, (∀ x ∈ xs, f (a x) S = .ok (if p x then some (g x) else none) S) → compL f (xs.map a) S = .ok ((xs.filter p).map g) S
  | [], _ => rfl
  | x :: xs, h => by
    rw [List.map_cons, compL, h x List.mem_cons_self, bnd_ok, compL_if fun y hy => h y (List.mem_cons_of_mem _ hy), bnd_ok, List.filter_cons]
    cases p x <;> rfl
theorem mkL_ok {xs : List D} {S : Store} (h : xs.length ≤ 100000) : mkL false xs S = .ok (.d (.lst xs)) S := by
  unfold mkL
  rw [if_pos h]
  rfl
theorem mkLst_ok {α : Type} {g : α → D} {xs : List α} {S : Store} (h : xs.length ≤ 100000) : mkLst false (xs.map fun x => .d (g x)) S = .ok (.d (.lst (xs.map g))) S := by
  unfold mkLst
  rw [unDs_map]
  exact mkL_ok (by rw [List.length_map]; exact h)
theorem list_ok {t : T} {xs : List D} {S : Store} (h : S.rd t = some (.lst xs)) (hl : xs.length ≤ 100000) : bList false [t] S = .ok (.d (.lst xs)) S := by
  unfold bList
  simp only [h]
  exact mkL_ok hl
theorem rngL_cons (i : Int) (n : Nat) : rngL i (n + 1) = .int i :: rngL (i + 1) n := by
  unfold rngL
  rw [List.range_succ_eq_map, List.map_cons, List.map_map]
  congr 1
  · simp
  · refine List.map_congr_left fun k _ => ?_
    show D.int (i + ((k + 1 : Nat) : Int)) = _
    congr 1
    omega
@[simp] theorem rngL_zero (i : Int) : rngL i 0 = [] := rfl
@[simp] theorem forL_nil {f : D → Sl → Store → RS} {σ : Sl} {S : Store} : forL f [] σ S = .nx σ S := rfl
theorem forL_nx {f : D → Sl → Store → RS} {x : D} {xs : List D} {σ σ' : Sl} {S S' : Store} (h : f x σ S = .nx σ' S') : forL f (x :: xs) σ S = forL f xs σ' S' := by rw [forL, h]
theorem forL_ret {f : D → Sl → Store → RS} {x : D} {xs : List D} {σ : Sl} {S S' : Store} {t : T} (h : f x σ S = .ret t S') : forL f (x :: xs) σ S = .ret t S' := by rw [forL, h]
theorem forL_exc {f : D → Sl → Store → RS} {x : D} {xs : List D} {σ σ' : Sl} {S S' : Store} {c : Nat} {p : List D} (h : f x σ S = .exc c p σ' S') : forL f (x :: xs) σ S = .exc c p σ' S' := by rw [forL, h]
theorem strs_all (xs : List Str) (n : Nat) : (xs.map D.str).all (D.ly n) = true := by
  rw [List.all_eq_true]
  intro y hy
  obtain ⟨x, _, rfl⟩ := List.mem_map.mp hy
  cases n <;> rfl
theorem strs_ly (xs : List Str) : (D.lst (xs.map D.str)).ly lyMax = true := strs_all xs 11
theorem any_str (x : Str) : ∀ xs : List Str, ((xs.map D.str).any fun y => y.eqv (.str x)) = xs.contains x
  | [] => rfl
  | y :: ys => by
    rw [List.map_cons, List.any_cons, any_str x ys, List.contains_cons]
    congr 1
    simp only [D.eqv]
    by_cases h : y = x
    · subst h
      simp
    · rw [decide_eq_false h]
      exact (beq_eq_false_iff_ne.mpr fun e => h e.symm).symm
theorem in_strs {x : Str} {xs : List Str} {S : Store} : inS (.d (.str x)) (.d (.lst (xs.map .str))) S = some (xs.contains x) := by
  have h1 : S.rd (.d (.str x)) = some (.str x) := rfl
  have h2 : S.rd (.d (.lst (xs.map .str))) = some (.lst (xs.map .str)) := rfl
  have h3 : (D.str x).ly lyMax = true := rfl
  simp only [inS, h1, h2, h3, strs_ly, Bool.and_self, if_true, any_str]
/-! ### a cell's end -/
theorem set_dead {S : Store} {c : Cell} : ((S.push c).setL S.loc.length .dead).trunc S.loc.length = S := by
  rw [push_setL]
  exact push_trunc
theorem frz_lst {cx : Cxx} {i : Nat} {σ : Sl} {S : Store} {xs : List D} (h : σ[i]? = some (some (.cell S.loc.length))) : ∃ S', ex cx S.loc.length (.frz i) σ (S.push (.lst xs)) = .nx (σ.set i (some (.d (.lst xs)))) S' ∧ S'.trunc S.loc.length = S := by
  rw [ex]
  simp only [h, push_get, Nat.le_refl, if_true]
  split
  · exact ⟨_, rfl, by rw [push_trunc]; exact trunc_self S⟩
  · exact ⟨_, rfl, set_dead⟩
theorem frz_dct {cx : Cxx} {i : Nat} {σ : Sl} {S : Store} {ks : List Key} {xs : List D} (h : σ[i]? = some (some (.cell S.loc.length))) : ∃ S', ex cx S.loc.length (.frz i) σ (S.push (.dct ks xs)) = .nx (σ.set i (some (.d (.dct ks xs)))) S' ∧ S'.trunc S.loc.length = S := by
  rw [ex]
  simp only [h, push_get, Nat.le_refl, if_true]
  split
  · exact ⟨_, rfl, by rw [push_trunc]; exact trunc_self S⟩
  · exact ⟨_, rfl, set_dead⟩
/-! ### bars -/
def nmB : D → Bool
  | .str x => isNm x
  | _ => false
/-- what may stand as a bar -/
def BarOk (d : D) : Prop := (∃ x : Str, d = .str x ∧ x.length ≤ 100) ∨ (nmB d = false ∧ d.ly 11 = true ∧ ∃ y, d.ty = some y ∧ y ≠ .str)
theorem bar_name {d : D} (h : BarOk d) (S : Store) : MnC.m_is_name [.d d] S = .ok (.d (.bl (nmB d))) S := by
  rcases h with ⟨x, rfl, hx⟩ | ⟨h1, _, y, h2, h3⟩
  · exact nm_str x (by omega) S
  · rw [h1]
    exact nm_other d y S h2 h3
def strOf : D → Str
  | .str x => x
  | _ => ""
theorem all_nm : ∀ {bs : List D}, bs.all nmB = true → bs = (bs.map strOf).map .str
  | [], _ => rfl
  | b :: bs, h => by
    simp only [List.all_cons, Bool.and_eq_true] at h
    rw [List.map_cons, List.map_cons, ← all_nm h.2]
    cases b <;> first | rfl | cases h.1
/-! ### the order -/
def misF : List Pm → Nat → Nat → Option Nat
  | [], _, _ => none
  | p :: ps, l, i => if p.group < l ∨ (p.group = l ∧ p.group % 2 = 1) then some i else misF ps p.group (i + 1)
def dupF : List Str → List Str → Option Str
  | [], _ => none
  | x :: xs, pre => if pre.contains x then some x else dupF xs (pre ++ [x])
def namesF (ps : List Pm) : List Str := (ps.filter Pm.byName).map Pm.name
theorem grp (p : Pm) (S : Store) : ∃ m, c_check_order.find 0 p.cls = some m ∧ m.f [.d p.obj] S = .ok (.d (.int p.group)) S ∧ m.dv = [] := by
  cases p with
  | seat x f => exact ⟨_, cd_check_order_0_Seat, group_no (.d (Pm.seat x f).obj) S, rfl⟩
  | both x f => exact ⟨_, cd_check_order_0_Both, group_no (.d (Pm.both x f).obj) S, rfl⟩
  | tail x => exact ⟨_, cd_check_order_0_Tail, group_tail (.d (Pm.tail x).obj) S, rfl⟩
  | tag x f => exact ⟨_, cd_check_order_0_Tag, group_tag (.d (Pm.tag x f).obj) S, rfl⟩
  | bag x => exact ⟨_, cd_check_order_0_Bag, group_bag (.d (Pm.bag x).obj) S, rfl⟩
theorem pm_cls (p : Pm) (S : Store) : clsOf (.d p.obj) S = some p.cls := rfl
theorem order_loop (n : Nat) (r : Option T) (S : Store) : ∀ (ps : List Pm) (i l : Nat) (a b c : Option T), ∃ σ',
    forL (forR c_check_order n (.t (.cons (.v 2) (.cons (.v 3) .nil))) (.cons (.set (.v 4) (.meth 0 (.var 3) .nil))
  (.cons (.ife (.or (.cons (.cmp .lt (.var 4) (.var 1)) (.cons (.and (.cons (.cmp .eq (.var 4) (.var 1)) (.cons (.cmp .inn (.var 4) (.glo 0)) .nil))) .nil)))
  (.cons (.rai 43 (.cons (.var 2) .nil))
  .nil)
  .nil)
  (.cons (.set (.v 1) (.var 4))
  .nil)))) (enumL i (ps.map Pm.obj)) [r, some (.d (.int l)), a, b, c] S = match misF ps l i with
      | some k => .exc 43 [.int k] σ' S
      | none => .nx σ' S
  | [], i, l, a, b, c => ⟨_, rfl⟩
  | p :: ps, i, l, a, b, c => by
    obtain ⟨m, h1, h2, h3⟩ := grp p S
    have gl : p.group = 0 ∨ p.group = 1 ∨ p.group = 2 ∨ p.group = 3 := by cases p <;> simp [Pm.group]
    have ein : inS (.d (.int p.group)) (.d (.tup [.int 1, .int 3])) S = some (decide (p.group % 2 = 1)) := by
      rcases gl with e | e | e | e <;> rw [e] <;> rfl
    by_cases h : p.group < l ∨ (p.group = l ∧ p.group % 2 = 1)
    · refine ⟨[r, some (.d (.int l)), some (.d (.int i)), some (.d p.obj), some (.d (.int p.group))], ?_⟩
      rw [misF, if_pos h]
      refine forL_exc ?_
      unfold forR
      simp [pm_cls, h1, h2, h3, cmpS, ordS, ein, unDs, eqS, Store.rd, D.ly, D.eqv]
      all_goals (intros; repeat' split)
      all_goals first | rfl | (exfalso; omega)
    · obtain ⟨σ', e⟩ := order_loop n r S ps (i + 1) p.group (some (.d (.int i))) (some (.d p.obj)) (some (.d (.int p.group)))
      refine ⟨σ', ?_⟩
      rw [misF, if_neg h, ← e]
      refine forL_nx ?_
      unfold forR
      simp [pm_cls, h1, h2, h3, cmpS, ordS, ein, unDs, eqS, Store.rd, D.ly, D.eqv]
      all_goals (intros; repeat' split)
      all_goals first | rfl | (exfalso; omega)
theorem order_ok (ps : List Pm) (S : Store) : m_check_order [.d (.lst (ps.map Pm.obj))] S = match misF ps 0 0 with
    | some k => .exc 43 [.int k] S
    | none => .ok (.d .non) S := by
  unfold m_check_order
  rw [mkFn_eq (by rfl)]
  obtain ⟨σ', e⟩ := order_loop S.loc.length (some (.d (.lst (ps.map Pm.obj)))) S ps 0 0 none none none
  have e : forL _ (enumL 0 (ps.map Pm.obj)) [_, some (.d (.int 0)), none, none, none] S = _ := e
  simp [b_check_order, itemL, e]
  cases misF ps 0 0 <;> simp
/-! ### the names -/
theorem dput_new {k : Key} {v : D} {ks : List Key} {ds : List D} (h : k ∉ ks) : dput k v ks ds = (ks ++ [k], ds ++ [v]) := by
  unfold dput
  rw [if_neg]
  rw [List.any_eq_true]
  rintro ⟨j, hj, e⟩
  have e := of_decide_eq_true e
  exact h (e ▸ hj)
theorem look_seen (x : Str) (v : D) : ∀ pre : List Str, (look (Sum.inr x) (pre.map Sum.inr) (pre.map fun _ => v)).isSome = pre.contains x
  | [] => rfl
  | y :: pre => by
    rw [List.map_cons, List.map_cons, look, List.contains_cons]
    by_cases h : y = x
    · subst h
      rw [if_pos rfl]
      simp
    · rw [if_neg (fun e => h (Sum.inr.inj e)), look_seen x v pre]
      have : (x == y) = false := beq_eq_false_iff_ne.mpr fun e => h e.symm
      rw [this, Bool.false_or]
/-- what was seen, as a dict -/
def seenC (pre : List Str) : Cell := .dct (pre.map Sum.inr) (pre.map fun _ => .bl true)
theorem in_seen (x : Str) (pre : List Str) (S : Store) : inS (.d (.str x)) (.cell S.loc.length) (S.push (seenC pre)) = some (pre.contains x) := by
  have h1 : (S.push (seenC pre)).rd (.d (.str x)) = some (.str x) := rfl
  have h2 : (S.push (seenC pre)).rd (.cell S.loc.length) = some (.dct (pre.map Sum.inr) (pre.map fun _ => .bl true)) := by
    show (match (S.push (seenC pre)).loc[S.loc.length]? with
      | some (.lst xs) => some (D.lst xs)
      | some (.dct ks ds) => some (D.dct ks ds)
      | _ => none) = _
    rw [push_get]
    rfl
  simp only [inS, h1, h2, toKey, look_seen x (.bl true) pre]
theorem set_seen {x : Str} {pre : List Str} {S : Store} (h : pre.contains x = false) (hl : pre.length < 100000) : setIS (.cell S.loc.length) (.d (.str x)) (.d (.bl true)) (S.push (seenC pre)) = some (S.push (seenC (pre ++ [x]))) := by
  have hm : (Sum.inr x : Key) ∉ pre.map Sum.inr := by
    intro z
    obtain ⟨y, hy, e⟩ := List.mem_map.mp z
    cases e
    have : pre.contains x = true := by simpa using hy
    rw [h] at this
    cases this
  simp only [setIS, push_at, seenC, toKey, List.length_map, hl, if_true, dput_new hm, push_put]
  simp
def nLoop : Ss :=
  (.cons (.ife (.cmp .inn (.var 2) (.var 3))
  (.cons (.rai 44 (.cons (.var 2) .nil))
  .nil)
  .nil)
  (.cons (.setI (.var 3) (.var 2) (.con (.bl true)))
  .nil))
theorem names_loop (n : Nat) (r s z : Option T) (S : Store) : ∀ (xs pre : List Str) (a : Option T), pre.length + xs.length ≤ 1000 → 
    match dupF xs pre with
      | some y => ∃ σ' pre', forL (forR c_check_names n (.v 2) nLoop) (xs.map .str) [r, s, a, some (.cell S.loc.length), z] (S.push (seenC pre)) = .exc 44 [.str y] σ' (S.push (seenC pre'))
      | none => ∃ a' pre', forL (forR c_check_names n (.v 2) nLoop) (xs.map .str) [r, s, a, some (.cell S.loc.length), z] (S.push (seenC pre)) = .nx [r, s, a', some (.cell S.loc.length), z] (S.push (seenC pre'))
  | [], pre, a, _ => ⟨a, pre, rfl⟩
  | x :: xs, pre, a, hl => by
    rw [dupF]
    have e1 := in_seen x pre S
    cases hc : pre.contains x with
    | true =>
      rw [hc] at e1
      refine ⟨_, pre, forL_exc (σ' := [r, s, some (.d (.str x)), some (.cell S.loc.length), z]) ?_⟩
      simp [forR, nLoop, cmpS, e1, unDs]
    | false =>
      rw [hc] at e1
      simp only [Bool.false_eq_true, if_false]
      rw [List.length_cons] at hl
      have e2 := set_seen (S := S) hc (by omega)
      have ih := names_loop n r s z S xs (pre ++ [x]) (some (.d (.str x))) (by rw [List.length_append]; show pre.length + 1 + _ ≤ _; omega)
      have st : forR c_check_names n (.v 2) nLoop (.str x) [r, s, a, some (.cell S.loc.length), z] (S.push (seenC pre)) = .nx [r, s, some (.d (.str x)), some (.cell S.loc.length), z] (S.push (seenC (pre ++ [x]))) := by
        simp [forR, nLoop, cmpS, e1, e2]
      rw [List.map_cons, forL_nx st]
      exact ih
def bLoop : Ss :=
  (.cons (.ife (.not (.call 0 (.cons (.var 2) .nil)))
  (.cons (.rai 41 .nil)
  .nil)
  .nil)
  .nil)
theorem bars_loop (n : Nat) (r s y z : Option T) (S : Store) : ∀ (bs : List D) (a : Option T), (∀ b ∈ bs, BarOk b) → ∃ σ' a',
    forL (forR c_check_names n (.v 2) bLoop) bs [r, s, a, y, z] S = if bs.all nmB then .nx [r, s, a', y, z] S else .exc 41 [] σ' S
  | [], a, _ => ⟨[], a, rfl⟩
  | b :: bs, a, hb => by
    have e1 := bar_name (hb b List.mem_cons_self) S
    rw [List.all_cons]
    cases hc : nmB b with
    | true =>
      rw [hc] at e1
      obtain ⟨σ', a', ih⟩ := bars_loop n r s y z S bs (some (.d b)) fun b h => hb b (List.mem_cons_of_mem _ h)
      have st : forR c_check_names n (.v 2) bLoop b [r, s, a, y, z] S = .nx [r, s, some (.d b), y, z] S := by
        simp [forR, bLoop, e1]
      rw [forL_nx st]
      exact ⟨σ', a', ih⟩
    | false =>
      rw [hc] at e1
      refine ⟨[r, s, some (.d b), y, z], none, ?_⟩
      refine forL_exc ?_
      simp [forR, bLoop, e1, unDs]
theorem byn (p : Pm) (S : Store) : ∃ m, c_check_names.find 0 p.cls = some m ∧ m.f [.d p.obj] S = .ok (.d (.bl p.byName)) S ∧ m.dv = [] := by
  cases p with
  | seat x f => exact ⟨_, cd_check_names_0_Seat, byname_no (.d (Pm.seat x f).obj) S, rfl⟩
  | both x f => exact ⟨_, cd_check_names_0_Both, byname_both (.d (Pm.both x f).obj) S, rfl⟩
  | tail x => exact ⟨_, cd_check_names_0_Tail, byname_no (.d (Pm.tail x).obj) S, rfl⟩
  | tag x f => exact ⟨_, cd_check_names_0_Tag, byname_tag (.d (Pm.tag x f).obj) S, rfl⟩
  | bag x => exact ⟨_, cd_check_names_0_Bag, byname_no (.d (Pm.bag x).obj) S, rfl⟩
theorem pm_name (p : Pm) (S : Store) : attrS (.d p.obj) 0 S = .ok (.d (.str p.name)) S := by cases p <;> rfl
theorem names_comp (σ : Sl) (hσ : σ.length = 5) (ps : List Pm) (hl : ps.length ≤ 1000) (S : Store) : (unexc (compL (cmpR c_check_names (.v 4) (.cons (.meth 0 (.var 4) .nil) .nil) (.attr (.var 4) 0) σ) (ps.map Pm.obj) S)).bnd (mkLst false) = .ok (.d (.lst ((namesF ps).map .str))) S := by
  have e := compL_if (f := cmpR c_check_names (.v 4) (.cons (.meth 0 (.var 4) .nil) .nil) (.attr (.var 4) 0) σ) (a := Pm.obj) (p := Pm.byName) (g := fun p => .d (.str p.name)) (S := S) (xs := ps) fun p _ => by
    obtain ⟨m, h1, h2, h3⟩ := byn p S
    unfold cmpR
    simp [clrs, tgv, hσ, pm_cls, h1, h2, h3, pm_name]
    cases p.byName <;> rfl
  rw [e, unexc_ok, bnd_ok]
  have hl2 := List.length_filter_le Pm.byName ps
  rw [mkLst_ok (g := fun p : Pm => D.str p.name) (by omega)]
  unfold namesF
  rw [List.map_map]
  rfl
/-- what check_names says -/
def namR (ps : List Pm) (bs : List D) : Option (Nat × List D) := if bs.all nmB then (match dupF (namesF ps ++ bs.map strOf) [] with
  | some y => some (44, [.str y])
  | none => none) else some (41, [])
theorem seen0 (S : Store) : mkD true [] S = .ok (.cell S.loc.length) (S.push (seenC [])) := rfl
theorem names_ok (ps : List Pm) (bs : List D) (hb : ∀ b ∈ bs, BarOk b) (h1 : ps.length ≤ 500) (h2 : bs.length ≤ 500) (S : Store) : m_check_names [.d (.lst (ps.map Pm.obj)), .d (.lst bs)] S = match namR ps bs with
    | some (c, p) => .exc c p S
    | none => .ok (.d .non) S := by
  unfold m_check_names
  rw [mkFn_eq (by rfl)]
  obtain ⟨σ', a', e⟩ := bars_loop S.loc.length (some (.d (.lst (ps.map Pm.obj)))) (some (.d (.lst bs))) none none S bs none hb
  unfold bLoop at e
  unfold namR
  by_cases ha : bs.all nmB = true
  · rw [if_pos ha] at e
    rw [if_pos ha]
    have eb := all_nm ha
    have nl : (namesF ps ++ bs.map strOf).length ≤ 1000 := by
      have := List.length_filter_le Pm.byName ps
      simp only [namesF, List.length_append, List.length_map]
      omega
    have add : ∀ S', binS false .add (.d (.lst ((namesF ps).map .str))) (.d (.lst bs)) S' = .ok (.d (.lst ((namesF ps ++ bs.map strOf).map .str))) S' := fun S' => by
      have hx : (namesF ps).map D.str ++ bs = (namesF ps ++ bs.map strOf).map .str := by
        rw [List.map_append, ← eb]
      simp only [binS, addS, Store.rdL, hx]
      exact mkL_ok (by rw [List.length_map]; omega)
    have cp := names_comp [some (.d (.lst (ps.map Pm.obj))), some (.d (.lst bs)), a', some (.cell S.loc.length), none] rfl ps (by omega) (S.push (seenC []))
    have lp := names_loop S.loc.length (some (.d (.lst (ps.map Pm.obj)))) (some (.d (.lst bs))) none S (namesF ps ++ bs.map strOf) [] a' (by simpa using nl)
    unfold nLoop at lp
    generalize namesF ps ++ bs.map strOf = L at add lp nl ⊢
    cases hd : dupF L [] with
    | some y =>
      rw [hd] at lp
      obtain ⟨σ2, pre, lp⟩ := lp
      simp [b_check_names, items, e, seen0, cp, add, lp]
    | none =>
      rw [hd] at lp
      obtain ⟨a2, pre, lp⟩ := lp
      obtain ⟨S', f1, f2⟩ := frz_dct (cx := c_check_names) (i := 3) (S := S) (σ := [some (.d (.lst (ps.map Pm.obj))), some (.d (.lst bs)), a2, some (.cell S.loc.length), none]) (ks := pre.map Sum.inr) (xs := pre.map fun _ => .bl true) rfl
      have f1 : ex c_check_names S.loc.length (.frz 3) _ (S.push (seenC pre)) = _ := f1
      simp [b_check_names, items, e, seen0, cp, add, lp, f1, f2]
  · rw [if_neg ha] at e
    rw [if_neg ha]
    simp [b_check_names, items, e]
/-! ### Form(..) -/
/-- what Form(..) says: none where it is made -/
def formR (ps : List Pm) (bs : List D) : Option (Nat × List D) := if 24 < ps.length ∨ 60 < bs.length then some (42, []) else match misF ps 0 0 with
  | some k => some (43, [.int k])
  | none => namR ps bs
def formO (ps : List Pm) (bs : List D) : D := .obj 7 [.lst (ps.map Pm.obj), .lst bs]
theorem form_init (ps : List Pm) (bs : List D) (hb : ∀ b ∈ bs, BarOk b) (h1 : ps.length ≤ 500) (h2 : bs.length ≤ 500) (S : Store) (t u : T) (ht : (S.push (.obj 7 [])).rd t = some (.lst (ps.map Pm.obj))) (hu : (S.push (.obj 7 [])).rd u = some (.lst bs)) (hn : isS u (.d .non) = some false) :
    m_FormU__initU_ [.cell S.loc.length, t, u] (S.push (.obj 7 [])) = match formR ps bs with
      | some (c, p) => .exc c p (S.push (.obj 7 []))
      | none => .ok (.d .non) (S.push (.obj 7 [.lst (ps.map Pm.obj), .lst bs])) := by
  unfold m_FormU__initU_
  rw [mkFn_eq (by rfl)]
  have l1 := list_ok ht (by rw [List.length_map]; omega)
  have l2 := list_ok hu (by omega)
  have o := order_ok ps
  have na := names_ok ps bs hb h1 h2
  unfold formR
  by_cases hm : 24 < ps.length ∨ 60 < bs.length
  · rw [if_pos hm]
    by_cases h3 : (24 : Int) < ps.length
    · simp [b_FormU__initU_, l1, l2, mkLst, unDs, mkL, cmpS, hn, ordS, h3]
    · have h4 : (60 : Int) < bs.length := by omega
      simp [b_FormU__initU_, l1, l2, mkLst, unDs, mkL, cmpS, hn, ordS, h3, h4]
  · rw [if_neg hm]
    have h3 : ¬ (24 : Int) < ps.length := by omega
    have h4 : ¬ (60 : Int) < bs.length := by omega
    have p1 : ∀ xs : List D, setAS (.cell S.loc.length) 2 (.d (.lst xs)) (S.push (.obj 7 [])) = some (S.push (.obj 7 [.lst xs])) := fun xs => by
      simp [setAS, fput, flds]
    have p2 : ∀ xs ys : List D, setAS (.cell S.loc.length) 3 (.d (.lst xs)) (S.push (.obj 7 [.lst ys])) = some (S.push (.obj 7 [.lst ys, .lst xs])) := fun xs ys => by
      simp [setAS, fput, flds]
    cases hmi : misF ps 0 0 with
    | some k =>
      simp only [hmi] at o
      simp [b_FormU__initU_, l1, l2, mkLst, unDs, mkL, cmpS, hn, ordS, h3, h4, o]
    | none =>
      simp only [hmi] at o
      cases hna : namR ps bs with
      | some q =>
        obtain ⟨c, p⟩ := q
        simp only [hna] at na
        simp [b_FormU__initU_, l1, l2, mkLst, unDs, mkL, cmpS, hn, ordS, h3, h4, o, na]
      | none =>
        simp only [hna] at na
        simp [b_FormU__initU_, l1, l2, mkLst, unDs, mkL, cmpS, hn, ordS, h3, h4, o, na, p1, p2]
theorem tld (p : Pm) (S : Store) : ∃ m, c_Form_told.find 0 p.cls = some m ∧ m.f [.d p.obj] S = .ok (.d p.told) S ∧ m.dv = [] := by
  cases p with
  | seat x f => exact ⟨_, cd_Form_told_0_Seat, told_seat x f S, rfl⟩
  | both x f => exact ⟨_, cd_Form_told_0_Both, told_both x f S, rfl⟩
  | tail x => exact ⟨_, cd_Form_told_0_Tail, told_tail x S, rfl⟩
  | tag x f => exact ⟨_, cd_Form_told_0_Tag, told_tag x f S, rfl⟩
  | bag x => exact ⟨_, cd_Form_told_0_Bag, told_bag x S, rfl⟩
/-- what a form tells -/
def formT (ps : List Pm) (bs : List D) : D := .tup [.lst (ps.map Pm.told), .lst bs]
theorem form_told (ps : List Pm) (bs : List D) (h1 : ps.length ≤ 500) (h2 : bs.length ≤ 500) (S : Store) : m_Form_told [.d (formO ps bs)] S = .ok (.d (formT ps bs)) S := by
  unfold m_Form_told
  rw [mkFn_eq (by rfl)]
  have e := compL_on (f := cmpR c_Form_told (.v 1) .nil (.meth 0 (.var 1) .nil) [some (.d (formO ps bs)), none]) (a := Pm.obj) (g := fun p => .d p.told) (S := S) (xs := ps) fun p _ => by
    obtain ⟨m, h1, h2, h3⟩ := tld p S
    unfold cmpR
    simp [clrs, tgv, pm_cls, h1, h2, h3]
  have e2 : mkLst false (ps.map fun p => T.d p.told) S = .ok (.d (.lst (ps.map Pm.told))) S := mkLst_ok (by omega)
  have a1 : attrS (.d (formO ps bs)) 2 S = .ok (.d (.lst (ps.map Pm.obj))) S := rfl
  have a2 : attrS (.d (formO ps bs)) 3 S = .ok (.d (.lst bs)) S := rfl
  have l2 := list_ok (S := S) (t := .d (.lst bs)) rfl (by omega)
  simp [b_Form_told, a1, a2, items, e, e2, l2, mkTup, unDs, formT]
/-! ### rows -/
theorem told_row (c : Int) : ∃ p : Pm, isNm p.name = true ∧ ∀ S, m__law_told [.d (.int c)] S = .ok (.d p.told) S := by
  have h1 : ∀ S, MnC.m__law_called [.d (.int (c / 12))] S = .ok (.d (.str (calledF (c / 12)))) S := fun S => called _ S
  have n1 := called_nm (c / 12)
  generalize calledF (c / 12) = x at h1 n1
  have w : c % 6 = 0 ∨ c % 6 = 1 ∨ c % 6 = 2 ∨ c % 6 = 3 ∨ c % 6 = 4 ∨ c % 6 = 5 := by omega
  rcases w with w | w | w | w | w | w
  · refine ⟨.seat x (decide (c / 6 % 2 = 1)), n1, fun S => ?_⟩
    unfold m__law_told
    rw [mkFn_eq (by rfl)]
    simp [b__law_told, h1, w, mkLst, unDs, mkL, ixS, ixN, Store.rd, mkTup, Pm.told, Pm.flds, Pm.word]
  · refine ⟨.both x (decide (c / 6 % 2 = 1)), n1, fun S => ?_⟩
    unfold m__law_told
    rw [mkFn_eq (by rfl)]
    simp [b__law_told, h1, w, mkLst, unDs, mkL, ixS, ixN, Store.rd, mkTup, Pm.told, Pm.flds, Pm.word]
  · refine ⟨.tag x (decide (c / 6 % 2 = 1)), n1, fun S => ?_⟩
    unfold m__law_told
    rw [mkFn_eq (by rfl)]
    simp [b__law_told, h1, w, mkLst, unDs, mkL, ixS, ixN, Store.rd, mkTup, Pm.told, Pm.flds, Pm.word]
  · refine ⟨.both x (decide (c / 6 % 2 = 1)), n1, fun S => ?_⟩
    unfold m__law_told
    rw [mkFn_eq (by rfl)]
    simp [b__law_told, h1, w, mkLst, unDs, mkL, ixS, ixN, Store.rd, mkTup, Pm.told, Pm.flds, Pm.word]
  · refine ⟨.tail x, n1, fun S => ?_⟩
    unfold m__law_told
    rw [mkFn_eq (by rfl)]
    simp [b__law_told, h1, w, mkLst, unDs, mkL, ixS, ixN, Store.rd, mkTup, Pm.told, Pm.flds, Pm.word]
  · refine ⟨.bag x, n1, fun S => ?_⟩
    unfold m__law_told
    rw [mkFn_eq (by rfl)]
    simp [b__law_told, h1, w, mkLst, unDs, mkL, ixS, ixN, Store.rd, mkTup, Pm.told, Pm.flds, Pm.word]
theorem made (p : Pm) (h : isNm p.name = true) (S : Store) : m__law_made [.d p.told] S = .ok (.d p.obj) S := by
  unfold m__law_made
  rw [mkFn_eq (by rfl)]
  cases p with
  | seat x f =>
    cases f <;> (have h : isNm x = true := h; simp [b__law_made, Pm.told, Pm.flds, Pm.word, ixS, ixN, Store.rd, new_one 2 (by decide) h, new_oneD 2 (by decide) h, Pm.obj, Pm.cls])
  | both x f =>
    cases f <;> (have h : isNm x = true := h; simp [b__law_made, Pm.told, Pm.flds, Pm.word, ixS, ixN, Store.rd, new_one 3 (by decide) h, new_oneD 3 (by decide) h, Pm.obj, Pm.cls])
  | tail x =>
    have h : isNm x = true := h
    simp [b__law_made, Pm.told, Pm.flds, Pm.word, ixS, ixN, Store.rd, new_par 4 (by decide) h, Pm.obj, Pm.cls]
  | tag x f =>
    cases f <;> (have h : isNm x = true := h; simp [b__law_made, Pm.told, Pm.flds, Pm.word, ixS, ixN, Store.rd, new_one 5 (by decide) h, new_oneD 5 (by decide) h, Pm.obj, Pm.cls])
  | bag x =>
    have h : isNm x = true := h
    simp [b__law_made, Pm.told, Pm.flds, Pm.word, ixS, ixN, Store.rd, new_par 6 (by decide) h, Pm.obj, Pm.cls]
/-! ### several cells -/
def _root_.Mn.Store.pushs (S : Store) (L : List Cell) : Store := ⟨S.loc ++ L, S.glb⟩
section
variable {S : Store} {L : List Cell} {c : Cell} {j : Nat}
theorem push_pushs : S.push c = S.pushs [c] := rfl
@[simp] theorem pushs_push : (S.pushs L).push c = S.pushs (L ++ [c]) := by simp [Store.pushs, Store.push]
@[simp] theorem pushs_len : (S.pushs L).loc.length = S.loc.length + L.length := by simp [Store.pushs]
@[simp] theorem pushs_get0 : (S.pushs L).loc[S.loc.length]? = L[0]? := by
  simp [Store.pushs, List.getElem?_append_right]
@[simp] theorem pushs_get : (S.pushs L).loc[S.loc.length + j]? = L[j]? := by
  simp [Store.pushs, List.getElem?_append_right]
@[simp] theorem pushs_at0 : (S.pushs L).at (.cell S.loc.length) = L[0]? := pushs_get0
@[simp] theorem pushs_at : (S.pushs L).at (.cell (S.loc.length + j)) = L[j]? := pushs_get
@[simp] theorem pushs_setL0 : (S.pushs L).setL S.loc.length c = S.pushs (L.set 0 c) := by
  simp [Store.pushs, Store.setL, List.set_append]
@[simp] theorem pushs_setL : (S.pushs L).setL (S.loc.length + j) c = S.pushs (L.set j c) := by
  simp [Store.pushs, Store.setL, List.set_append]
@[simp] theorem pushs_put0 : (S.pushs L).put (.cell S.loc.length) c = S.pushs (L.set 0 c) := pushs_setL0
@[simp] theorem pushs_put : (S.pushs L).put (.cell (S.loc.length + j)) c = S.pushs (L.set j c) := pushs_setL
@[simp] theorem pushs_trunc : (S.pushs L).trunc S.loc.length = S := by simp [Store.pushs, Store.trunc]
end
/-! ### rows put in order -/
theorem told_ly (p : Pm) : p.told.ly 11 = true := by
  cases p <;> simp [Pm.told, Pm.flds, D.ly]
theorem tolds_ly (ps : List Pm) : (D.lst (ps.map Pm.told)).ly lyMax = true := by
  show (ps.map Pm.told).all (D.ly 11) = true
  rw [List.all_eq_true]
  intro y hy
  obtain ⟨p, _, rfl⟩ := List.mem_map.mp hy
  exact told_ly p
theorem eqvs_nil : ∀ xs : List D, D.eqvs xs [] = xs.isEmpty
  | [] => rfl
  | _ :: _ => rfl
def GK : List Key := [Sum.inr "seat", Sum.inr "both", Sum.inr "tail", Sum.inr "tag", Sum.inr "bag"]
def GV : List D := [.int 0, .int 0, .int 1, .int 2, .int 3]
theorem grp_dct (S : Store) : mkD false [(.d (.str "seat"), .d (.int 0)), (.d (.str "both"), .d (.int 0)), (.d (.str "tail"), .d (.int 1)), (.d (.str "tag"), .d (.int 2)), (.d (.str "bag"), .d (.int 3))] S = .ok (.d (.dct GK GV)) S := by
  kernel_rfl
theorem grp_ix (p : Pm) (S : Store) : ixS (.d (.dct GK GV)) (.d (.str p.word)) S = .ok (.d (.int p.group)) S := by
  cases p <;> kernel_rfl
theorem row_0 (p : Pm) (S : Store) : ixS (.d p.told) (.d (.int 0)) S = .ok (.d (.str p.word)) S := by
  cases p <;> rfl
theorem row_1 (p : Pm) (S : Store) : ixS (.d p.told) (.d (.int 1)) S = .ok (.d (.str p.name)) S := by
  cases p <;> rfl
theorem row_by (p : Pm) (S : Store) : cmpS .inn (.d (.str p.word)) (.d (.tup [.str "both", .str "tag"])) S = .ok (.d (.bl p.byName)) S := by
  rw [cmp_in2]
  cases p <;> simp [Pm.word, Pm.byName]
structure OS where
  pre : List Str
  a : Nat → List Pm
def ordStep (s : OS) (p : Pm) : OS := if (p.byName && s.pre.contains p.name) || (decide (p.group % 2 = 1) && !(s.a p.group).isEmpty) then s else ⟨if p.byName then s.pre ++ [p.name] else s.pre, fun i => if i = p.group then s.a i ++ [p] else s.a i⟩
def osS (S : Store) (s : OS) : Store := S.pushs [seenC s.pre, .lst ((s.a 0).map Pm.told), .lst ((s.a 1).map Pm.told), .lst ((s.a 2).map Pm.told), .lst ((s.a 3).map Pm.told)]
def oLoop : Ss := match b__law_ordered with
  | .cons _ (.cons _ (.cons (.for _ _ b) _)) => b
  | _ => .nil
def oFound (n : Nat) : T := .lst [.cell (n + 1), .cell (n + 2), .cell (n + 3), .cell (n + 4)]
theorem os_in (S : Store) (s : OS) (x : Str) : inS (.d (.str x)) (.cell S.loc.length) (osS S s) = some (s.pre.contains x) := by
  have h2 : (osS S s).rd (.cell S.loc.length) = some (.dct (s.pre.map Sum.inr) (s.pre.map fun _ => .bl true)) := by
    unfold osS Store.rd
    dsimp only
    rw [pushs_get0]
    rfl
  have h1 : (osS S s).rd (.d (.str x)) = some (.str x) := rfl
  simp only [inS, h1, h2, toKey, look_seen x (.bl true) s.pre]
theorem os_inC (S : Store) (s : OS) (x : Str) : cmpS .inn (.d (.str x)) (.cell S.loc.length) (osS S s) = .ok (.d (.bl (s.pre.contains x))) (osS S s) := by
  simp only [cmpS, os_in, ofB_some]
  rfl
theorem os_ix (S S' : Store) (p : Pm) : ixS (oFound S.loc.length) (.d (.int p.group)) S' = .ok (.cell (S.loc.length + (p.group + 1))) S' := by
  cases p <;> rfl
theorem os_ne (S : Store) (s : OS) (p : Pm) : cmpS .ne (.cell (S.loc.length + (p.group + 1))) (.d (.lst [])) (osS S s) = .ok (.d (.bl (!(s.a p.group).isEmpty))) (osS S s) := by
  have h1 : (osS S s).rd (.cell (S.loc.length + (p.group + 1))) = some (.lst ((s.a p.group).map Pm.told)) := by
    unfold osS Store.rd
    dsimp only
    rw [pushs_get]
    cases p <;> rfl
  have h2 : (osS S s).rd (.d (.lst [])) = some (.lst []) := rfl
  have h3 : (D.lst []).ly lyMax = true := rfl
  simp only [cmpS, eqS, h1, h2, tolds_ly, h3, Bool.and_self, if_true, D.eqv, eqvs_nil, ofB_some]
  cases s.a p.group <;> rfl
theorem os_app (S : Store) (s : OS) (p : Pm) (h : (s.a p.group).length < 1000) : mAppend (.cell (S.loc.length + (p.group + 1))) [.d p.told] (osS S s) = .ok (.d .non) (osS S ⟨s.pre, fun i => if i = p.group then s.a i ++ [p] else s.a i⟩) := by
  have h1 : atL (osS S s) (.cell (S.loc.length + (p.group + 1))) = some ((s.a p.group).map Pm.told) := by
    unfold atL osS
    rw [pushs_at]
    cases p <;> rfl
  unfold mAppend
  simp only [h1, List.length_map]
  rw [if_pos (by omega)]
  congr 1
  unfold osS
  rw [pushs_put]
  cases p <;> simp [Pm.group]
theorem os_ty (S : Store) (s : OS) (p : Pm) : tyS (.cell (S.loc.length + (p.group + 1))) (osS S s) = some .lst := by
  unfold tyS osS
  dsimp only
  rw [pushs_get]
  cases p <;> rfl
theorem os_set (S : Store) (s : OS) (x : Str) (h : s.pre.contains x = false) (hl : s.pre.length < 1000) : setIS (.cell S.loc.length) (.d (.str x)) (.d (.bl true)) (osS S s) = some (osS S ⟨s.pre ++ [x], s.a⟩) := by
  have hm : (Sum.inr x : Key) ∉ s.pre.map Sum.inr := by
    intro z
    obtain ⟨y, hy, e⟩ := List.mem_map.mp z
    cases e
    have : s.pre.contains x = true := by simpa using hy
    rw [h] at this
    cases this
  have h1 : (osS S s).at (.cell S.loc.length) = some (seenC s.pre) := by
    unfold osS
    rw [pushs_at0]
    rfl
  have hl2 : s.pre.length < 100000 := by omega
  simp only [setIS, h1, seenC, toKey, List.length_map, hl2, if_true, dput_new hm]
  unfold osS
  rw [pushs_put0]
  simp [seenC]
theorem ord_step (n : Nat) (S : Store) (s : OS) (p : Pm) (r m x y z : Option T) (h1 : s.pre.length < 1000) (h2 : (s.a p.group).length < 1000) : ∃ x' y' z',
    forR c__law_ordered n (.v 4) oLoop p.told [r, m, some (.cell S.loc.length), some (oFound S.loc.length), x, y, z] (osS S s) = .nx [r, m, some (.cell S.loc.length), some (oFound S.loc.length), x', y', z'] (osS S (ordStep s p)) := by
  refine ⟨some (.d p.told), some (.d (.int p.group)), some (.d (.bl (p.byName && s.pre.contains p.name))), ?_⟩
  unfold forR oLoop b__law_ordered ordStep
  have gl : (p.group : Int) % 2 = 1 ↔ p.group % 2 = 1 := by omega
  have e1 := os_inC S s p.name
  have e3 := os_app S s p h2
  have e4 := os_ty S s p
  cases hb : p.byName with
  | true =>
    have hg : ¬ p.group % 2 = 1 := by cases p <;> first | (cases hb; done) | simp [Pm.group]
    cases hc : s.pre.contains p.name with
    | true =>
      rw [hc] at e1
      simp [grp_dct, row_0, row_1, grp_ix, row_by, hb, e1, os_ix, os_ne, mkTup, unDs]
    | false =>
      rw [hc] at e1
      have e2 := os_set S ⟨s.pre, fun i => if i = p.group then s.a i ++ [p] else s.a i⟩ p.name hc h1
      simp [grp_dct, row_0, row_1, grp_ix, row_by, hb, e1, os_ix, os_ne, mkTup, unDs, hg, gl, mtS, e3, e4, Mt.on, e2]
  | false =>
    by_cases hg : p.group % 2 = 1
    · cases he : (s.a p.group).isEmpty with
      | true => simp [grp_dct, row_0, row_1, grp_ix, row_by, hb, e1, os_ix, os_ne, mkTup, unDs, hg, gl, mtS, e3, e4, Mt.on, he, mkLst, mkL]
      | false => simp [grp_dct, row_0, row_1, grp_ix, row_by, hb, e1, os_ix, os_ne, mkTup, unDs, hg, gl, mtS, e3, e4, Mt.on, he, mkLst, mkL]
    · simp [grp_dct, row_0, row_1, grp_ix, row_by, hb, e1, os_ix, os_ne, mkTup, unDs, hg, gl, mtS, e3, e4, Mt.on]
theorem os_grow (s : OS) (p : Pm) : (ordStep s p).pre.length ≤ s.pre.length + 1 ∧ ∀ i, ((ordStep s p).a i).length ≤ (s.a i).length + 1 := by
  unfold ordStep
  split
  · exact ⟨by omega, fun i => by omega⟩
  · refine ⟨?_, fun i => ?_⟩
    · dsimp only
      split
      · rw [List.length_append]
        show _ + 1 ≤ _
        omega
      · omega
    · dsimp only
      split
      · rw [List.length_append]
        show _ + 1 ≤ _
        omega
      · omega
theorem ord_loop (n : Nat) (S : Store) (r m : Option T) : ∀ (ps : List Pm) (s : OS) (x y z : Option T), s.pre.length + ps.length ≤ 1000 → (∀ i, (s.a i).length + ps.length ≤ 1000) → ∃ x' y' z',
    forL (forR c__law_ordered n (.v 4) oLoop) (ps.map Pm.told) [r, m, some (.cell S.loc.length), some (oFound S.loc.length), x, y, z] (osS S s) = .nx [r, m, some (.cell S.loc.length), some (oFound S.loc.length), x', y', z'] (osS S (ps.foldl ordStep s))
  | [], s, x, y, z, _, _ => ⟨x, y, z, rfl⟩
  | p :: ps, s, x, y, z, h1, h2 => by
    rw [List.length_cons] at h1
    have h2' := fun i => h2 i
    simp only [List.length_cons] at h2'
    obtain ⟨x1, y1, z1, e⟩ := ord_step n S s p r m x y z (by omega) (by have := h2' p.group; omega)
    obtain ⟨g1, g2⟩ := os_grow s p
    obtain ⟨x2, y2, z2, e2⟩ := ord_loop n S r m ps (ordStep s p) x1 y1 z1 (by omega) fun i => by
      have := g2 i
      have := h2' i
      omega
    refine ⟨x2, y2, z2, ?_⟩
    rw [List.map_cons, forL_nx e, e2]
    rfl
/-- rows put in order -/
def ordF (ps : List Pm) : OS := ps.foldl ordStep ⟨[], fun _ => []⟩
def OS.all (s : OS) : List Pm := s.a 0 ++ s.a 1 ++ s.a 2 ++ s.a 3
def osD (S : Store) (s : OS) : Store := S.pushs [.dead, .lst ((s.a 0).map Pm.told), .lst ((s.a 1).map Pm.told), .lst ((s.a 2).map Pm.told), .lst ((s.a 3).map Pm.told)]
theorem os_rdL (S : Store) (s : OS) (k : Nat) (hk : k < 4) : (osD S s).rdL (.cell (S.loc.length + (k + 1))) = some ((s.a k).map Pm.told) := by
  unfold osD Store.rdL
  dsimp only
  rw [pushs_get]
  match k, hk with
  | 0, _ => rfl
  | 1, _ => rfl
  | 2, _ => rfl
  | 3, _ => rfl
theorem os_frz (S : Store) (s : OS) (r m x y z : Option T) : ∃ q, ex c__law_ordered S.loc.length (.frz 2) [r, m, some (.cell S.loc.length), some (oFound S.loc.length), x, y, z] (osS S s) = .nx [r, m, q, some (oFound S.loc.length), x, y, z] (osD S s) := by
  refine ⟨some (.d (.dct (s.pre.map Sum.inr) (s.pre.map fun _ => .bl true))), ?_⟩
  unfold osS
  rw [ex]
  simp only [List.getElem?_cons_succ, List.getElem?_cons_zero, Nat.le_refl, if_true, pushs_get0, seenC, pushs_len, List.length_cons, List.length_nil]
  rw [if_neg (fun h => by have := h.1; omega)]
  rw [pushs_setL0]
  rfl
theorem osD_trunc (S : Store) (s : OS) : (osD S s).trunc S.loc.length = S := pushs_trunc
theorem os_add1 (S : Store) (s : OS) (j k : Nat) (hj : j < 4) (hk : k < 4) (h1 : (s.a j).length ≤ 500) (h2 : (s.a k).length ≤ 500) : binS false .add (.cell (S.loc.length + (j + 1))) (.cell (S.loc.length + (k + 1))) (osD S s) = .ok (.d (.lst ((s.a j ++ s.a k).map Pm.told))) (osD S s) := by
  simp only [binS, addS, os_rdL S s j hj, os_rdL S s k hk]
  rw [← List.map_append]
  exact mkL_ok (by rw [List.length_map, List.length_append]; omega)
theorem os_add2 (S : Store) (s : OS) (ps : List Pm) (k : Nat) (hk : k < 4) (h1 : ps.length ≤ 5000) (h2 : (s.a k).length ≤ 500) : binS false .add (.d (.lst (ps.map Pm.told))) (.cell (S.loc.length + (k + 1))) (osD S s) = .ok (.d (.lst ((ps ++ s.a k).map Pm.told))) (osD S s) := by
  have h3 : (osD S s).rdL (.d (.lst (ps.map Pm.told))) = some (ps.map Pm.told) := rfl
  simp only [binS, addS, os_rdL S s k hk, h3]
  rw [← List.map_append]
  exact mkL_ok (by rw [List.length_map, List.length_append]; omega)
@[simp] theorem pushs_pushs {S : Store} {L M : List Cell} : (S.pushs L).pushs M = S.pushs (L ++ M) := by simp [Store.pushs]
theorem os_made (S : Store) : (((((S.push (.dct [] [])).push (.lst [])).push (.lst [])).push (.lst [])).push (.lst [])) = osS S ⟨[], fun _ => []⟩ := by
  rw [push_pushs, push_pushs, push_pushs, push_pushs, push_pushs]
  simp [osS, seenC]
theorem os_len (s : OS) : ∀ ps : List Pm, ∀ i, ((ps.foldl ordStep s).a i).length ≤ (s.a i).length + ps.length
  | [], i => by simp
  | p :: ps, i => by
    have := os_len (ordStep s p) ps i
    have := (os_grow s p).2 i
    simp only [List.foldl_cons, List.length_cons]
    omega
theorem ordered (ps : List Pm) (hl : ps.length ≤ 500) (m : Int) (S : Store) : m__law_ordered [.d (.lst (ps.map Pm.told)), .d (.int m)] S = .ok (.d (.lst (cut ((ordF ps).all.map Pm.told) none (some m)))) S := by
  unfold m__law_ordered
  rw [mkFn_eq (by rfl)]
  obtain ⟨x, y, z, e⟩ := ord_loop S.loc.length S (some (.d (.lst (ps.map Pm.told)))) (some (.d (.int m))) ps ⟨[], fun _ => []⟩ none none none (by simp; omega) (fun i => by simp; omega)
  unfold oLoop b__law_ordered at e
  dsimp only at e
  have e0 : ps.foldl ordStep ⟨[], fun _ => []⟩ = ordF ps := rfl
  rw [e0] at e
  have l := os_len ⟨[], fun _ => []⟩ ps
  rw [e0] at l
  simp only [List.length_nil, Nat.zero_add] at l
  have l0 := l 0
  have l1 := l 1
  have l2 := l 2
  have l3 := l 3
  obtain ⟨q, f⟩ := os_frz S (ordF ps) (some (.d (.lst (ps.map Pm.told)))) (some (.d (.int m))) x y z
  have a1 := os_add1 S (ordF ps) 0 1 (by decide) (by decide) (by omega) (by omega)
  have a2 := os_add2 S (ordF ps) ((ordF ps).a 0 ++ (ordF ps).a 1) 2 (by decide) (by rw [List.length_append]; omega) (by omega)
  have a3 := os_add2 S (ordF ps) ((ordF ps).a 0 ++ (ordF ps).a 1 ++ (ordF ps).a 2) 3 (by decide) (by rw [List.length_append, List.length_append]; omega) (by omega)
  have i0 : ixS (oFound S.loc.length) (.d (.int 0)) (osD S (ordF ps)) = .ok (.cell (S.loc.length + (0 + 1))) (osD S (ordF ps)) := rfl
  have i1 : ixS (oFound S.loc.length) (.d (.int 1)) (osD S (ordF ps)) = .ok (.cell (S.loc.length + (1 + 1))) (osD S (ordF ps)) := rfl
  have i2 : ixS (oFound S.loc.length) (.d (.int 2)) (osD S (ordF ps)) = .ok (.cell (S.loc.length + (2 + 1))) (osD S (ordF ps)) := rfl
  have i3 : ixS (oFound S.loc.length) (.d (.int 3)) (osD S (ordF ps)) = .ok (.cell (S.loc.length + (3 + 1))) (osD S (ordF ps)) := rfl
  have sl : slcS false (.d (.lst (((ordF ps).a 0 ++ (ordF ps).a 1 ++ (ordF ps).a 2 ++ (ordF ps).a 3).map Pm.told))) none (some m) (osD S (ordF ps)) = .ok (.d (.lst (cut ((ordF ps).all.map Pm.told) none (some m)))) (osD S (ordF ps)) := by
    have hr : (osD S (ordF ps)).rd (.d (.lst (((ordF ps).a 0 ++ (ordF ps).a 1 ++ (ordF ps).a 2 ++ (ordF ps).a 3).map Pm.told))) = some (.lst ((ordF ps).all.map Pm.told)) := rfl
    simp only [slcS, hr]
    refine mkL_ok (Nat.le_trans (cut_len _ _ _) ?_)
    rw [List.length_map]
    unfold OS.all
    rw [List.length_append, List.length_append, List.length_append]
    omega
  have fd : evs c__law_ordered (.cons (.lst true .nil) (.cons (.lst true .nil) (.cons (.lst true .nil) (.cons (.lst true .nil) .nil)))) [some (.d (.lst (ps.map Pm.told))), some (.d (.int m)), some (.cell S.loc.length), none, none, none, none] (S.push (.dct [] [])) = .ok [.cell (S.loc.length + 1), .cell (S.loc.length + 2), .cell (S.loc.length + 3), .cell (S.loc.length + 4)] (osS S ⟨[], fun _ => []⟩) := by
    simp [mkLst, unDs, mkL]
    exact os_made S
  have m0 : mkD true [] S = .ok (.cell S.loc.length) (S.push (.dct [] [])) := rfl
  have m1 : mkLst false [.cell (S.loc.length + 1), .cell (S.loc.length + 2), .cell (S.loc.length + 3), .cell (S.loc.length + 4)] (osS S ⟨[], fun _ => []⟩) = .ok (oFound S.loc.length) (osS S ⟨[], fun _ => []⟩) := rfl
  simp only [b__law_ordered, exs_cons, ex_set, ev_dct, evPs_nil, bnd_ok, m0, stm_ok, List.map_cons, List.map_nil, List.replicate, Nat.reduceSub, List.cons_append, List.nil_append, asg_v, List.set_cons_succ, List.set_cons_zero, seq_nx, ev_lst, fd, m1, ex_for, evIt_seq, ev_var, List.getElem?_cons_zero, List.getElem?_cons_succ, items, e, f, ex_ret, ev_slc, ev_bin, ev_ix, ev_con, i0, i1, i2, i3, a1, a2, a3, E.isNon, ofI, sl, if_true, Bool.false_eq_true, if_false, exs_nil, seq_ret, fin_ret, fin_d, osD_trunc]
/-! ### bars that are none of the names -/
def memD (d : D) (xs : List D) : Bool := xs.any fun y => y.eqv d
theorem bar_ly {d : D} (h : BarOk d) : d.ly 11 = true := by
  rcases h with ⟨x, rfl, _⟩ | ⟨_, h, _⟩
  · rfl
  · exact h
theorem bars_ly {ds : List D} (h : ∀ d ∈ ds, BarOk d) : (D.lst ds).ly lyMax = true := by
  show ds.all (D.ly 11) = true
  rw [List.all_eq_true]
  exact fun d hd => bar_ly (h d hd)
mutual
theorem lyUp : ∀ (n : Nat) (d : D), d.ly n = true → d.ly (n + 1) = true
  | _, .non, _ => by simp [D.ly]
  | _, .bl _, _ => by simp [D.ly]
  | _, .int _, _ => by simp [D.ly]
  | _, .str _, _ => by simp [D.ly]
  | 0, .tup _, h => by simp [D.ly] at h
  | 0, .lst _, h => by simp [D.ly] at h
  | n + 1, .tup ds, h => by
    simp only [D.ly] at h ⊢
    exact lysUp n ds h
  | n + 1, .lst ds, h => by
    simp only [D.ly] at h ⊢
    exact lysUp n ds h
  | _, .obj _ _, h => by simp [D.ly] at h
  | _, .dct _ _, h => by simp [D.ly] at h
  | _, .gref _, h => by simp [D.ly] at h
theorem lysUp : ∀ (n : Nat) (ds : List D), ds.all (D.ly n) = true → ds.all (D.ly (n + 1)) = true
  | _, [], _ => rfl
  | n, d :: ds, h => by
    simp only [List.all_cons, Bool.and_eq_true] at h ⊢
    exact ⟨lyUp n d h.1, lysUp n ds h.2⟩
end
theorem notin_lst {d : D} {xs : List D} {S : Store} (h : d.ly 11 = true) (hx : (D.lst xs).ly lyMax = true) : cmpS .notin (.d d) (.d (.lst xs)) S = .ok (.d (.bl (!memD d xs))) S := by
  have h2 : d.ly lyMax = true := lyUp 11 d h
  have h1 : S.rd (.d d) = some d := rd_ly h
  have h3 : S.rd (.d (.lst xs)) = some (.lst xs) := rfl
  have e : inS (.d d) (.d (.lst xs)) S = some (memD d xs) := by
    unfold inS
    simp only [h1, h3, h2, hx, Bool.and_self, if_true]
    rfl
  simp only [cmpS, e, ofB_some]
theorem notin_cell {d : D} {xs : List D} {S : Store} (h : d.ly 11 = true) (hx : (D.lst xs).ly lyMax = true) : cmpS .notin (.d d) (.cell S.loc.length) (S.push (.lst xs)) = .ok (.d (.bl (!memD d xs))) (S.push (.lst xs)) := by
  have h2 : d.ly lyMax = true := lyUp 11 d h
  have h1 : (S.push (.lst xs)).rd (.d d) = some d := rd_ly h
  have h3 : (S.push (.lst xs)).rd (.cell S.loc.length) = some (.lst xs) := by
    unfold Store.rd
    dsimp only
    rw [push_get]
  have e : inS (.d d) (.cell S.loc.length) (S.push (.lst xs)) = some (memD d xs) := by
    unfold inS
    simp only [h1, h3, h2, hx, Bool.and_self, if_true]
    rfl
  simp only [cmpS, e, ofB_some]
def barF (tk : List D) : List D → List D → List D
  | [], f => f
  | d :: ds, f => if !memD d tk && !memD d f then barF tk ds (f ++ [d]) else barF tk ds f
theorem barF_len (tk : List D) : ∀ ds f, (barF tk ds f).length ≤ f.length + ds.length
  | [], f => by simp [barF]
  | d :: ds, f => by
    rw [barF]
    split
    · have := barF_len tk ds (f ++ [d])
      simp only [List.length_append, List.length_cons, List.length_nil] at this ⊢
      omega
    · have := barF_len tk ds f
      simp only [List.length_cons]
      omega
theorem barF_mem (tk : List D) : ∀ ds f, ∀ d ∈ barF tk ds f, d ∈ f ∨ d ∈ ds
  | [], f, d, h => .inl h
  | x :: ds, f, d, h => by
    rw [barF] at h
    split at h
    · rcases barF_mem tk ds (f ++ [x]) d h with z | z
      · rcases List.mem_append.mp z with z | z
        · exact .inl z
        · exact .inr (by rw [List.mem_singleton] at z; rw [z]; exact List.mem_cons_self)
      · exact .inr (List.mem_cons_of_mem _ z)
    · rcases barF_mem tk ds f d h with z | z
      · exact .inl z
      · exact .inr (List.mem_cons_of_mem _ z)
theorem app_lst {d : D} {xs : List D} {S : Store} (h : xs.length < 1000) : mAppend (.cell S.loc.length) [.d d] (S.push (.lst xs)) = .ok (.d .non) (S.push (.lst (xs ++ [d]))) := by
  have h1 : atL (S.push (.lst xs)) (.cell S.loc.length) = some xs := by
    unfold atL
    rw [push_at]
  unfold mAppend
  simp only [h1]
  rw [if_pos (by omega), push_put]
theorem ty_lst {xs : List D} {S : Store} : tyS (.cell S.loc.length) (S.push (.lst xs)) = some .lst := by
  unfold tyS
  dsimp only
  rw [push_get]
def brLoop : Ss := match b__law_barred with
  | .cons _ (.cons _ (.cons (.for _ _ b) _)) => b
  | _ => .nil
theorem bar_loop (n : Nat) (S : Store) (r m w : Option T) (tk : List D) (ht : (D.lst tk).ly lyMax = true) : ∀ (ds f : List D) (x : Option T), (∀ d ∈ ds, BarOk d) → (∀ d ∈ f, BarOk d) → f.length + ds.length ≤ 900 → ∃ x',
    forL (forR c__law_barred n (.v 5) brLoop) ds [r, m, some (.d (.lst tk)), w, some (.cell S.loc.length), x] (S.push (.lst f)) = .nx [r, m, some (.d (.lst tk)), w, some (.cell S.loc.length), x'] (S.push (.lst (barF tk ds f)))
  | [], f, x, _, _, _ => ⟨x, rfl⟩
  | d :: ds, f, x, hd, hf, hl => by
    rw [List.length_cons] at hl
    have b0 := hd d List.mem_cons_self
    have hd2 : ∀ d ∈ ds, BarOk d := fun y hy => hd y (List.mem_cons_of_mem _ hy)
    have e1 := notin_lst (S := S.push (.lst f)) (bar_ly b0) ht
    have e2 := notin_cell (S := S) (bar_ly b0) (bars_ly hf)
    have e3 := app_lst (d := d) (xs := f) (S := S) (by omega)
    have e4 := ty_lst (xs := f) (S := S)
    rw [barF]
    by_cases hc : (!memD d tk && !memD d f) = true
    · rw [if_pos hc]
      obtain ⟨x', e⟩ := bar_loop n S r m w tk ht ds (f ++ [d]) (some (.d d)) hd2 (fun y hy => by
        rcases List.mem_append.mp hy with z | z
        · exact hf y z
        · rw [List.mem_singleton] at z; rw [z]; exact b0) (by rw [List.length_append]; show f.length + 1 + _ ≤ _; omega)
      refine ⟨x', ?_⟩
      rw [← e]
      refine forL_nx ?_
      simp only [Bool.and_eq_true, Bool.not_eq_true'] at hc
      unfold forR brLoop b__law_barred
      simp [e1, e2, e3, e4, hc.1, hc.2, mtS, Mt.on]
    · rw [if_neg hc]
      obtain ⟨x', e⟩ := bar_loop n S r m w tk ht ds f (some (.d d)) hd2 hf (by omega)
      refine ⟨x', ?_⟩
      rw [← e]
      refine forL_nx ?_
      unfold forR brLoop b__law_barred
      cases h1 : memD d tk with
      | true => simp [e1, e2, e3, e4, h1, mtS, Mt.on]
      | false =>
        cases h2 : memD d f with
        | true => simp [e1, e2, e3, e4, h1, h2, mtS, Mt.on]
        | false => exact absurd (by rw [h1, h2]; rfl) hc
theorem taken_comp {cx : Cxx} {i : Nat} (σ : Sl) (hi : i < σ.length) (ps : List Pm) (hl : ps.length ≤ 1000) (S : Store) : (unexc (compL (cmpR cx (.v i) (.cons (.cmp .inn (.ix (.var i) (.con (.int 0))) (.tup (.cons (.con (.str "both")) (.cons (.con (.str "tag")) .nil)))) .nil) (.ix (.var i) (.con (.int 1))) σ) (ps.map Pm.told) S)).bnd (mkLst false) = .ok (.d (.lst ((namesF ps).map .str))) S := by
  have e := compL_if (f := cmpR cx (.v i) (.cons (.cmp .inn (.ix (.var i) (.con (.int 0))) (.tup (.cons (.con (.str "both")) (.cons (.con (.str "tag")) .nil)))) .nil) (.ix (.var i) (.con (.int 1))) σ) (a := Pm.told) (p := Pm.byName) (g := fun p => .d (.str p.name)) (S := S) (xs := ps) fun p _ => by
    unfold cmpR
    simp [clrs, tgv, hi, row_0, row_1, row_by, mkTup, unDs]
    cases p.byName <;> rfl
  rw [e, unexc_ok, bnd_ok]
  have hl2 := List.length_filter_le Pm.byName ps
  rw [mkLst_ok (g := fun p : Pm => D.str p.name) (by omega)]
  unfold namesF
  rw [List.map_map]
  rfl
theorem barred (ps : List Pm) (hl : ps.length ≤ 500) (ds : List D) (hd : ∀ d ∈ ds, BarOk d) (h2 : ds.length ≤ 500) (S : Store) : m__law_barred [.d (.lst (ps.map Pm.told)), .d (.lst ds)] S = .ok (.d (.lst (barF ((namesF ps).map .str) ds []))) S := by
  unfold m__law_barred
  rw [mkFn_eq (by rfl)]
  have cp := taken_comp (cx := c__law_barred) (i := 3) [some (.d (.lst (ps.map Pm.told))), some (.d (.lst ds)), none, none, none, none] (by simp) ps (by omega) S
  obtain ⟨x', e⟩ := bar_loop S.loc.length S (some (.d (.lst (ps.map Pm.told)))) (some (.d (.lst ds))) none ((namesF ps).map .str) (strs_ly _) ds [] none hd (fun _ h => nomatch h) (by simp; omega)
  unfold brLoop b__law_barred at e
  dsimp only at e
  have m0 : mkLst true [] S = .ok (.cell S.loc.length) (S.push (.lst [])) := rfl
  obtain ⟨S', f1, f2⟩ := frz_lst (cx := c__law_barred) (i := 4) (S := S) (σ := [some (.d (.lst (ps.map Pm.told))), some (.d (.lst ds)), some (.d (.lst ((namesF ps).map .str))), none, some (.cell S.loc.length), x']) (xs := barF ((namesF ps).map .str) ds []) rfl
  simp [b__law_barred, items, cp, m0, e, f1, f2]
theorem good_bar {d : D} {b : Bool} (h : Good d b) : BarOk d ∧ nmB d = b := by
  cases h with
  | str x hx => exact ⟨.inl ⟨x, rfl, hx⟩, rfl⟩
  | other _ y h1 h2 h3 =>
    have e : nmB d = false := by cases d <;> first | rfl | (cases h1; exact absurd rfl h2)
    exact ⟨.inr ⟨e, h3, y, h1, h2⟩, e⟩
theorem os_mem : ∀ (ps : List Pm) (s : OS) (i : Nat) (p : Pm), p ∈ (ps.foldl ordStep s).a i → p ∈ s.a i ∨ p ∈ ps
  | [], s, i, p, h => .inl h
  | q :: ps, s, i, p, h => by
    rcases os_mem ps (ordStep s q) i p h with z | z
    · unfold ordStep at z
      split at z
      · exact .inl z
      · dsimp only at z
        split at z
        · rcases List.mem_append.mp z with z | z
          · exact .inl z
          · rw [List.mem_singleton] at z
            rw [z]
            exact .inr List.mem_cons_self
        · exact .inl z
    · exact .inr (List.mem_cons_of_mem _ z)
theorem ord_mem {ps : List Pm} {p : Pm} (h : p ∈ (ordF ps).all) : p ∈ ps := by
  have q : ∀ i, p ∈ (ordF ps).a i → p ∈ ps := fun i h => by
    rcases os_mem ps _ i p h with z | z
    · exact nomatch z
    · exact z
  unfold OS.all at h
  simp only [List.mem_append] at h
  rcases h with ((h | h) | h) | h <;> exact q _ h
theorem cut_take {α : Type} (xs : List α) (k : Nat) : cut xs none (some (k : Int)) = xs.take k := by
  unfold cut sIx
  have h : ¬ (k : Int) < 0 := by omega
  simp only [h, if_false, List.drop_zero, Nat.sub_zero, Int.toNat_natCast]
  rw [List.take_eq_take_iff]
  omega
end MnF
set_option Elab.async false
set_option linter.all false
set_option maxRecDepth 100000
set_option maxHeartbeats 0
/-! MnL: calls: numbers, items, laid (told as trees), call_of (told as a cell). -/
namespace MnL
open PySem Mn MnC MnF
/-! ### numbers -/
theorem log2_mono {a b : Nat} (h : a ≤ b) : a.log2 ≤ b.log2 := by
  by_cases ha : a = 0
  · subst ha
    rw [Nat.log2_zero]
    exact Nat.zero_le _
  · have h1 : b < 2 ^ (b.log2 + 1) := Nat.lt_log2_self
    have h2 := (Nat.log2_lt ha).mpr (Nat.lt_of_le_of_lt h h1)
    omega
/-- not too great -/
def Sm (c : Int) : Prop := c.natAbs.log2 ≤ 1048576
theorem sm_of {z : Int} (h : Builtin.Int.intBits z ≤ 1048576) : Sm z := by
  unfold Builtin.Int.intBits at h
  unfold Sm
  split at h
  · rename_i e
    have e : z = 0 := by simpa using e
    rw [e]
    decide
  · omega
theorem sm_le {a b : Int} (h : Sm b) (hl : a.natAbs ≤ b.natAbs) : Sm a := Nat.le_trans (log2_mono hl) h
theorem sm_small {a : Int} (h : a.natAbs < 2 ^ 64) : Sm a := by
  unfold Sm
  by_cases h0 : a.natAbs = 0
  · rw [h0]
    decide
  · have := (Nat.log2_lt h0).mpr h
    omega
theorem sm_mul {c j : Int} (h : Sm c) (hj : j.natAbs < 2 ^ 512) : mulOk c j = true := by
  have h2 : j.natAbs.log2 < 512 := by
    by_cases h0 : j.natAbs = 0
    · rw [h0]
      decide
    · exact (Nat.log2_lt h0).mpr hj
  unfold Sm at h
  unfold mulOk
  exact decide_eq_true (by omega)
theorem sm_at {ns : List Int} (hb : ∀ z ∈ ns, Builtin.Int.intBits z ≤ 1048576) (k : Nat) : Sm (ns.getD k 0) := by
  rw [List.getD_eq_getElem?_getD]
  cases h : ns[k]? with
  | none => exact sm_small (by decide)
  | some z => exact sm_of (hb z (List.mem_of_getElem? h))
/-! ### numbers that this text's words make -/
theorem pow_ok {i j : Int} {md : Bool} {S : Store} (h0 : 0 ≤ j) (h1 : j ≤ 1000) (h2 : i.natAbs < 18446744073709551616) : binS md .pow (.d (.int i)) (.d (.int j)) S = .ok (.d (.int (i ^ j.toNat))) S := by
  rw [bin_pow, if_pos ⟨h0, h1, h2⟩]
/-! ### items -/
inductive Itm where
  | one (x : Int) | row (xs : List Int) | named (z : Str) (x : Int) | book (ps : List (Str × Int))
def prD (p : Str × Int) : D := .tup [.str p.1, .int p.2]
def thD (xs : List Int) : List D := xs.map .int
def psD (ps : List (Str × Int)) : List D := ps.map prD
def Itm.d : Itm → D
  | .one x => .tup [.str "one", .int x]
  | .row xs => .tup [.str "row", .lst (thD xs)]
  | .named z x => .tup [.str "named", .str z, .int x]
  | .book ps => .tup [.str "book", .lst (psD ps)]
def Itm.things : Itm → List Int
  | .one x => [x]
  | .row xs => xs
  | _ => []
def Itm.pairs : Itm → List (Str × Int)
  | .named z x => [(z, x)]
  | .book ps => ps
  | _ => []
def thingsOf (its : List Itm) : List Int := its.flatMap Itm.things
def pairsOf (its : List Itm) : List (Str × Int) := its.flatMap Itm.pairs
def callD (its : List Itm) : D := .lst (its.map Itm.d)
def layD (xs : List Int) (ps : List (Str × Int)) : D := .tup [.lst (thD xs), .lst (psD ps)]
@[simp] theorem n_one_row : (Str.ofString "one" = Str.ofString "row") = False := eq_false (by decide +kernel)
@[simp] theorem n_one_named : (Str.ofString "one" = Str.ofString "named") = False := eq_false (by decide +kernel)
@[simp] theorem n_one_book : (Str.ofString "one" = Str.ofString "book") = False := eq_false (by decide +kernel)
@[simp] theorem n_row_one : (Str.ofString "row" = Str.ofString "one") = False := eq_false (by decide +kernel)
@[simp] theorem n_row_named : (Str.ofString "row" = Str.ofString "named") = False := eq_false (by decide +kernel)
@[simp] theorem n_row_book : (Str.ofString "row" = Str.ofString "book") = False := eq_false (by decide +kernel)
@[simp] theorem n_named_one : (Str.ofString "named" = Str.ofString "one") = False := eq_false (by decide +kernel)
@[simp] theorem n_named_row : (Str.ofString "named" = Str.ofString "row") = False := eq_false (by decide +kernel)
@[simp] theorem n_named_book : (Str.ofString "named" = Str.ofString "book") = False := eq_false (by decide +kernel)
@[simp] theorem n_book_one : (Str.ofString "book" = Str.ofString "one") = False := eq_false (by decide +kernel)
@[simp] theorem n_book_row : (Str.ofString "book" = Str.ofString "row") = False := eq_false (by decide +kernel)
@[simp] theorem n_book_named : (Str.ofString "book" = Str.ofString "named") = False := eq_false (by decide +kernel)
theorem thD_app (a b : List Int) : thD (a ++ b) = thD a ++ thD b := List.map_append
theorem psD_app (a b : List (Str × Int)) : psD (a ++ b) = psD a ++ psD b := List.map_append
theorem thD_len (a : List Int) : (thD a).length = a.length := List.length_map _
theorem psD_len (a : List (Str × Int)) : (psD a).length = a.length := List.length_map _
theorem int_ly (n : Nat) (x : Int) : (D.int x).ly n = true := by cases n <;> rfl
theorem str_ly (n : Nat) (x : Str) : (D.str x).ly n = true := by cases n <;> rfl
theorem pr_ly (n : Nat) (q : Str × Int) : (prD q).ly (n + 1) = true := by
  show ([D.str q.1, D.int q.2].all (D.ly n)) = true
  simp [str_ly, int_ly]
theorem all_map {α : Type} {f : α → D} {p : D → Bool} {l : List α} (h : ∀ x ∈ l, p (f x) = true) : (l.map f).all p = true := by
  rw [List.all_eq_true]
  intro y hy
  obtain ⟨x, hx, rfl⟩ := List.mem_map.mp hy
  exact h x hx
theorem thD_ly (n : Nat) (xs : List Int) : (D.lst (thD xs)).ly (n + 1) = true := all_map fun x _ => int_ly n x
theorem psD_ly (n : Nat) (ps : List (Str × Int)) : (D.lst (psD ps)).ly (n + 2) = true := all_map fun q _ => pr_ly n q
theorem itm_ly (it : Itm) (n : Nat) : it.d.ly (n + 3) = true := by
  cases it with
  | one x =>
    show ([D.str "one", D.int x].all (D.ly (n + 2))) = true
    simp [str_ly, int_ly]
  | row xs =>
    show ([D.str "row", D.lst (thD xs)].all (D.ly (n + 2))) = true
    simp [str_ly, thD_ly]
  | named z x =>
    show ([D.str "named", D.str z, D.int x].all (D.ly (n + 2))) = true
    simp [str_ly, int_ly]
  | book ps =>
    show ([D.str "book", D.lst (psD ps)].all (D.ly (n + 2))) = true
    simp [str_ly, psD_ly]
theorem call_ly (its : List Itm) (n : Nat) : (callD its).ly (n + 4) = true := all_map fun it _ => itm_ly it n
theorem ix_0 (w : Str) (l : List D) (S : Store) : ixS (.d (.tup (.str w :: l))) (.d (.int 0)) S = .ok (.d (.str w)) S := by
  have h0 : ixN (l.length + 1) 0 = some 0 := by
    rw [ixN_nn (by omega) (by omega)]
    rfl
  simp [ixS, Store.rd, h0]
theorem ix_1 (w x : D) (l : List D) (S : Store) : ixS (.d (.tup (w :: x :: l))) (.d (.int 1)) S = .ok (.d x) S := by
  have h0 : ixN (l.length + 1 + 1) 1 = some 1 := by
    rw [ixN_nn (by omega) (by omega)]
    rfl
  simp [ixS, Store.rd, h0]
theorem ix_2 (w x y : D) (l : List D) (S : Store) : ixS (.d (.tup (w :: x :: y :: l))) (.d (.int 2)) S = .ok (.d y) S := by
  have h0 : ixN (l.length + 1 + 1 + 1) 2 = some 2 := by
    rw [ixN_nn (by omega) (by omega)]
    rfl
  simp [ixS, Store.rd, h0]
/-! ### cells at the end of the frame -/
section
variable {S : Store} {L : List Cell} {j : Nat} {xs ys : List D}
theorem at_app (h : L[j]? = some (.lst xs)) {d : D} (hl : xs.length < 100000) : mAppend (.cell (S.loc.length + j)) [.d d] (S.pushs L) = .ok (.d .non) (S.pushs (L.set j (.lst (xs ++ [d])))) := by
  have a : (S.pushs L).at (.cell (S.loc.length + j)) = some (.lst xs) := pushs_at.trans h
  simp only [mAppend, atL, a, hl, if_true, pushs_put]
theorem at_ext (h : L[j]? = some (.lst xs)) {t : T} (ht : (S.pushs L).rdL t = some ys) (hl : xs.length + ys.length < 100000) : mExtend (.cell (S.loc.length + j)) [t] (S.pushs L) = .ok (.d .non) (S.pushs (L.set j (.lst (xs ++ ys)))) := by
  have a : (S.pushs L).at (.cell (S.loc.length + j)) = some (.lst xs) := pushs_at.trans h
  simp only [mExtend, atL, a, ht, hl, if_true, pushs_put]
theorem at_ty (h : L[j]? = some (.lst xs)) : tyS (.cell (S.loc.length + j)) (S.pushs L) = some .lst := by
  have e : (S.pushs L).loc[S.loc.length + j]? = some (.lst xs) := pushs_get.trans h
  unfold tyS
  dsimp only
  rw [e]
theorem at_app0 {r : List Cell} {d : D} (hl : xs.length < 100000) : mAppend (.cell S.loc.length) [.d d] (S.pushs (.lst xs :: r)) = .ok (.d .non) (S.pushs (.lst (xs ++ [d]) :: r)) := at_app (j := 0) rfl hl
theorem at_ext0 {r : List Cell} {t : T} (ht : (S.pushs (.lst xs :: r)).rdL t = some ys) (hl : xs.length + ys.length < 100000) : mExtend (.cell S.loc.length) [t] (S.pushs (.lst xs :: r)) = .ok (.d .non) (S.pushs (.lst (xs ++ ys) :: r)) := at_ext (j := 0) rfl ht hl
theorem at_ty0 {r : List Cell} : tyS (.cell S.loc.length) (S.pushs (.lst xs :: r)) = some .lst := at_ty (j := 0) rfl
theorem at_rdL (h : L[j]? = some (.lst xs)) : (S.pushs L).rdL (.cell (S.loc.length + j)) = some xs := by
  have e : (S.pushs L).loc[S.loc.length + j]? = some (.lst xs) := pushs_get.trans h
  simp only [Store.rdL, e]
theorem at_rd (h : L[j]? = some (.lst xs)) : (S.pushs L).rd (.cell (S.loc.length + j)) = some (.lst xs) := by
  have e : (S.pushs L).loc[S.loc.length + j]? = some (.lst xs) := pushs_get.trans h
  simp only [Store.rd, e]
/-- a cell's end, what follows -/
theorem at_frz {cx : Cxx} {i : Nat} {σ : Sl} {rest : Ss} {r : R T} (hσ : σ[i]? = some (some (.cell (S.loc.length + j)))) (h : L[j]? = some (.lst xs))
    (hr : ∀ L' : List Cell, (∀ i < j, L'[i]? = L[i]?) → (exs cx S.loc.length rest (σ.set i (some (.d (.lst xs)))) (S.pushs L')).fin S.loc.length = r) : ((ex cx S.loc.length (.frz i) σ (S.pushs L)).seq (exs cx S.loc.length rest)).fin S.loc.length = r := by
  have e : (S.pushs L).loc[S.loc.length + j]? = some (.lst xs) := pushs_get.trans h
  have hj := (List.getElem?_eq_some_iff.mp h).1
  rw [ex]
  simp only [hσ, e, Nat.le_add_right, if_true]
  split
  · have t : (S.pushs L).trunc (S.loc.length + j) = S.pushs (L.take j) := by
      simp only [Store.trunc, Store.pushs]
      rw [List.take_append, List.take_of_length_le (Nat.le_add_right _ _), Nat.add_sub_cancel_left]
    rw [t]
    exact hr _ fun i hi => by rw [List.getElem?_take, if_pos hi]
  · rw [pushs_setL]
    exact hr _ fun i hi => by rw [List.getElem?_set, if_neg (by omega)]
theorem at_frz0 {cx : Cxx} {i : Nat} {σ : Sl} {r : List Cell} {rest : Ss} {R1 : R T} (hσ : σ[i]? = some (some (.cell S.loc.length)))
    (hr : ∀ L' : List Cell, (exs cx S.loc.length rest (σ.set i (some (.d (.lst xs)))) (S.pushs L')).fin S.loc.length = R1) : ((ex cx S.loc.length (.frz i) σ (S.pushs (.lst xs :: r))).seq (exs cx S.loc.length rest)).fin S.loc.length = R1 :=
  at_frz (j := 0) hσ rfl fun L' _ => hr L'
end
theorem mkL_t {xs : List D} {S : Store} (h : xs.length ≤ 100000) : mkL true xs S = .ok (.cell S.loc.length) (S.push (.lst xs)) := by
  unfold mkL
  rw [if_pos h]
  rfl
@[simp] theorem mkLst_t0 {S : Store} : mkLst true [] S = .ok (.cell S.loc.length) (S.push (.lst [])) := rfl
@[simp] theorem mkLst_f0 {S : Store} : mkLst false [] S = .ok (.d (.lst [])) S := rfl
@[simp] theorem mkLst_f1 {S : Store} {d : D} : mkLst false [.d d] S = .ok (.d (.lst [d])) S := rfl
@[simp] theorem mkTup1 {S : Store} {a : D} : mkTup [.d a] S = .ok (.d (.tup [a])) S := rfl
@[simp] theorem mkTup2 {S : Store} {a b : D} : mkTup [.d a, .d b] S = .ok (.d (.tup [a, b])) S := rfl
@[simp] theorem mkTup3 {S : Store} {a b c : D} : mkTup [.d a, .d b, .d c] S = .ok (.d (.tup [a, b, c])) S := rfl
theorem add_lst {a b : List D} {S : Store} (h : a.length + b.length ≤ 100000) : binS false .add (.d (.lst a)) (.d (.lst b)) S = .ok (.d (.lst (a ++ b))) S := mkL_ok (by rw [List.length_append]; exact h)
theorem add_lstC {a b : List D} {S : Store} (h : a.length + b.length ≤ 100000) : binS true .add (.d (.lst a)) (.d (.lst b)) S = .ok (.cell S.loc.length) (S.push (.lst (a ++ b))) := mkL_t (by rw [List.length_append]; exact h)
@[simp] theorem items_lst {xs : List D} : items (.d (.lst xs)) = some xs := rfl
@[simp] theorem itemL_lst {xs : List D} : itemL (.d (.lst xs)) = some xs := rfl
@[simp] theorem items_tup {xs : List D} : items (.d (.tup xs)) = some xs := rfl
theorem compG_ok {f : D → Store → R (Option T)} {q : Store → Bool} {S : Store} (hq : q S = true) : ∀ {xs : List D} {ys : List T}, compL f xs S = .ok ys S → (∀ x ∈ xs, ∃ o, f x S = .ok o S) → compG f q xs S = .ok ys S := by
  intro xs ys h hp
  have e : compL (fun x S => if q S then f x S else .bad) xs S = compL f xs S := by
    clear h
    induction xs with
    | nil => rfl
    | cons x xs ih =>
      obtain ⟨o, ho⟩ := hp x List.mem_cons_self
      rw [compL, compL]
      simp only [hq, if_true]
      rw [ho, bnd_ok, bnd_ok, ih fun y hy => hp y (List.mem_cons_of_mem _ hy)]
  unfold compG
  rw [e, h, bnd_ok, if_pos hq]
/-- a list told by a comprehension -/
theorem comp_d {α : Type} {f : D → Store → R (Option T)} {a : α → D} {g : α → D} {S : Store} {xs : List α} (h : ∀ x ∈ xs, f (a x) S = .ok (some (.d (g x))) S) (hl : xs.length ≤ 100000) : (unexc (compL f (xs.map a) S)).bnd (mkLst false) = .ok (.d (.lst (xs.map g))) S := by
  rw [compL_on (g := fun x => .d (g x)) h, unexc_ok, bnd_ok, mkLst_ok hl]
theorem comp_if {α : Type} {f : D → Store → R (Option T)} {a : α → D} {p : α → Bool} {g : α → D} {S : Store} {xs : List α} (h : ∀ x ∈ xs, f (a x) S = .ok (if p x then some (.d (g x)) else none) S) (hl : xs.length ≤ 100000) : (unexc (compL f (xs.map a) S)).bnd (mkLst false) = .ok (.d (.lst ((xs.filter p).map g))) S := by
  rw [compL_if (g := fun x => .d (g x)) h, unexc_ok, bnd_ok, mkLst_ok (Nat.le_trans (List.length_filter_le _ _) hl)]
theorem compG_d {α : Type} {f : D → Store → R (Option T)} {a : α → D} {g : α → D} {z : T} {S : Store} {xs : List α} (hz : S.rdL z = some (xs.map a)) (h : ∀ x ∈ xs, f (a x) S = .ok (some (.d (g x))) S) (hl : xs.length ≤ 100000) : (unexc (compG f (grd z (xs.map a)) (xs.map a) S)).bnd (mkLst false) = .ok (.d (.lst (xs.map g))) S := by
  rw [compG_ok (grd_ok hz) (compL_on (g := fun x => .d (g x)) h) fun y hy => by
    obtain ⟨x, hx, rfl⟩ := List.mem_map.mp hy
    exact ⟨_, h x hx⟩, unexc_ok, bnd_ok, mkLst_ok hl]
theorem rngL_map (n : Nat) : rngL 0 n = (List.range n).map fun (i : Nat) => D.int (i : Int) := by
  unfold rngL
  refine List.map_congr_left fun i _ => ?_
  rw [Int.zero_add]
theorem enumL_map : ∀ (k : Nat) {α : Type} (f : α → D) (xs : List α), enumL k (xs.map f) = (xs.zipIdx k).map fun p => .tup [.int (p.2 : Int), f p.1]
  | _, _, _, [] => rfl
  | k, _, f, x :: xs => by
    rw [List.map_cons, enumL, enumL_map (k + 1) f xs, List.zipIdx_cons, List.map_cons]
/-! ### laid -/
def b_laid : Ss :=
  (.cons (.set (.v 1) (.lst true .nil))
  (.cons (.set (.v 2) (.lst true .nil))
  (.cons (.for (.v 3) (.seq (.var 0))
  (.cons (.ife (.cmp .eq (.ix (.var 3) (.con (.int 0))) (.con (.str "one")))
  (.cons (.expr (.mt false .append (.var 1) (.cons (.ix (.var 3) (.con (.int 1))) .nil)))
  .nil)
  (.cons (.ife (.cmp .eq (.ix (.var 3) (.con (.int 0))) (.con (.str "row")))
  (.cons (.expr (.mt false .extend (.var 1) (.cons (.ix (.var 3) (.con (.int 1))) .nil)))
  .nil)
  (.cons (.ife (.cmp .eq (.ix (.var 3) (.con (.int 0))) (.con (.str "named")))
  (.cons (.expr (.mt false .append (.var 2) (.cons (.tup (.cons (.ix (.var 3) (.con (.int 1))) (.cons (.ix (.var 3) (.con (.int 2))) .nil))) .nil)))
  .nil)
  (.cons (.expr (.mt false .extend (.var 2) (.cons (.comp false (.t (.cons (.v 4) (.cons (.v 5) .nil))) (.seq (.ix (.var 3) (.con (.int 1)))) .nil (.tup (.cons (.var 4) (.cons (.var 5) .nil)))) .nil)))
  .nil))
  .nil))
  .nil))
  .nil))
  (.cons (.frz 2)
  (.cons (.frz 1)
  (.cons (.ret (.tup (.cons (.var 1) (.cons (.var 2) .nil))))
  .nil))))))
def c_laid : Cxx := { glo := [], cal := [], dis := [], new := [], newk := [], up := [], new0 := [] }
def m_laid : Fn := mkFn c_laid 1 6 b_laid
def lBody : Ss := match b_laid with
  | .cons _ (.cons _ (.cons (.for _ _ b) _)) => b
  | _ => .nil
theorem laid_step (n : Nat) (S : Store) (it : Itm) (xs : List Int) (ps : List (Str × Int)) (hx : xs.length + it.things.length < 90000) (hp : ps.length + it.pairs.length < 90000) (r a : Option T) :
    forR c_laid n (.v 3) lBody it.d [r, some (.cell S.loc.length), some (.cell (S.loc.length + 1)), a, none, none] (S.pushs [.lst (thD xs), .lst (psD ps)]) = .nx [r, some (.cell S.loc.length), some (.cell (S.loc.length + 1)), some (.d it.d), none, none] (S.pushs [.lst (thD (xs ++ it.things)), .lst (psD (ps ++ it.pairs))]) := by
  have lx := thD_len xs
  have lp := psD_len ps
  unfold forR lBody b_laid
  cases it with
  | one x =>
    have a1 := at_app0 (S := S) (xs := thD xs) (r := [.lst (psD ps)]) (d := .int x) (by omega)
    have t0 := at_ty0 (S := S) (xs := thD xs) (r := [.lst (psD ps)])
    simp -implicitDefEqProofs [Itm.d, ix_0, ix_1, t0, Mt.on, mtS, a1, Itm.things, Itm.pairs, thD_app]
    rfl
  | named z x =>
    have hp : ps.length + 1 < 90000 := hp
    have a1 := at_app (S := S) (L := [.lst (thD xs), .lst (psD ps)]) (j := 1) (xs := psD ps) rfl (d := prD (z, x)) (by omega)
    have t1 := at_ty (S := S) (L := [.lst (thD xs), .lst (psD ps)]) (j := 1) (xs := psD ps) rfl
    have t2 : ∀ S, mkTup [.d (.str z), .d (.int x)] S = .ok (.d (prD (z, x))) S := fun _ => rfl
    simp -implicitDefEqProofs [Itm.d, ix_0, ix_1, ix_2, t1, Mt.on, mtS, a1, t2, Itm.things, Itm.pairs, psD_app]
    rfl
  | row ys =>
    have ly := thD_len ys
    have hx : xs.length + ys.length < 90000 := hx
    have a1 := at_ext0 (S := S) (xs := thD xs) (r := [.lst (psD ps)]) (t := .d (.lst (thD ys))) (ys := thD ys) rfl (by omega)
    have t0 := at_ty0 (S := S) (xs := thD xs) (r := [.lst (psD ps)])
    simp -implicitDefEqProofs [Itm.d, ix_0, ix_1, t0, Mt.on, mtS, a1, Itm.things, Itm.pairs, thD_app]
  | book qs =>
    have lq := psD_len qs
    have hp : ps.length + qs.length < 90000 := hp
    have a1 := at_ext (S := S) (L := [.lst (thD xs), .lst (psD ps)]) (j := 1) (xs := psD ps) rfl (t := .d (.lst (psD qs))) (ys := psD qs) rfl (by omega)
    have t1 := at_ty (S := S) (L := [.lst (thD xs), .lst (psD ps)]) (j := 1) (xs := psD ps) rfl
    have cm : (unexc (compL (cmpR c_laid (.t (.cons (.v 4) (.cons (.v 5) .nil))) .nil (.tup (.cons (.var 4) (.cons (.var 5) .nil))) [r, some (.cell S.loc.length), some (.cell (S.loc.length + 1)), some (.d (.tup [.str "book", .lst (psD qs)])), none, none]) (psD qs) (S.pushs [.lst (thD xs), .lst (psD ps)]))).bnd (mkLst false) = .ok (.d (.lst (psD qs))) (S.pushs [.lst (thD xs), .lst (psD ps)]) := comp_d (a := prD) (g := prD) (fun q _ => by
      unfold cmpR
      simp -implicitDefEqProofs [clrs, tgv, tgvs, prD]) (by omega)
    simp -implicitDefEqProofs [Itm.d, ix_0, ix_1, t1, Mt.on, mtS, cm, a1, Itm.things, Itm.pairs, psD_app]
theorem laid_loop (n : Nat) (S : Store) (r : Option T) : ∀ (its : List Itm) (xs : List Int) (ps : List (Str × Int)) (a : Option T), xs.length + (thingsOf its).length < 90000 → ps.length + (pairsOf its).length < 90000 → ∃ a',
    forL (forR c_laid n (.v 3) lBody) (its.map Itm.d) [r, some (.cell S.loc.length), some (.cell (S.loc.length + 1)), a, none, none] (S.pushs [.lst (thD xs), .lst (psD ps)]) = .nx [r, some (.cell S.loc.length), some (.cell (S.loc.length + 1)), a', none, none] (S.pushs [.lst (thD (xs ++ thingsOf its)), .lst (psD (ps ++ pairsOf its))])
  | [], xs, ps, a, _, _ => ⟨a, by simp [thingsOf, pairsOf]⟩
  | it :: its, xs, ps, a, hx, hp => by
    have t1 : thingsOf (it :: its) = it.things ++ thingsOf its := List.flatMap_cons
    have t2 : pairsOf (it :: its) = it.pairs ++ pairsOf its := List.flatMap_cons
    rw [t1, List.length_append] at hx
    rw [t2, List.length_append] at hp
    obtain ⟨a', e⟩ := laid_loop n S r its (xs ++ it.things) (ps ++ it.pairs) (some (.d it.d)) (by rw [List.length_append]; omega) (by rw [List.length_append]; omega)
    refine ⟨a', ?_⟩
    rw [List.map_cons, forL_nx (laid_step n S it xs ps (by omega) (by omega) r a), e, t1, t2]
    simp only [List.append_assoc]
theorem laid_ok (its : List Itm) (hx : (thingsOf its).length < 90000) (hp : (pairsOf its).length < 90000) (S : Store) : m_laid [.d (callD its)] S = .ok (.d (layD (thingsOf its) (pairsOf its))) S := by
  obtain ⟨a', e⟩ := laid_loop S.loc.length S (some (.d (callD its))) its [] [] none (by simpa using hx) (by simpa using hp)
  simp only [List.nil_append] at e
  unfold lBody b_laid at e
  dsimp only at e
  have l0 : (S.push (.lst [])).loc.length = S.loc.length + 1 := push_len
  have s0 : (S.push (.lst [])).push (.lst []) = S.pushs [.lst (thD []), .lst (psD [])] := (congrArg (Store.push · (.lst [])) push_pushs).trans pushs_push
  have it : items (.d (callD its)) = some (its.map Itm.d) := rfl
  unfold m_laid
  rw [mkFn_eq (by rfl)]
  simp -implicitDefEqProofs only [b_laid, List.map_cons, List.map_nil, List.replicate, Nat.reduceSub, List.cons_append, List.nil_append, exs_cons, ex_set, ev_lst, evs_nil, bnd_ok, mkLst_t0, stm_ok, asg_v, List.set_cons_succ, List.set_cons_zero, seq_nx, l0, s0, ex_for, evIt_seq, ev_var, List.getElem?_cons_zero, List.getElem?_cons_succ, it, e]
  refine at_frz (j := 1) rfl rfl fun L' h => ?_
  have h0 := h 0 (by omega)
  obtain ⟨r, rfl⟩ : ∃ r, L' = .lst (thD (thingsOf its)) :: r := by
    cases L' with
    | nil => cases h0
    | cons c r =>
      have h0 : some c = some _ := h0
      cases h0
      exact ⟨r, rfl⟩
  rw [exs_cons]
  refine at_frz0 rfl fun L' => ?_
  simp -implicitDefEqProofs only [exs_cons, ex_ret, ev_tup, evs_cons, evs_nil, ev_var, List.set_cons_succ, List.set_cons_zero, List.getElem?_cons_zero, List.getElem?_cons_succ, bnd_ok, mkTup2, stm_ok, seq_ret, fin_ret, fin_d, pushs_trunc]
  rfl
/-! ### call_of -/
def plainI (xs : List Int) (ps : List (Str × Int)) : List Itm := xs.map Itm.one ++ ps.map fun p => Itm.named p.1 p.2
theorem plain_d (xs : List Int) (ps : List (Str × Int)) : (plainI xs ps).map Itm.d = (xs.map fun x => (Itm.one x).d) ++ (ps.map fun q => (Itm.named q.1 q.2).d) := by
  unfold plainI
  rw [List.map_append, List.map_map, List.map_map]
  rfl
theorem plain_parts (xs : List Int) (ps : List (Str × Int)) : thingsOf (plainI xs ps) = xs ∧ pairsOf (plainI xs ps) = ps := by
  unfold plainI thingsOf pairsOf
  refine ⟨?_, ?_⟩
  · rw [List.flatMap_append, List.flatMap_map, List.flatMap_map]
    have a : ∀ l : List Int, l.flatMap (fun x => (Itm.one x).things) = l := fun l => by induction l <;> simp_all [Itm.things]
    have b : ∀ l : List (Str × Int), l.flatMap (fun q => (Itm.named q.1 q.2).things) = [] := fun l => by induction l <;> simp_all [Itm.things]
    rw [a, b, List.append_nil]
  · rw [List.flatMap_append, List.flatMap_map, List.flatMap_map]
    have a : ∀ l : List Int, l.flatMap (fun x => (Itm.one x).pairs) = [] := fun l => by induction l <;> simp_all [Itm.pairs]
    have b : ∀ l : List (Str × Int), l.flatMap (fun q => (Itm.named q.1 q.2).pairs) = l := fun l => by induction l <;> simp_all [Itm.pairs]
    rw [a, b, List.nil_append]
def E1 : E := .tup (.cons (.con (.str "one")) (.cons (.var 2) .nil))
def E2 : E := .tup (.cons (.con (.str "named")) (.cons (.var 3) (.cons (.var 2) .nil)))
def G2 : Tg := .t (.cons (.v 3) (.cons (.v 2) .nil))
theorem flat_1 {cx : Cxx} {t u : Option T} (xs : List Int) (hl : xs.length ≤ 90000) (S : Store) : (unexc (compL (cmpR cx (.v 2) .nil (.tup (.cons (.con (.str "one")) (.cons (.var 2) .nil))) [t, u, none, none]) (thD xs) S)).bnd (mkLst false) = .ok (.d (.lst (xs.map fun x => (Itm.one x).d))) S := comp_d (a := D.int) (g := fun x => (Itm.one x).d) (fun x _ => by
  unfold cmpR
  simp -implicitDefEqProofs [clrs, tgv, Itm.d]) (by omega)
theorem flat_2 {cx : Cxx} {t u : Option T} (ps : List (Str × Int)) (hl : ps.length ≤ 90000) (S : Store) : (unexc (compL (cmpR cx (.t (.cons (.v 3) (.cons (.v 2) .nil))) .nil (.tup (.cons (.con (.str "named")) (.cons (.var 3) (.cons (.var 2) .nil)))) [t, u, none, none]) (psD ps) S)).bnd (mkLst false) = .ok (.d (.lst (ps.map fun q => (Itm.named q.1 q.2).d))) S := comp_d (a := prD) (g := fun q => (Itm.named q.1 q.2).d) (fun q _ => by
  unfold cmpR
  simp -implicitDefEqProofs [clrs, tgv, tgvs, prD, Itm.d]) (by omega)
def b_call_of (md : Bool) : Ss :=
  (.cons (.ret (.bin md .add (.comp false (.v 2) (.seq (.var 0)) .nil (.tup (.cons (.con (.str "one")) (.cons (.var 2) .nil)))) (.comp false (.t (.cons (.v 3) (.cons (.v 2) .nil))) (.seq (.var 1)) .nil (.tup (.cons (.con (.str "named")) (.cons (.var 3) (.cons (.var 2) .nil)))))))
  .nil)
def c_call_of : Cxx := { glo := [], cal := [], dis := [], new := [], newk := [], up := [], new0 := [] }
def m_call_of (md : Bool) : Fn := mkFn c_call_of 2 4 (b_call_of md)
theorem call_of_d (xs : List Int) (ps : List (Str × Int)) (h1 : xs.length ≤ 40000) (h2 : ps.length ≤ 40000) (S : Store) : m_call_of false [.d (.lst (thD xs)), .d (.lst (psD ps))] S = .ok (.d (callD (plainI xs ps))) S := by
  have ad := add_lst (a := xs.map fun x => (Itm.one x).d) (b := ps.map fun q => (Itm.named q.1 q.2).d) (S := S) (by simp; omega)
  rw [← plain_d] at ad
  unfold m_call_of
  rw [mkFn_eq (by rfl)]
  simp -implicitDefEqProofs only [b_call_of, List.map_cons, List.map_nil, List.replicate, Nat.reduceSub, List.cons_append, List.nil_append, exs_cons, ex_ret, ev_bin, ev_comp, evIt_seq, items_lst, ev_var, List.getElem?_cons_zero, List.getElem?_cons_succ, bnd_ok, flat_1 xs (show _ ≤ 90000 by omega), flat_2 ps (show _ ≤ 90000 by omega), ad, stm_ok, seq_ret, fin_ret, fin_d, trunc_self]
  rfl
theorem call_of_c (xs : List Int) (ps : List (Str × Int)) (h1 : xs.length ≤ 40000) (h2 : ps.length ≤ 40000) (S : Store) : m_call_of true [.d (.lst (thD xs)), .d (.lst (psD ps))] S = .ok (.cell S.loc.length) (S.push (.lst ((plainI xs ps).map Itm.d))) := by
  have ad := add_lstC (a := xs.map fun x => (Itm.one x).d) (b := ps.map fun q => (Itm.named q.1 q.2).d) (S := S) (by simp; omega)
  rw [← plain_d] at ad
  have fc : fin S.loc.length (.cell S.loc.length) (S.push (.lst ((plainI xs ps).map Itm.d))) = .ok (.cell S.loc.length) (S.push (.lst ((plainI xs ps).map Itm.d))) := by
    unfold fin
    simp only [Nat.lt_irrefl, if_false, push_get, push_trunc]
  unfold m_call_of
  rw [mkFn_eq (by rfl)]
  simp -implicitDefEqProofs only [b_call_of, List.map_cons, List.map_nil, List.replicate, Nat.reduceSub, List.cons_append, List.nil_append, exs_cons, ex_ret, ev_bin, ev_comp, evIt_seq, items_lst, ev_var, List.getElem?_cons_zero, List.getElem?_cons_succ, bnd_ok, flat_1 xs (show _ ≤ 90000 by omega), flat_2 ps (show _ ≤ 90000 by omega), ad, stm_ok, seq_ret, fin_ret, fc]
end MnL
set_option Elab.async false
set_option linter.all false
set_option maxRecDepth 100000
/-! Lk31A: the meaning of the defs of law_k31_changes_one_by_one (printed by tr.py). -/
namespace Lk31
open PySem Mn
/-! _law_mix: 0=_law_cell 1=_law_k 2=_law_number -/
def b__law_mix : Ss :=
  (.cons (.set (.v 2) (.bin false .mod (.bin false .add (.bin false .add (.bin false .mul (.bin false .mod (.var 0) (.con (.int 2147483629))) (.con (.int 48271))) (.bin false .mul (.bin false .mul (.var 1) (.var 1)) (.con (.int 7919)))) (.bin false .mul (.con (.int 31)) (.var 1))) (.con (.int 2147483647))))
  (.cons (.ret (.bin false .mod (.bin false .add (.bin false .add (.bin false .mul (.var 2) (.var 2)) (.bin false .mul (.con (.int 40693)) (.var 2))) (.var 1)) (.con (.int 2147483587))))
  .nil))
def c__law_mix : Cxx := { glo := [], cal := [], dis := [], new := [], newk := [], up := [], new0 := [] }
def m__law_mix : Fn := mkFn c__law_mix 2 3 b__law_mix
/-! _law_pool: 0=_law_cell 1=_law_letters 2=_law_pool_here 3=_law_k 4=_law_number 5=_law_rest 6=_law_name 7=_law_j -/
def b__law_pool : Ss :=
  (.cons (.set (.v 1) (.ix (.lst false (.cons (.con (.str "ab")) (.cons (.con (.str "abcdefghijklmnopqrstuvwxyz")) .nil))) (.bin false .mod (.var 0) (.con (.int 2)))))
  (.cons (.set (.v 2) (.lst true .nil))
  (.cons (.for (.v 3) (.rng (.cons (.ix (.lst false (.cons (.con (.int 12)) (.cons (.con (.int 30)) .nil))) (.bi false .int (.cons (.cmp .eq (.bin false .mod (.var 0) (.con (.int 16))) (.con (.int 5))) .nil))) .nil))
  (.cons (.set (.v 4) (.call 0 (.cons (.var 0) (.cons (.var 3) .nil))))
  (.cons (.set (.v 5) (.bin false .fdiv (.var 4) (.con (.int 8))))
  (.cons (.set (.v 6) (.con (.str "")))
  (.cons (.for (.v 7) (.rng (.cons (.bin false .add (.con (.int 1)) (.bin false .mod (.var 4) (.ix (.lst false (.cons (.con (.int 3)) (.cons (.con (.int 8)) .nil))) (.bin false .mod (.var 0) (.con (.int 2)))))) .nil))
  (.cons (.set (.v 6) (.bin false .add (.var 6) (.ix (.var 1) (.bin false .mod (.var 5) (.bi false .len (.cons (.var 1) .nil))))))
  (.cons (.set (.v 5) (.bin false .fdiv (.var 5) (.bi false .len (.cons (.var 1) .nil))))
  .nil)))
  (.cons (.ife (.cmp .notin (.var 6) (.var 2))
  (.cons (.expr (.mt false .append (.var 2) (.cons (.var 6) .nil)))
  .nil)
  .nil)
  .nil))))))
  (.cons (.frz 2)
  (.cons (.ret (.var 2))
  .nil)))))
def c__law_pool : Cxx := { glo := [], cal := [{ f := m__law_mix, dv := [] }], dis := [], new := [], newk := [], up := [], new0 := [] }
@[simp] theorem cc__law_pool_0 : c__law_pool.cal[0]? = some { f := m__law_mix, dv := [] } := rfl
def m__law_pool : Fn := mkFn c__law_pool 1 8 b__law_pool
/-! _law_nth: 0=_law_script 1=_law_k -/
def b__law_nth : Ss :=
  (.cons (.ret (.ife (.cmp .lt (.var 1) (.bi false .len (.cons (.var 0) .nil))) (.ix (.var 0) (.var 1)) (.con (.int 0))))
  .nil)
def c__law_nth : Cxx := { glo := [], cal := [], dis := [], new := [], newk := [], up := [], new0 := [] }
def m__law_nth : Fn := mkFn c__law_nth 2 2 b__law_nth
/-! _law_thing: 0=_law_cell -/
def b__law_thing : Ss :=
  (.cons (.ife (.cmp .eq (.bin false .mod (.var 0) (.con (.int 2))) (.con (.int 0)))
  (.cons (.ret (.bin false .sub (.bin false .mod (.bin false .fdiv (.var 0) (.con (.int 2))) (.con (.int 41))) (.con (.int 20))))
  .nil)
  .nil)
  (.cons (.ret (.bin false .sub (.bin false .mod (.bin false .fdiv (.var 0) (.con (.int 2))) (.bin false .sub (.bin false .mul (.con (.int 2)) (.bin false .pow (.con (.int 10)) (.con (.int 60)))) (.con (.int 1)))) (.bin false .sub (.bin false .pow (.con (.int 10)) (.con (.int 60))) (.con (.int 1)))))
  .nil))
def c__law_thing : Cxx := { glo := [], cal := [], dis := [], new := [], newk := [], up := [], new0 := [] }
def m__law_thing : Fn := mkFn c__law_thing 1 1 b__law_thing
/-! _law_items: 0=_law_cells 1=_law_pool_here 2=_law_items_here 3=_law_cell 4=_law_kind 5=_law_rest 6=_law_names 7=_law_k 8=_law_name -/
def b__law_items : Ss :=
  (.cons (.set (.v 2) (.lst true .nil))
  (.cons (.for (.v 3) (.seq (.var 0))
  (.cons (.set (.v 4) (.bin false .mod (.var 3) (.con (.int 8))))
  (.cons (.set (.v 5) (.bin false .fdiv (.var 3) (.con (.int 8))))
  (.cons (.ife (.cmp .lt (.var 4) (.con (.int 3)))
  (.cons (.expr (.mt false .append (.var 2) (.cons (.tup (.cons (.con (.str "one")) (.cons (.call 0 (.cons (.var 5) .nil)) .nil))) .nil)))
  .nil)
  (.cons (.ife (.cmp .eq (.var 4) (.con (.int 3)))
  (.cons (.expr (.mt false .append (.var 2) (.cons (.tup (.cons (.con (.str "row")) (.cons (.comp false (.v 7) (.rng (.cons (.bin false .mod (.var 5) (.con (.int 5))) .nil)) .nil (.call 0 (.cons (.bin false .add (.var 5) (.bin false .mul (.var 7) (.var 7))) .nil))) .nil))) .nil)))
  .nil)
  (.cons (.ife (.cmp .eq (.var 4) (.con (.int 7)))
  (.cons (.set (.v 6) (.comp false (.v 7) (.rng (.cons (.bin false .mod (.var 5) (.con (.int 4))) .nil)) .nil (.ix (.var 1) (.bin false .mod (.bin false .add (.var 5) (.bin false .mul (.var 7) (.bin false .add (.con (.int 1)) (.bin false .mod (.bin false .fdiv (.var 5) (.con (.int 5))) (.con (.int 3)))))) (.bi false .len (.cons (.var 1) .nil))))))
  (.cons (.expr (.mt false .append (.var 2) (.cons (.tup (.cons (.con (.str "book")) (.cons (.comp false (.v 8) (.seq (.var 6)) .nil (.tup (.cons (.var 8) (.cons (.call 0 (.cons (.bin false .add (.bin false .fdiv (.var 5) (.con (.int 5))) (.bi false .len (.cons (.var 8) .nil))) .nil)) .nil)))) .nil))) .nil)))
  .nil))
  (.cons (.expr (.mt false .append (.var 2) (.cons (.tup (.cons (.con (.str "named")) (.cons (.ix (.var 1) (.bin false .mod (.var 5) (.bi false .len (.cons (.var 1) .nil)))) (.cons (.call 0 (.cons (.bin false .fdiv (.var 5) (.con (.int 3))) .nil)) .nil)))) .nil)))
  .nil))
  .nil))
  .nil))
  .nil))))
  (.cons (.frz 2)
  (.cons (.ret (.var 2))
  .nil))))
def c__law_items : Cxx := { glo := [], cal := [{ f := m__law_thing, dv := [] }], dis := [], new := [], newk := [], up := [], new0 := [] }
@[simp] theorem cc__law_items_0 : c__law_items.cal[0]? = some { f := m__law_thing, dv := [] } := rfl
def m__law_items : Fn := mkFn c__law_items 2 9 b__law_items
/-! _law_laid: 0=_law_items_here 1=_law_things 2=_law_pairs 3=_law_item -/
def b__law_laid : Ss :=
  (.cons (.set (.v 1) (.lst false .nil))
  (.cons (.set (.v 2) (.lst false .nil))
  (.cons (.for (.v 3) (.seq (.var 0))
  (.cons (.ife (.cmp .eq (.ix (.var 3) (.con (.int 0))) (.con (.str "one")))
  (.cons (.set (.v 1) (.bin false .add (.var 1) (.lst false (.cons (.ix (.var 3) (.con (.int 1))) .nil))))
  .nil)
  (.cons (.ife (.cmp .eq (.ix (.var 3) (.con (.int 0))) (.con (.str "row")))
  (.cons (.set (.v 1) (.bin false .add (.var 1) (.ix (.var 3) (.con (.int 1)))))
  .nil)
  (.cons (.ife (.cmp .eq (.ix (.var 3) (.con (.int 0))) (.con (.str "named")))
  (.cons (.set (.v 2) (.bin false .add (.var 2) (.lst false (.cons (.tup (.cons (.ix (.var 3) (.con (.int 1))) (.cons (.ix (.var 3) (.con (.int 2))) .nil))) .nil))))
  .nil)
  (.cons (.set (.v 2) (.bin false .add (.var 2) (.ix (.var 3) (.con (.int 1)))))
  .nil))
  .nil))
  .nil))
  .nil))
  (.cons (.ret (.tup (.cons (.var 1) (.cons (.var 2) .nil))))
  .nil))))
def c__law_laid : Cxx := { glo := [], cal := [], dis := [], new := [], newk := [], up := [], new0 := [] }
def m__law_laid : Fn := mkFn c__law_laid 1 4 b__law_laid
/-! _law_change: 0=_law_cell 1=_law_pool_here 2=_law_name -/
def b__law_change : Ss :=
  (.cons (.set (.v 2) (.ix (.var 1) (.bin false .mod (.bin false .fdiv (.var 0) (.con (.int 4))) (.bi false .len (.cons (.var 1) .nil)))))
  (.cons (.ret (.ix (.lst false (.cons (.tup (.cons (.con (.str "less")) .nil)) (.cons (.tup (.cons (.con (.str "more")) .nil)) (.cons (.tup (.cons (.con (.str "out")) (.cons (.var 2) .nil))) (.cons (.tup (.cons (.con (.str "in")) (.cons (.var 2) .nil))) .nil))))) (.bin false .mod (.var 0) (.con (.int 4)))))
  .nil))
def c__law_change : Cxx := { glo := [], cal := [], dis := [], new := [], newk := [], up := [], new0 := [] }
def m__law_change : Fn := mkFn c__law_change 2 3 b__law_change
/-! _law_behind: 0=_law_things 1=_law_pairs 2=_law_change_here 3=_law_there 4=_law_j -/
def b__law_behind : Ss :=
  (.cons (.ife (.cmp .eq (.ix (.var 2) (.con (.int 0))) (.con (.str "more")))
  (.cons (.ret (.tup (.cons (.bin false .add (.var 0) (.lst false (.cons (.con (.int 0)) .nil))) (.cons (.var 1) .nil))))
  .nil)
  .nil)
  (.cons (.ife (.cmp .eq (.ix (.var 2) (.con (.int 0))) (.con (.str "in")))
  (.cons (.ret (.tup (.cons (.var 0) (.cons (.bin false .add (.var 1) (.lst false (.cons (.tup (.cons (.ix (.var 2) (.con (.int 1))) (.cons (.con (.int 0)) .nil))) .nil))) .nil))))
  .nil)
  .nil)
  (.cons (.ife (.cmp .eq (.ix (.var 2) (.con (.int 0))) (.con (.str "less")))
  (.cons (.ret (.ife (.cmp .eq (.var 0) (.lst false .nil)) (.con .non) (.tup (.cons (.slc false (.var 0) (.con .non) (.neg (.con (.int 1)))) (.cons (.var 1) .nil)))))
  .nil)
  .nil)
  (.cons (.set (.v 3) (.comp false (.v 4) (.rng (.cons (.bi false .len (.cons (.var 1) .nil)) .nil)) (.cons (.cmp .eq (.ix (.ix (.var 1) (.var 4)) (.con (.int 0))) (.ix (.var 2) (.con (.int 1)))) .nil) (.var 4)))
  (.cons (.ife (.cmp .eq (.var 3) (.lst false .nil))
  (.cons (.ret (.con .non))
  .nil)
  .nil)
  (.cons (.ret (.tup (.cons (.var 0) (.cons (.bin false .add (.slc false (.var 1) (.con .non) (.ix (.var 3) (.neg (.con (.int 1))))) (.slc false (.var 1) (.bin false .add (.ix (.var 3) (.neg (.con (.int 1)))) (.con (.int 1))) (.con .non))) .nil))))
  .nil))))))
def c__law_behind : Cxx := { glo := [], cal := [], dis := [], new := [], newk := [], up := [], new0 := [] }
def m__law_behind : Fn := mkFn c__law_behind 3 5 b__law_behind
/-! laid: 0=call 1=things 2=pairs 3=item 4=name 5=thing -/
def b_laid : Ss :=
  (.cons (.set (.v 1) (.lst true .nil))
  (.cons (.set (.v 2) (.lst true .nil))
  (.cons (.for (.v 3) (.seq (.var 0))
  (.cons (.ife (.cmp .eq (.ix (.var 3) (.con (.int 0))) (.con (.str "one")))
  (.cons (.expr (.mt false .append (.var 1) (.cons (.ix (.var 3) (.con (.int 1))) .nil)))
  .nil)
  (.cons (.ife (.cmp .eq (.ix (.var 3) (.con (.int 0))) (.con (.str "row")))
  (.cons (.expr (.mt false .extend (.var 1) (.cons (.ix (.var 3) (.con (.int 1))) .nil)))
  .nil)
  (.cons (.ife (.cmp .eq (.ix (.var 3) (.con (.int 0))) (.con (.str "named")))
  (.cons (.expr (.mt false .append (.var 2) (.cons (.tup (.cons (.ix (.var 3) (.con (.int 1))) (.cons (.ix (.var 3) (.con (.int 2))) .nil))) .nil)))
  .nil)
  (.cons (.expr (.mt false .extend (.var 2) (.cons (.comp false (.t (.cons (.v 4) (.cons (.v 5) .nil))) (.seq (.ix (.var 3) (.con (.int 1)))) .nil (.tup (.cons (.var 4) (.cons (.var 5) .nil)))) .nil)))
  .nil))
  .nil))
  .nil))
  .nil))
  (.cons (.frz 2)
  (.cons (.frz 1)
  (.cons (.ret (.tup (.cons (.var 1) (.cons (.var 2) .nil))))
  .nil))))))
def c_laid : Cxx := { glo := [], cal := [], dis := [], new := [], newk := [], up := [], new0 := [] }
def m_laid : Fn := mkFn c_laid 1 6 b_laid
/-! without_last: 0=pairs 1=name 2=at -/
def b_without_last : Ss :=
  (.cons (.for (.v 2) (.rvr (.cons (.bi false .len (.cons (.var 0) .nil)) .nil))
  (.cons (.ife (.cmp .eq (.ix (.ix (.var 0) (.var 2)) (.con (.int 0))) (.var 1))
  (.cons (.ret (.bin false .add (.slc false (.var 0) (.con .non) (.var 2)) (.slc false (.var 0) (.bin false .add (.var 2) (.con (.int 1))) (.con .non))))
  .nil)
  .nil)
  .nil))
  (.cons (.rai 45 .nil)
  .nil))
def c_without_last : Cxx := { glo := [], cal := [], dis := [], new := [], newk := [], up := [], new0 := [] }
def m_without_last : Fn := mkFn c_without_last 2 3 b_without_last
/-! call_of: 0=things 1=pairs 2=thing 3=name -/
def b_call_of : Ss :=
  (.cons (.ret (.bin true .add (.comp false (.v 2) (.seq (.var 0)) .nil (.tup (.cons (.con (.str "one")) (.cons (.var 2) .nil)))) (.comp false (.t (.cons (.v 3) (.cons (.v 2) .nil))) (.seq (.var 1)) .nil (.tup (.cons (.con (.str "named")) (.cons (.var 3) (.cons (.var 2) .nil)))))))
  .nil)
def c_call_of : Cxx := { glo := [], cal := [], dis := [], new := [], newk := [], up := [], new0 := [] }
def m_call_of : Fn := mkFn c_call_of 2 4 b_call_of
/-! changed: 0=call 1=change 2=things 3=pairs -/
def b_changed : Ss :=
  (.cons (.set (.t (.cons (.v 2) (.cons (.v 3) .nil))) (.call 0 (.cons (.var 0) .nil)))
  (.cons (.ife (.cmp .eq (.ix (.var 1) (.con (.int 0))) (.con (.str "less")))
  (.cons (.ife (.cmp .eq (.var 2) (.lst false .nil))
  (.cons (.rai 45 .nil)
  .nil)
  .nil)
  (.cons (.set (.v 2) (.slc false (.var 2) (.con .non) (.neg (.con (.int 1)))))
  .nil))
  (.cons (.ife (.cmp .eq (.ix (.var 1) (.con (.int 0))) (.con (.str "more")))
  (.cons (.set (.v 2) (.bin false .add (.var 2) (.lst false (.cons (.con (.int 0)) .nil))))
  .nil)
  (.cons (.ife (.cmp .eq (.ix (.var 1) (.con (.int 0))) (.con (.str "out")))
  (.cons (.set (.v 3) (.call 1 (.cons (.var 3) (.cons (.ix (.var 1) (.con (.int 1))) .nil))))
  .nil)
  (.cons (.set (.v 3) (.bin false .add (.var 3) (.lst false (.cons (.tup (.cons (.ix (.var 1) (.con (.int 1))) (.cons (.con (.int 0)) .nil))) .nil))))
  .nil))
  .nil))
  .nil))
  (.cons (.ret (.call 2 (.cons (.var 2) (.cons (.var 3) .nil))))
  .nil)))
def c_changed : Cxx := { glo := [], cal := [{ f := m_laid, dv := [] }, { f := m_without_last, dv := [] }, { f := m_call_of, dv := [] }], dis := [], new := [], newk := [], up := [], new0 := [] }
@[simp] theorem cc_changed_0 : c_changed.cal[0]? = some { f := m_laid, dv := [] } := rfl
@[simp] theorem cc_changed_1 : c_changed.cal[1]? = some { f := m_without_last, dv := [] } := rfl
@[simp] theorem cc_changed_2 : c_changed.cal[2]? = some { f := m_call_of, dv := [] } := rfl
def m_changed : Fn := mkFn c_changed 2 4 b_changed
/-! _law_other: 0=_law_e -/
def b__law_other : Ss :=
  (.cons (.ife (.isx 0 [.cls 54, .cls 43, .cls 53, .cls 51, .cls 56, .cls 50, .cls 46, .cls 41, .cls 48, .cls 47, .cls 52])
  (.cons (.ret (.con (.bl true)))
  .nil)
  .nil)
  (.cons (.ret (.or (.cons (.isx 0 [.cls 55, .cls 42, .cls 44, .cls 49]) (.cons (.not (.isx 0 [.ve])) .nil))))
  .nil))
def c__law_other : Cxx := { glo := [], cal := [], dis := [], new := [], newk := [], up := [], new0 := [] }
def m__law_other : Fn := mkFn c__law_other 1 1 b__law_other
/-! _law_asked: 0=_law_handed 1=_law_change_here 2=_law_found 3=_law_e -/
def b__law_asked : Ss :=
  (.cons (.set (.v 2) (.tup (.cons (.con (.str "none")) .nil)))
  (.cons (.try (.cons (.set (.v 2) (.tup (.cons (.con (.str "told")) (.cons (.grf (.call 0 (.cons (.var 0) (.cons (.var 1) .nil)))) .nil))))
  .nil)
  (.cons 40 (some 3)
  (.cons (.set (.v 2) (.tup (.cons (.con (.str "refused")) (.cons (.and (.cons (.isx 3 [.cls 45]) (.cons (.not (.call 1 (.cons (.var 3) .nil))) .nil))) .nil))))
  .nil)
  .nil)
  .nil)
  (.cons (.ret (.var 2))
  .nil)))
def c__law_asked : Cxx := { glo := [], cal := [{ f := m_changed, dv := [] }, { f := m__law_other, dv := [] }], dis := [], new := [], newk := [], up := [], new0 := [] }
@[simp] theorem cc__law_asked_0 : c__law_asked.cal[0]? = some { f := m_changed, dv := [] } := rfl
@[simp] theorem cc__law_asked_1 : c__law_asked.cal[1]? = some { f := m__law_other, dv := [] } := rfl
def m__law_asked : Fn := mkFn c__law_asked 2 4 b__law_asked
/-! _law_is_number: 0=_law_found -/
def b__law_is_number : Ss :=
  (.cons (.ret (.and (.cons (.isi (.var 0) [.int]) (.cons (.cmp .isnot (.var 0) (.con (.bl true))) (.cons (.cmp .isnot (.var 0) (.con (.bl false))) .nil)))))
  .nil)
def c__law_is_number : Cxx := { glo := [], cal := [], dis := [], new := [], newk := [], up := [], new0 := [] }
def m__law_is_number : Fn := mkFn c__law_is_number 1 1 b__law_is_number
/-! _law_is_call: 0=_law_found 1=_law_due 2=_law_item -/
def b__law_is_call : Ss :=
  (.cons (.ife (.or (.cons (.not (.isi (.var 0) [.lst])) (.cons (.not (.bi false .all (.cons (.cmc false (.v 2) (.var 0) .nil (.isi (.var 2) [.tup])) .nil))) .nil)))
  (.cons (.ret (.con (.bl false)))
  .nil)
  .nil)
  (.cons (.ret (.and (.cons (.cmp .eq (.var 0) (.var 1)) (.cons (.bi false .all (.cons (.cmc false (.v 2) (.var 0) .nil (.call 0 (.cons (.ix (.var 2) (.neg (.con (.int 1)))) .nil))) .nil)) .nil))))
  .nil))
def c__law_is_call : Cxx := { glo := [], cal := [{ f := m__law_is_number, dv := [] }], dis := [], new := [], newk := [], up := [], new0 := [] }
@[simp] theorem cc__law_is_call_0 : c__law_is_call.cal[0]? = some { f := m__law_is_number, dv := [] } := rfl
def m__law_is_call : Fn := mkFn c__law_is_call 2 3 b__law_is_call
/-! _law_flat: 0=_law_things 1=_law_pairs 2=_law_thing_here 3=_law_name -/
def b__law_flat : Ss :=
  (.cons (.ret (.bin false .add (.comp false (.v 2) (.seq (.var 0)) .nil (.tup (.cons (.con (.str "one")) (.cons (.var 2) .nil)))) (.comp false (.t (.cons (.v 3) (.cons (.v 2) .nil))) (.seq (.var 1)) .nil (.tup (.cons (.con (.str "named")) (.cons (.var 3) (.cons (.var 2) .nil)))))))
  .nil)
def c__law_flat : Cxx := { glo := [], cal := [], dis := [], new := [], newk := [], up := [], new0 := [] }
def m__law_flat : Fn := mkFn c__law_flat 2 4 b__law_flat
/-! law: 0=_law_script 1=_law_pool_here 2=_law_handed 3=_law_things 4=_law_pairs 5=_law_kept 6=_law_cell 7=_law_change_here 8=_law_due 9=_law_found 10=_law_again -/
def b_law : Ss :=
  (.cons (.set (.v 1) (.call 0 (.cons (.call 1 (.cons (.var 0) (.cons (.con (.int 0)) .nil))) .nil)))
  (.cons (.set (.v 2) (.call 2 (.cons (.slc false (.var 0) (.con (.int 2)) (.con (.int 10))) (.cons (.var 1) .nil))))
  (.cons (.set (.t (.cons (.v 3) (.cons (.v 4) .nil))) (.call 3 (.cons (.var 2) .nil)))
  (.cons (.set (.v 5) (.call 2 (.cons (.slc false (.var 0) (.con (.int 2)) (.con (.int 10))) (.cons (.var 1) .nil))))
  (.cons (.for (.v 6) (.seq (.bin false .add (.lst false (.cons (.call 1 (.cons (.var 0) (.cons (.con (.int 1)) .nil))) .nil)) (.slc false (.var 0) (.con (.int 10)) (.con (.int 34)))))
  (.cons (.set (.v 7) (.call 4 (.cons (.var 6) (.cons (.var 1) .nil))))
  (.cons (.set (.v 8) (.call 5 (.cons (.var 3) (.cons (.var 4) (.cons (.var 7) .nil)))))
  (.cons (.set (.v 9) (.call 6 (.cons (.var 2) (.cons (.var 7) .nil))))
  (.cons (.ife (.or (.cons (.cmp .ne (.var 2) (.var 5)) (.cons (.and (.cons (.cmp .is (.var 8) (.con .non)) (.cons (.cmp .ne (.var 9) (.tup (.cons (.con (.str "refused")) (.cons (.con (.bl true)) .nil)))) .nil))) .nil)))
  (.cons (.ret (.con (.bl false)))
  .nil)
  .nil)
  (.cons (.ife (.cmp .isnot (.var 8) (.con .non))
  (.cons (.ife (.or (.cons (.cmp .ne (.ix (.var 9) (.con (.int 0))) (.con (.str "told"))) (.cons (.not (.call 7 (.cons (.ix (.var 9) (.con (.int 1))) (.cons (.call 8 (.cons (.ix (.var 8) (.con (.int 0))) (.cons (.ix (.var 8) (.con (.int 1))) .nil))) .nil)))) .nil)))
  (.cons (.ret (.con (.bl false)))
  .nil)
  .nil)
  (.cons (.set (.v 10) (.frz (.call 9 (.cons (.var 2) (.cons (.var 7) .nil)))))
  (.cons (.expr (.mt false .clear (.ix (.var 9) (.con (.int 1))) .nil))
  (.cons (.ife (.or (.cons (.cmp .ne (.var 2) (.var 5)) (.cons (.cmp .ne (.var 10) (.call 8 (.cons (.ix (.var 8) (.con (.int 0))) (.cons (.ix (.var 8) (.con (.int 1))) .nil)))) .nil)))
  (.cons (.ret (.con (.bl false)))
  .nil)
  .nil)
  (.cons (.set (.v 2) (.var 10))
  (.cons (.set (.v 5) (.bi false .list (.cons (.var 10) .nil)))
  (.cons (.set (.t (.cons (.v 3) (.cons (.v 4) .nil))) (.var 8))
  .nil)))))))
  .nil)
  .nil))))))
  (.cons (.ret (.con (.bl true)))
  .nil))))))
def c_law : Cxx := { glo := [], cal := [{ f := m__law_pool, dv := [] }, { f := m__law_nth, dv := [] }, { f := m__law_items, dv := [] }, { f := m__law_laid, dv := [] }, { f := m__law_change, dv := [] }, { f := m__law_behind, dv := [] }, { f := m__law_asked, dv := [] }, { f := m__law_is_call, dv := [] }, { f := m__law_flat, dv := [] }, { f := m_changed, dv := [] }], dis := [], new := [], newk := [], up := [], new0 := [] }
@[simp] theorem cc_law_0 : c_law.cal[0]? = some { f := m__law_pool, dv := [] } := rfl
@[simp] theorem cc_law_1 : c_law.cal[1]? = some { f := m__law_nth, dv := [] } := rfl
@[simp] theorem cc_law_2 : c_law.cal[2]? = some { f := m__law_items, dv := [] } := rfl
@[simp] theorem cc_law_3 : c_law.cal[3]? = some { f := m__law_laid, dv := [] } := rfl
@[simp] theorem cc_law_4 : c_law.cal[4]? = some { f := m__law_change, dv := [] } := rfl
@[simp] theorem cc_law_5 : c_law.cal[5]? = some { f := m__law_behind, dv := [] } := rfl
@[simp] theorem cc_law_6 : c_law.cal[6]? = some { f := m__law_asked, dv := [] } := rfl
@[simp] theorem cc_law_7 : c_law.cal[7]? = some { f := m__law_is_call, dv := [] } := rfl
@[simp] theorem cc_law_8 : c_law.cal[8]? = some { f := m__law_flat, dv := [] } := rfl
@[simp] theorem cc_law_9 : c_law.cal[9]? = some { f := m_changed, dv := [] } := rfl
def m_law : Fn := mkFn c_law 1 11 b_law
end Lk31
set_option Elab.async false
set_option linter.all false
set_option maxRecDepth 100000
set_option maxHeartbeats 0
/-! Lk31P: the plain law. -/
namespace Lk31
open PySem Mn MnC MnF MnL
/-! ### names -/
def mixF (c k : Int) : Int := (((c % 2147483629 * 48271 + k * k * 7919 + 31 * k) % 2147483647) * ((c % 2147483629 * 48271 + k * k * 7919 + 31 * k) % 2147483647) + 40693 * ((c % 2147483629 * 48271 + k * k * 7919 + 31 * k) % 2147483647) + k) % 2147483587
theorem mix (c : Int) (k : Nat) (hk : k < 1000) (S : Store) : m__law_mix [.d (.int c), .d (.int (k : Int))] S = .ok (.d (.int (mixF c k))) S := by
  have l1 : mulOk (c % 2147483629) 48271 = true := mul_small (by omega) (by omega)
  have hkk : (k : Int) * (k : Int) < 1000000 ∧ 0 ≤ (k : Int) * (k : Int) := ⟨by
    have : k * k < 1000 * 1000 := Nat.mul_lt_mul'' hk hk
    have h2 : ((k * k : Nat) : Int) = (k : Int) * (k : Int) := by simp
    omega, by
    have h2 : ((k * k : Nat) : Int) = (k : Int) * (k : Int) := by simp
    omega⟩
  have l2 : mulOk (k : Int) (k : Int) = true := mul_small (by omega) (by omega)
  have l3 : mulOk ((k : Int) * (k : Int)) 7919 = true := mul_small (by omega) (by omega)
  have l4 : mulOk 31 (k : Int) = true := mul_small (by omega) (by omega)
  generalize hv : (c % 2147483629 * 48271 + (k : Int) * (k : Int) * 7919 + 31 * (k : Int)) % 2147483647 = v
  have l5 : mulOk v v = true := mul_small (by omega) (by omega)
  have l6 : mulOk 40693 v = true := mul_small (by omega) (by omega)
  unfold mixF m__law_mix
  rw [mkFn_eq (by rfl)]
  simp -implicitDefEqProofs [b__law_mix, l1, l2, l3, l4, hv, l5, l6]
theorem mix_nn (c k : Int) : 0 ≤ mixF c k := by unfold mixF; omega
def AB : Str := "ab"
def ltF (c : Int) : Str := if c % 2 = 0 then AB else LET
theorem lt_len (c : Int) : (ltF c).length = 2 ∨ (ltF c).length = 26 := by
  unfold ltF
  split
  · exact .inl (by decide +kernel)
  · exact .inr let_len
/-- signs put behind -/
def growF (lt : Str) : Nat → Int × Str → Int × Str
  | 0, p => p
  | n + 1, p => growF lt n (p.1 / lt.length, p.2 ++ ⟨#[lt.cps.toList.getD (p.1 % lt.length).toNat 0]⟩)
theorem grow_len (lt : Str) : ∀ n p, (growF lt n p).2.length = p.2.length + n
  | 0, p => rfl
  | n + 1, p => by
    rw [growF, grow_len lt n]
    show (p.2 ++ ⟨#[_]⟩ : Str).length + n = _
    rw [app_len]
    show p.2.length + 1 + n = _
    omega
def nameF (c k : Int) : Str := (growF (ltF c) (1 + mixF c k % (if c % 2 = 0 then 3 else 8)).toNat (mixF c k / 8, "")).2
theorem name_len (c k : Int) : (nameF c k).length ≤ 8 := by
  unfold nameF
  rw [grow_len]
  show 0 + _ ≤ _
  split <;> omega
def pBody : Ss := match b__law_pool with
  | .cons _ (.cons _ (.cons (.for _ _ b) _)) => b
  | _ => .nil
def qBody : Ss := match pBody with
  | .cons _ (.cons _ (.cons _ (.cons (.for _ _ b) _))) => b
  | _ => .nil
theorem grow_loop (n : Nat) (lt : Str) (hlt : lt.length = 2 ∨ lt.length = 26) (a0 a2 a3 a4 : Option T) (S : Store) : ∀ (m : Nat) (i : Int) (r : Int) (z : Str) (a7 : Option T), z.length + m ≤ 100 → ∃ a7',
    forL (forR c__law_pool n (.v 7) qBody) (rngL i m) [a0, some (.d (.str lt)), a2, a3, a4, some (.d (.int r)), some (.d (.str z)), a7] S = .nx [a0, some (.d (.str lt)), a2, a3, a4, some (.d (.int (growF lt m (r, z)).1)), some (.d (.str (growF lt m (r, z)).2)), a7'] S
  | 0, i, r, z, a7, h => ⟨a7, rfl⟩
  | m + 1, i, r, z, a7, h => by
    have hl : (z ++ ⟨#[lt.cps.toList.getD (r % lt.length).toNat 0]⟩ : Str).length = z.length + 1 := app_len _ _
    obtain ⟨a7', e⟩ := grow_loop n lt hlt a0 a2 a3 a4 S m (i + 1) (r / lt.length) (z ++ ⟨#[lt.cps.toList.getD (r % lt.length).toNat 0]⟩) (some (.d (.int i))) (by omega)
    refine ⟨a7', ?_⟩
    have hp : (0 : Int) < lt.length := by omega
    have hin : (r % lt.length).toNat < lt.cps.toList.length := by
      have : lt.cps.toList.length = lt.length := by simp [Str.length]
      have h1 := Int.emod_nonneg r (show (lt.length : Int) ≠ 0 by omega)
      have h2 := Int.emod_lt_of_pos r hp
      omega
    have hg : lt.cps.toList[(r % lt.length).toNat]? = some (lt.cps.toList.getD (r % lt.length).toNat 0) := by
      rw [List.getD_eq_getElem?_getD, List.getElem?_eq_getElem hin]
      rfl
    have hx : ∀ S, ixS (.d (.str lt)) (.d (.int (r % lt.length))) S = .ok (.d (.str ⟨#[lt.cps.toList.getD (r % lt.length).toNat 0]⟩)) S := fun S => ix_str (by omega) (Int.emod_nonneg r (by omega)) hg
    have hz : ∀ S, bLen [.d (.str lt)] S = .ok (.d (.int lt.length)) S := fun S => len_str (by omega)
    have hk : mkS (z ++ ⟨#[lt.cps.toList.getD (r % lt.length).toNat 0]⟩) S = .ok (.d (.str (z ++ ⟨#[lt.cps.toList.getD (r % lt.length).toNat 0]⟩))) S := mkS_ok (by omega)
    have hd : binS false .fdiv (.d (.int r)) (.d (.int lt.length)) S = .ok (.d (.int (r / lt.length))) S := bin_fdiv hp (by omega)
    rw [rngL_cons, forL_nx (σ' := [a0, some (.d (.str lt)), a2, a3, a4, some (.d (.int (r / lt.length))), some (.d (.str (z ++ ⟨#[lt.cps.toList.getD (r % lt.length).toNat 0]⟩))), some (.d (.int i))]) (S' := S) ?_, e]
    · rfl
    · unfold forR qBody pBody b__law_pool
      simp -implicitDefEqProofs only [asg_v, List.set_cons_succ, List.set_cons_zero, exs_cons, ex_set, ev_bin, ev_var, List.getElem?_cons_zero, List.getElem?_cons_succ, bnd_ok, ev_ix, ev_bi, evs_cons, evs_nil, bi_len, hz, bin_mod, if_pos hp, hx, bin_adds, hk, stm_ok, seq_nx, hd, exs_nil]
def poolF (c : Int) : Nat → Nat → List Str → List Str
  | 0, _, pl => pl
  | m + 1, k, pl => poolF c m (k + 1) (if pl.contains (nameF c k) then pl else pl ++ [nameF c k])
theorem in_strsC {x : Str} {xs : List Str} {S : Store} : inS (.d (.str x)) (.cell S.loc.length) (S.push (.lst (xs.map .str))) = some (xs.contains x) := by
  have h1 : (S.push (.lst (xs.map .str))).rd (.d (.str x)) = some (.str x) := rfl
  have h2 : (S.push (.lst (xs.map .str))).rd (.cell S.loc.length) = some (.lst (xs.map .str)) := by
    simp only [Store.rd, push_get]
  have h3 : (D.str x).ly lyMax = true := rfl
  simp only [inS, h1, h2, h3, strs_ly, Bool.and_self, if_true, any_str]
theorem pool_loop (c : Int) (S : Store) : ∀ (m : Nat) (k : Nat) (pl : List Str) (a3 a4 a5 a6 a7 : Option T), k + m ≤ 100 → pl.length ≤ k → ∃ a3' a4' a5' a6' a7',
    forL (forR c__law_pool S.loc.length (.v 3) pBody) (rngL (k : Int) m) [some (.d (.int c)), some (.d (.str (ltF c))), some (.cell S.loc.length), a3, a4, a5, a6, a7] (S.push (.lst (pl.map .str))) = .nx [some (.d (.int c)), some (.d (.str (ltF c))), some (.cell S.loc.length), a3', a4', a5', a6', a7'] (S.push (.lst ((poolF c m k pl).map .str)))
  | 0, k, pl, a3, a4, a5, a6, a7, h, hp => ⟨a3, a4, a5, a6, a7, rfl⟩
  | m + 1, k, pl, a3, a4, a5, a6, a7, h, hp => by
    have v0 := mix_nn c k
    obtain ⟨a7', g⟩ := grow_loop S.loc.length (ltF c) (lt_len c) (some (.d (.int c))) (some (.cell S.loc.length)) (some (.d (.int k))) (some (.d (.int (mixF c k)))) (S.push (.lst (pl.map .str))) (1 + mixF c k % (if c % 2 = 0 then 3 else 8)).toNat 0 (mixF c k / 8) "" a7 (by
      show 0 + _ ≤ _
      split <;> omega)
    obtain ⟨b3, b4, b5, b6, b7, e⟩ := pool_loop c S m (k + 1) (if pl.contains (nameF c k) then pl else pl ++ [nameF c k]) (some (.d (.int k))) (some (.d (.int (mixF c k)))) (some (.d (.int (growF (ltF c) (1 + mixF c k % (if c % 2 = 0 then 3 else 8)).toNat (mixF c k / 8, "")).1))) (some (.d (.str (nameF c k)))) a7' (by omega) (by
      split
      · omega
      · rw [List.length_append]
        show _ + 1 ≤ _
        omega)
    refine ⟨b3, b4, b5, b6, b7, ?_⟩
    have hm := mix c k (by omega)
    have hx : ∀ S, ixS (.d (.lst [.int 3, .int 8])) (.d (.int (c % 2))) S = .ok (.d (.int (if c % 2 = 0 then 3 else 8))) S := fun S => by
      rcases (show c % 2 = 0 ∨ c % 2 = 1 by omega) with h | h <;> rw [h] <;> rfl
    have h38 : (0 : Int) < (if c % 2 = 0 then 3 else 8) := by split <;> omega
    have hr : rngS [.d (.int (1 + mixF c k % (if c % 2 = 0 then 3 else 8)))] = some (0, (1 + mixF c k % (if c % 2 = 0 then 3 else 8)).toNat) := rng_int _ (by
      unfold small62
      refine decide_eq_true ?_
      split <;> omega)
    unfold qBody pBody b__law_pool at g
    dsimp only at g
    have mk : ∀ S, mkLst false [.d (.int 3), .d (.int 8)] S = .ok (.d (.lst [.int 3, .int 8])) S := fun _ => rfl
    have ni : cmpS .notin (.d (.str (nameF c k))) (.cell S.loc.length) (S.push (.lst (pl.map .str))) = .ok (.d (.bl (!pl.contains (nameF c k)))) (S.push (.lst (pl.map .str))) := by
      unfold cmpS
      rw [in_strsC]
      rfl
    have ap := app_lst (S := S) (xs := pl.map D.str) (d := .str (nameF c k)) (by rw [List.length_map]; omega)
    have ty := ty_lst (xs := pl.map D.str) (S := S)
    have fd : ∀ S, binS false .fdiv (.d (.int (mixF c k))) (.d (.int 8)) S = .ok (.d (.int (mixF c k / 8))) S := fun S => bin_fdiv (by omega) (by omega)
    rw [rngL_cons, forL_nx (σ' := [some (.d (.int c)), some (.d (.str (ltF c))), some (.cell S.loc.length), some (.d (.int k)), some (.d (.int (mixF c k))), some (.d (.int (growF (ltF c) (1 + mixF c k % (if c % 2 = 0 then 3 else 8)).toNat (mixF c k / 8, "")).1)), some (.d (.str (nameF c k))), a7']) (S' := S.push (.lst ((if pl.contains (nameF c k) then pl else pl ++ [nameF c k]).map .str))) ?_]
    · exact e
    · unfold forR pBody b__law_pool
      simp -implicitDefEqProofs only [asg_v, List.set_cons_succ, List.set_cons_zero, exs_cons, ex_set, ev_call, evs_cons, evs_nil, ev_var, ev_con, List.getElem?_cons_zero, List.getElem?_cons_succ, bnd_ok, cc__law_pool_0, List.map_nil, List.append_nil, hm, stm_ok, seq_nx, ev_bin, fd, ex_for, evIt_rng, ev_ix, ev_lst, mk, bin_mod, show (0 : Int) < 2 by decide, if_true, hx, if_pos h38, bin_add, hr, g]
      rw [show (growF (ltF c) (1 + mixF c k % (if c % 2 = 0 then 3 else 8)).toNat (mixF c k / 8, Str.ofString "")).2 = nameF c k from rfl]
      simp -implicitDefEqProofs only [exs_cons, ex_ife, ev_cmp, ev_var, List.getElem?_cons_zero, List.getElem?_cons_succ, bnd_ok, ni, stm_ok, ifT_bl, exs_nil]
      by_cases hc : pl.contains (nameF c k) = true
      · simp -implicitDefEqProofs only [hc, Bool.not_true, Bool.false_eq_true, if_false, seq_nx, if_true]
        rfl
      · have hc : pl.contains (nameF c k) = false := by simpa using hc
        simp -implicitDefEqProofs only [hc, Bool.not_false, if_true, ex_expr, ev_mt, ev_var, List.getElem?_cons_zero, List.getElem?_cons_succ, bnd_ok, ty, Mt.on, evs_cons, evs_nil, mtS, ap, stm_ok, seq_nx, Bool.false_eq_true, if_false, List.map_append, List.map_cons, List.map_nil]
        rfl
theorem poolF_ok (c : Int) : ∀ (m k : Nat) (pl : List Str), pl.length ≤ k → (∀ z ∈ pl, z.length ≤ 8) → (poolF c m k pl).length ≤ k + m ∧ (∀ z ∈ poolF c m k pl, z.length ≤ 8) ∧ (0 < pl.length ∨ 0 < m → 0 < (poolF c m k pl).length)
  | 0, k, pl, h, hz => ⟨h, hz, fun h => by rcases h with h | h; exact h; omega⟩
  | m + 1, k, pl, h, hz => by
    have hs : (if pl.contains (nameF c k) then pl else pl ++ [nameF c k]).length ≤ k + 1 ∧ (∀ z ∈ (if pl.contains (nameF c k) then pl else pl ++ [nameF c k]), z.length ≤ 8) ∧ 0 < (if pl.contains (nameF c k) then pl else pl ++ [nameF c k]).length := by
      split
      · rename_i hc
        refine ⟨by omega, hz, ?_⟩
        cases pl with
        | nil => simp at hc
        | cons a b => exact Nat.succ_pos _
      · refine ⟨by rw [List.length_append]; show _ + 1 ≤ _; omega, fun z hm => ?_, by rw [List.length_append]; exact Nat.succ_pos _⟩
        rcases List.mem_append.mp hm with h | h
        · exact hz z h
        · rw [List.mem_singleton.mp h]
          exact name_len c k
    obtain ⟨i1, i2, i3⟩ := poolF_ok c m (k + 1) _ hs.1 hs.2.1
    exact ⟨by rw [poolF]; omega, i2, fun _ => i3 (.inl hs.2.2)⟩
theorem pool (c : Int) : ∃ pl : List Str, 0 < pl.length ∧ pl.length ≤ 30 ∧ (∀ z ∈ pl, z.length ≤ 8) ∧ ∀ S, m__law_pool [.d (.int c)] S = .ok (.d (.lst (pl.map .str))) S := by
  obtain ⟨m, hm, hm2⟩ : ∃ m : Nat, (m = 12 ∨ m = 30) ∧ (m : Int) = if c % 16 = 5 then 30 else 12 := by
    by_cases h : c % 16 = 5
    · exact ⟨30, .inr rfl, by rw [if_pos h]; rfl⟩
    · exact ⟨12, .inl rfl, by rw [if_neg h]; rfl⟩
  obtain ⟨h1, h2, h3⟩ := poolF_ok c m 0 [] (Nat.le_refl 0) (fun z h => by cases h)
  refine ⟨poolF c m 0 [], h3 (.inr (by omega)), by omega, h2, fun S => ?_⟩
  obtain ⟨a3, a4, a5, a6, a7, e⟩ := pool_loop c S m 0 [] none none none none none (by omega) (Nat.le_refl 0)
  obtain ⟨S', f1, f2⟩ := frz_lst (cx := c__law_pool) (i := 2) (S := S) (σ := [some (.d (.int c)), some (.d (.str (ltF c))), some (.cell S.loc.length), a3, a4, a5, a6, a7]) (xs := (poolF c m 0 []).map .str) rfl
  unfold pBody b__law_pool at e
  dsimp only at e
  have e : forL _ (rngL 0 m) _ (S.push (.lst [])) = _ := e
  have mk : ∀ S, mkLst false [.d (.str "ab"), .d (.str "abcdefghijklmnopqrstuvwxyz")] S = .ok (.d (.lst [.str AB, .str LET])) S := fun _ => rfl
  have mk2 : ∀ S, mkLst false [.d (.int 12), .d (.int 30)] S = .ok (.d (.lst [.int 12, .int 30])) S := fun _ => rfl
  have hx : ∀ S, ixS (.d (.lst [.str AB, .str LET])) (.d (.int (c % 2))) S = .ok (.d (.str (ltF c))) S := fun S => by
    unfold ltF
    rcases (show c % 2 = 0 ∨ c % 2 = 1 by omega) with h | h <;> rw [h] <;> rfl
  have hb : ∀ S, bInt [.d (.bl (decide (c % 16 = 5)))] S = .ok (.d (.int (if c % 16 = 5 then 1 else 0))) S := fun S => by
    by_cases h : c % 16 = 5
    · rw [decide_eq_true h, if_pos h]; rfl
    · rw [decide_eq_false h, if_neg h]; rfl
  have hy : ∀ S, ixS (.d (.lst [.int 12, .int 30])) (.d (.int (if c % 16 = 5 then 1 else 0))) S = .ok (.d (.int (m : Int))) S := fun S => by
    rw [hm2]
    by_cases h : c % 16 = 5
    · rw [if_pos h, if_pos h]; rfl
    · rw [if_neg h, if_neg h]; rfl
  have hr := rng_nat m (by omega)
  unfold m__law_pool
  rw [mkFn_eq (by rfl)]
  generalize (poolF c m 0 []).map D.str = L at e f1 ⊢
  simp -implicitDefEqProofs only [b__law_pool, List.map_cons, List.map_nil, List.replicate, Nat.reduceSub, List.cons_append, List.nil_append, exs_cons, ex_set, ev_ix, ev_lst, evs_cons, evs_nil, ev_con, bnd_ok, mk, ev_bin, ev_var, List.getElem?_cons_zero, List.getElem?_cons_succ, bin_mod, show (0 : Int) < 2 by decide, show (0 : Int) < 16 by decide, if_true, hx, stm_ok, asg_v, List.set_cons_succ, List.set_cons_zero, seq_nx, mkLst_t0, ex_for, evIt_rng, mk2, ev_bi, ev_cmp, cmp_eqI, bi_int, hb, hy, hr, e, f1, ex_ret, seq_ret, fin_ret, fin_d, f2]
/-! ### items -/
def thF (c : Int) : Int := if c % 2 = 0 then c / 2 % 41 - 20 else c / 2 % (2 * 10 ^ 60 - 1) - (10 ^ 60 - 1)
theorem thing (c : Int) (S : Store) : m__law_thing [.d (.int c)] S = .ok (.d (.int (thF c))) S := by
  have l2 : mulOk 2 (10 ^ 60) = true := by decide +kernel
  have pos : (0 : Int) < 2 * 10 ^ 60 - 1 := by decide +kernel
  have p2 : binS false .pow (.d (.int 10)) (.d (.int 60)) S = .ok (.d (.int (10 ^ 60))) S := rfl
  have fd : binS false .fdiv (.d (.int c)) (.d (.int 2)) S = .ok (.d (.int (c / 2))) S := bin_fdiv (by omega) (by omega)
  unfold thF m__law_thing
  rw [mkFn_eq (by rfl)]
  generalize (10 ^ 60 : Int) = q2 at l2 p2 pos ⊢
  by_cases h : c % 2 = 0
  · simp -implicitDefEqProofs only [b__law_thing, List.map_cons, List.map_nil, List.replicate, Nat.reduceSub, List.append_nil, exs_cons, ex_ife, ev_cmp, ev_bin, ev_var, ev_con, List.getElem?_cons_zero, bnd_ok, bin_mod, show (0 : Int) < 2 by decide, show (0 : Int) < 41 by decide, if_true, cmp_eqI, h, decide_true, stm_ok, ifT_bl, ex_ret, fd, bin_sub, seq_ret, fin_ret, fin_d, trunc_self]
  · simp -implicitDefEqProofs only [b__law_thing, List.map_cons, List.map_nil, List.replicate, Nat.reduceSub, List.append_nil, exs_cons, exs_nil, ex_ife, ev_cmp, ev_bin, ev_var, ev_con, List.getElem?_cons_zero, bnd_ok, bin_mod, show (0 : Int) < 2 by decide, if_true, cmp_eqI, h, decide_false, Bool.false_eq_true, if_false, stm_ok, ifT_bl, seq_nx, ex_ret, fd, p2, bin_mul, l2, bin_sub, pos, seq_ret, fin_ret, fin_d, trunc_self]
def atF (pl : List Str) (i : Int) : Str := pl.getD (i % pl.length).toNat ""
theorem at_ix (pl : List Str) (h : 0 < pl.length) (i : Int) (S : Store) : ixS (.d (.lst (pl.map .str))) (.d (.int (i % pl.length))) S = .ok (.d (.str (atF pl i))) S := by
  have hp : (0 : Int) < pl.length := by omega
  have h1 := Int.emod_nonneg i (show (pl.length : Int) ≠ 0 by omega)
  have h2 := Int.emod_lt_of_pos i hp
  refine ix_lst h1 ?_
  have hi : (i % pl.length).toNat < pl.length := by omega
  unfold atF
  rw [List.getElem?_map, List.getElem?_eq_getElem hi, List.getD_eq_getElem?_getD, List.getElem?_eq_getElem hi]
  rfl
theorem at_len (pl : List Str) (h : ∀ z ∈ pl, z.length ≤ 8) (i : Int) : (atF pl i).length ≤ 8 := by
  unfold atF
  rw [List.getD_eq_getElem?_getD]
  cases e : pl[(i % pl.length).toNat]? with
  | none => exact Nat.zero_le _
  | some z => exact h z (List.mem_of_getElem? e)
def itF (pl : List Str) (c : Int) : Itm :=
  if c % 8 < 3 then .one (thF (c / 8))
  else if c % 8 = 3 then .row ((List.range (c / 8 % 5).toNat).map fun k : Nat => thF (c / 8 + (k : Int) * (k : Int)))
  else if c % 8 = 7 then .book (((List.range (c / 8 % 4).toNat).map fun k : Nat => atF pl (c / 8 + (k : Int) * (1 + c / 8 / 5 % 3))).map fun z => (z, thF (c / 8 / 5 + z.length)))
  else .named (atF pl (c / 8)) (thF (c / 8 / 3))
theorem it_few (pl : List Str) (c : Int) : (itF pl c).things.length ≤ 5 ∧ (itF pl c).pairs.length ≤ 5 := by
  unfold itF
  split
  · exact ⟨by show 1 ≤ 5; omega, Nat.zero_le _⟩
  · split
    · refine ⟨?_, Nat.zero_le _⟩
      show (List.map _ _).length ≤ 5
      rw [List.length_map, List.length_range]
      omega
    · split
      · refine ⟨Nat.zero_le _, ?_⟩
        show (List.map _ _).length ≤ 5
        rw [List.length_map, List.length_map, List.length_range]
        omega
      · exact ⟨Nat.zero_le _, by show 1 ≤ 5; omega⟩
def iBody : Ss := match b__law_items with
  | .cons _ (.cons (.for _ _ b) _) => b
  | _ => .nil
theorem item_step (n : Nat) (pl : List Str) (hp0 : 0 < pl.length) (hp : pl.length ≤ 30) (hz : ∀ z ∈ pl, z.length ≤ 8) (S : Store) (a0 : Option T) (c : Int) (its : List Itm) (hl : its.length ≤ 100) (a3 a4 a5 a6 a7 a8 : Option T) : ∃ a3' a4' a5' a6' a7' a8',
    forR c__law_items n (.v 3) iBody (.int c) [a0, some (.d (.lst (pl.map .str))), some (.cell S.loc.length), a3, a4, a5, a6, a7, a8] (S.push (.lst (its.map Itm.d))) = .nx [a0, some (.d (.lst (pl.map .str))), some (.cell S.loc.length), a3', a4', a5', a6', a7', a8'] (S.push (.lst ((its ++ [itF pl c]).map Itm.d))) := by
  have ap : ∀ it : Itm, mAppend (.cell S.loc.length) [.d it.d] (S.push (.lst (its.map Itm.d))) = .ok (.d .non) (S.push (.lst ((its ++ [it]).map Itm.d))) := fun it => by
    rw [app_lst (by rw [List.length_map]; omega), List.map_append]
    rfl
  have ty := ty_lst (xs := its.map Itm.d) (S := S)
  have lp : ((pl.map D.str).length : Int) = (pl.length : Int) := by rw [List.length_map]
  have hp' : (0 : Int) < pl.length := by omega
  have f8 : ∀ S, binS false .fdiv (.d (.int c)) (.d (.int 8)) S = .ok (.d (.int (c / 8))) S := fun S => bin_fdiv (by omega) (by omega)
  have f5 : ∀ S, binS false .fdiv (.d (.int (c / 8))) (.d (.int 5)) S = .ok (.d (.int (c / 8 / 5))) S := fun S => bin_fdiv (by omega) (by omega)
  have f3 : ∀ S, binS false .fdiv (.d (.int (c / 8))) (.d (.int 3)) S = .ok (.d (.int (c / 8 / 3))) S := fun S => bin_fdiv (by omega) (by omega)
  unfold itF
  by_cases c0 : c % 8 < 3
  · refine ⟨some (.d (.int c)), some (.d (.int (c % 8))), some (.d (.int (c / 8))), a6, a7, a8, ?_⟩
    rw [if_pos c0]
    have ap := ap (.one (thF (c / 8)))
    have tp : ∀ S, mkTup [.d (.str "one"), .d (.int (thF (c / 8)))] S = .ok (.d (Itm.one (thF (c / 8))).d) S := fun _ => rfl
    unfold forR iBody b__law_items
    simp -implicitDefEqProofs [c0, f8, thing, tp, ty, Mt.on, mtS, ap]
  · rw [if_neg c0]
    by_cases c1 : c % 8 = 3
    · rw [if_pos c1]
      refine ⟨some (.d (.int c)), some (.d (.int (c % 8))), some (.d (.int (c / 8))), a6, a7, a8, ?_⟩
      generalize hm : (c / 8 % 5).toNat = m
      have hm' : c / 8 % 5 = (m : Int) := by omega
      have ap := ap (.row ((List.range m).map fun k : Nat => thF (c / 8 + (k : Int) * (k : Int))))
      have tp : ∀ S, mkTup [.d (.str "row"), .d (.lst (((List.range m).map fun k : Nat => .int (thF (c / 8 + (k : Int) * (k : Int))))))] S = .ok (.d (Itm.row ((List.range m).map fun k : Nat => thF (c / 8 + (k : Int) * (k : Int)))).d) S := fun _ => by
        show R.ok (T.d (.tup [.str "row", .lst _])) _ = R.ok (T.d (.tup [.str "row", .lst (thD _)])) _
        unfold thD
        rw [List.map_map]
        rfl
      have hr := rng_nat m (by omega)
      have cm : ∀ S1 : Store, (unexc (compL (cmpR c__law_items (.v 7) .nil (.call 0 (.cons (.bin false .add (.var 5) (.bin false .mul (.var 7) (.var 7))) .nil)) [a0, some (.d (.lst (pl.map .str))), some (.cell S.loc.length), some (.d (.int c)), some (.d (.int (c % 8))), some (.d (.int (c / 8))), a6, a7, a8]) (rngL 0 m) S1)).bnd (mkLst false) = .ok (.d (.lst (((List.range m).map fun k : Nat => .int (thF (c / 8 + (k : Int) * (k : Int))))))) S1 := fun S1 => by
        rw [rngL_map]
        refine comp_d (a := fun i : Nat => D.int (i : Int)) (g := fun k : Nat => D.int (thF (c / 8 + (k : Int) * (k : Int)))) (fun k hk => ?_) (by rw [List.length_range]; omega)
        have hk := List.mem_range.mp hk
        have mm : mulOk (k : Int) (k : Int) = true := mul_small (by omega) (by omega)
        unfold cmpR
        simp -implicitDefEqProofs [clrs, tgv, mm, thing]
      unfold forR iBody b__law_items
      simp -implicitDefEqProofs only [asg_v, List.set_cons_succ, List.set_cons_zero, exs_cons, ex_set, ev_bin, ev_var, ev_con, List.getElem?_cons_zero, List.getElem?_cons_succ, bnd_ok, bin_mod, show (0 : Int) < 8 by decide, show (0 : Int) < 5 by decide, if_true, stm_ok, seq_nx, f8, ex_ife, ev_cmp, cmp_lt, c0, decide_false, ifT_bl, Bool.false_eq_true, if_false, cmp_eqI, show decide (c % 8 = 3) = true from decide_eq_true c1, ex_expr, ev_mt, ty, Mt.on, evs_cons, evs_nil, ev_tup, ev_comp, evIt_rng, hm', hr, cm, tp, mtS, ap, exs_nil]
    · rw [if_neg c1]
      by_cases c2 : c % 8 = 7
      · rw [if_pos c2]
        generalize hm : (c / 8 % 4).toNat = m
        have hm' : c / 8 % 4 = (m : Int) := by omega
        generalize hns : ((List.range m).map fun k : Nat => atF pl (c / 8 + (k : Int) * (1 + c / 8 / 5 % 3))) = ns
        have hnl : ns.length = m := by rw [← hns, List.length_map, List.length_range]
        have hnz : ∀ z ∈ ns, z.length ≤ 8 := fun z h => by
          rw [← hns] at h
          obtain ⟨k, _, rfl⟩ := List.mem_map.mp h
          exact at_len pl hz _
        refine ⟨some (.d (.int c)), some (.d (.int (c % 8))), some (.d (.int (c / 8))), some (.d (.lst (ns.map .str))), a7, a8, ?_⟩
        have ap := ap (.book (ns.map fun z => (z, thF (c / 8 / 5 + z.length))))
        have tp : ∀ S, mkTup [.d (.str "book"), .d (.lst (ns.map fun z => prD (z, thF (c / 8 / 5 + z.length))))] S = .ok (.d (Itm.book (ns.map fun z => (z, thF (c / 8 / 5 + z.length)))).d) S := fun _ => by
          show R.ok (T.d (.tup [.str "book", .lst _])) _ = R.ok (T.d (.tup [.str "book", .lst (psD _)])) _
          unfold psD
          rw [List.map_map]
          rfl
        have hr := rng_nat m (by omega)
        have c1m : ∀ S1 : Store, (unexc (compL (cmpR c__law_items (.v 7) .nil (.ix (.var 1) (.bin false .mod (.bin false .add (.var 5) (.bin false .mul (.var 7) (.bin false .add (.con (.int 1)) (.bin false .mod (.bin false .fdiv (.var 5) (.con (.int 5))) (.con (.int 3)))))) (.bi false .len (.cons (.var 1) .nil)))) [a0, some (.d (.lst (pl.map .str))), some (.cell S.loc.length), some (.d (.int c)), some (.d (.int (c % 8))), some (.d (.int (c / 8))), a6, a7, a8]) (rngL 0 m) S1)).bnd (mkLst false) = .ok (.d (.lst (ns.map .str))) S1 := fun S1 => by
          rw [rngL_map, ← hns, List.map_map]
          refine comp_d (a := fun i : Nat => D.int (i : Int)) (g := D.str ∘ fun k : Nat => atF pl (c / 8 + (k : Int) * (1 + c / 8 / 5 % 3))) (fun k hk => ?_) (by rw [List.length_range]; omega)
          have hk := List.mem_range.mp hk
          have mm : mulOk (k : Int) (1 + c / 8 / 5 % 3) = true := mul_small (by omega) (by omega)
          unfold cmpR
          simp -implicitDefEqProofs only [clrs, tgv, asg_v, List.set_cons_succ, List.set_cons_zero, evAll_nil, bnd_ok, if_true, ev_ix, ev_var, List.getElem?_cons_zero, List.getElem?_cons_succ, ev_bin, ev_con, f5, bin_mod, show (0 : Int) < 3 by decide, bin_add, bin_mul, mm, ev_bi, evs_cons, evs_nil, bi_len, len_lst, lp, if_pos hp', at_ix pl hp0]
          rfl
        have c2m : ∀ S1 : Store, (unexc (compL (cmpR c__law_items (.v 8) .nil (.tup (.cons (.var 8) (.cons (.call 0 (.cons (.bin false .add (.bin false .fdiv (.var 5) (.con (.int 5))) (.bi false .len (.cons (.var 8) .nil))) .nil)) .nil))) [a0, some (.d (.lst (pl.map .str))), some (.cell S.loc.length), some (.d (.int c)), some (.d (.int (c % 8))), some (.d (.int (c / 8))), some (.d (.lst (ns.map .str))), a7, a8]) (ns.map .str) S1)).bnd (mkLst false) = .ok (.d (.lst (ns.map fun z => prD (z, thF (c / 8 / 5 + z.length))))) S1 := fun S1 => by
          refine comp_d (a := D.str) (g := fun z => prD (z, thF (c / 8 / 5 + z.length))) (fun z hzz => ?_) (by omega)
          have hl := hnz z hzz
          have ln : ∀ S, bLen [.d (.str z)] S = .ok (.d (.int z.length)) S := fun S => len_str (by omega)
          unfold cmpR
          simp -implicitDefEqProofs only [clrs, tgv, asg_v, List.set_cons_succ, List.set_cons_zero, evAll_nil, bnd_ok, if_true, ev_tup, evs_cons, evs_nil, ev_call, cc__law_items_0, ev_var, List.getElem?_cons_zero, List.getElem?_cons_succ, ev_bin, ev_con, f5, ev_bi, bi_len, ln, bin_add, List.map_nil, List.append_nil, thing, mkTup2]
          rfl
        unfold forR iBody b__law_items
        simp -implicitDefEqProofs only [asg_v, List.set_cons_succ, List.set_cons_zero, exs_cons, ex_set, ev_bin, ev_var, ev_con, List.getElem?_cons_zero, List.getElem?_cons_succ, bnd_ok, bin_mod, show (0 : Int) < 8 by decide, show (0 : Int) < 4 by decide, if_true, stm_ok, seq_nx, f8, ex_ife, ev_cmp, cmp_lt, c0, decide_false, ifT_bl, Bool.false_eq_true, if_false, cmp_eqI, c1, show decide (c % 8 = 7) = true from decide_eq_true c2, ex_expr, ev_mt, ty, Mt.on, evs_cons, evs_nil, ev_tup, ev_comp, evIt_rng, evIt_seq, items_lst, hm', hr, c1m, c2m, tp, mtS, ap, exs_nil]
      · rw [if_neg c2]
        refine ⟨some (.d (.int c)), some (.d (.int (c % 8))), some (.d (.int (c / 8))), a6, a7, a8, ?_⟩
        have ap := ap (.named (atF pl (c / 8)) (thF (c / 8 / 3)))
        have tp : ∀ S, mkTup [.d (.str "named"), .d (.str (atF pl (c / 8))), .d (.int (thF (c / 8 / 3)))] S = .ok (.d (Itm.named (atF pl (c / 8)) (thF (c / 8 / 3))).d) S := fun _ => rfl
        unfold forR iBody b__law_items
        simp -implicitDefEqProofs only [asg_v, List.set_cons_succ, List.set_cons_zero, exs_cons, ex_set, ev_bin, ev_var, ev_con, List.getElem?_cons_zero, List.getElem?_cons_succ, bnd_ok, bin_mod, show (0 : Int) < 8 by decide, if_true, stm_ok, seq_nx, f8, f3, ex_ife, ev_cmp, cmp_lt, c0, decide_false, ifT_bl, Bool.false_eq_true, if_false, cmp_eqI, c1, c2, ex_expr, ev_mt, ty, Mt.on, evs_cons, evs_nil, ev_tup, ev_ix, ev_bi, bi_len, len_lst, lp, if_pos hp', at_ix pl hp0, ev_call, cc__law_items_0, List.map_nil, List.append_nil, thing, tp, mtS, ap, exs_nil]
theorem item_loop (n : Nat) (pl : List Str) (hp0 : 0 < pl.length) (hp : pl.length ≤ 30) (hz : ∀ z ∈ pl, z.length ≤ 8) (S : Store) (a0 : Option T) : ∀ (cs : List Int) (its : List Itm) (a3 a4 a5 a6 a7 a8 : Option T), its.length + cs.length ≤ 100 → ∃ a3' a4' a5' a6' a7' a8',
    forL (forR c__law_items n (.v 3) iBody) (cs.map .int) [a0, some (.d (.lst (pl.map .str))), some (.cell S.loc.length), a3, a4, a5, a6, a7, a8] (S.push (.lst (its.map Itm.d))) = .nx [a0, some (.d (.lst (pl.map .str))), some (.cell S.loc.length), a3', a4', a5', a6', a7', a8'] (S.push (.lst ((its ++ cs.map (itF pl)).map Itm.d)))
  | [], its, a3, a4, a5, a6, a7, a8, _ => ⟨a3, a4, a5, a6, a7, a8, by rw [List.map_nil, List.map_nil, List.append_nil]; rfl⟩
  | c :: cs, its, a3, a4, a5, a6, a7, a8, hl => by
    simp only [List.length_cons] at hl
    obtain ⟨b3, b4, b5, b6, b7, b8, e1⟩ := item_step n pl hp0 hp hz S a0 c its (by omega) a3 a4 a5 a6 a7 a8
    obtain ⟨d3, d4, d5, d6, d7, d8, e2⟩ := item_loop n pl hp0 hp hz S a0 cs (its ++ [itF pl c]) b3 b4 b5 b6 b7 b8 (by rw [List.length_append]; show _ + 1 + _ ≤ _; omega)
    refine ⟨d3, d4, d5, d6, d7, d8, ?_⟩
    rw [List.map_cons, forL_nx e1, e2, List.append_assoc]
    rfl
theorem items_ok (pl : List Str) (hp0 : 0 < pl.length) (hp : pl.length ≤ 30) (hz : ∀ z ∈ pl, z.length ≤ 8) (cs : List Int) (hl : cs.length ≤ 100) (S : Store) : m__law_items [.d (.lst (cs.map .int)), .d (.lst (pl.map .str))] S = .ok (.d (callD (cs.map (itF pl)))) S := by
  obtain ⟨a3, a4, a5, a6, a7, a8, e⟩ := item_loop S.loc.length pl hp0 hp hz S (some (.d (.lst (cs.map .int)))) cs [] none none none none none none (by simpa using hl)
  obtain ⟨S', f1, f2⟩ := frz_lst (cx := c__law_items) (i := 2) (S := S) (σ := [some (.d (.lst (cs.map .int))), some (.d (.lst (pl.map .str))), some (.cell S.loc.length), a3, a4, a5, a6, a7, a8]) (xs := (cs.map (itF pl)).map Itm.d) rfl
  unfold iBody b__law_items at e
  dsimp only at e
  rw [List.nil_append] at e
  unfold m__law_items
  rw [mkFn_eq (by rfl)]
  simp -implicitDefEqProofs only [List.map_cons, List.map_nil, List.replicate, Nat.reduceSub, List.cons_append, List.nil_append, List.append_nil, exs_cons, exs_nil, ex_set, ex_setA, ex_setI, ex_ife, ex_expr, ex_ret, ex_retN, ex_brk, ex_cnt, ex_pass, ex_for, ex_rai, ex_par, ex_try, exh_cons, exh_nil, tr_nx, tr_exc, tr_ret, xIn_some, xIn_none, xDel_some, xDel_none, xOut_nx, xOut_ret, ev_var, ev_con, ev_glo, ev_tup, ev_lst, ev_bin, ev_neg, ev_cmp, ev_chn, ev_not, ev_and, ev_or, evAnd_one, evAnd_two, evOr_one, evOr_two, ev_ife, ev_ix, ev_slc, ev_bi, ev_mt, ev_call, ev_comp, ev_cmc, ev_attr, ev_isi, ev_isx, ev_xat, evs_cons, evs_nil, evIt_seq, evIt_rng, evIt_enum, evIt_zip, evIt_rvs, evIt_rvr, evAll_nil, evAll_one, E.isNon, ofI, bnd_ok, bnd_exc, stm_ok, stm_exc, seq_nx, seq_ret, seq_exc, seq_brk, seq_cnt, fin_nx, fin_ret, fin_exc, fin_d, asg_v, asg_t, asgs_cons, asgs_nil, parts_d, parts_t, List.getElem?_cons_zero, List.getElem?_cons_succ, List.set_cons_succ, List.set_cons_zero, ifT_bl, okB_eq, ofB_some, id, mkTup1, mkTup2, mkTup3, mkLst_f0, mkLst_f1, mkLst_t0, items_lst, items_tup, itemL_lst, bi_len, bi_list, bi_tuple, bi_min, bi_max, bi_abs, bi_int, bi_sum, bi_all, bi_any, len_lst, len_tup, bin_add, bin_sub, bin_mul, bin_mod, bin_adds, neg_int', cmp_lt, cmp_le, cmp_gt, cmp_ge, cmp_eqI, cmp_neI, cmp_eqS, cmp_neS, cmp_eqB, cmp_neB, cmp_isB, cmp_isnotB, decide_true, decide_false, Bool.not_true, Bool.not_false, Bool.not_not, if_true, if_false, Bool.false_eq_true, Mt.on, mtS, trunc_self, clrs, tgv, tgvs, b__law_items, show forL _ (cs.map .int) _ (S.push (.lst [])) = _ from e, f1, f2]
  rfl
/-! ### what is due -/
def yBody : Ss := match b__law_laid with
  | .cons _ (.cons _ (.cons (.for _ _ b) _)) => b
  | _ => .nil
theorem due_loop (n : Nat) (S : Store) (r : Option T) : ∀ (its : List Itm) (xs : List Int) (ps : List (Str × Int)) (a : Option T), xs.length + (thingsOf its).length < 90000 → ps.length + (pairsOf its).length < 90000 → ∃ a',
    forL (forR c__law_laid n (.v 3) yBody) (its.map Itm.d) [r, some (.d (.lst (thD xs))), some (.d (.lst (psD ps))), a] S = .nx [r, some (.d (.lst (thD (xs ++ thingsOf its)))), some (.d (.lst (psD (ps ++ pairsOf its)))), a'] S
  | [], xs, ps, a, _, _ => ⟨a, by simp [thingsOf, pairsOf]⟩
  | it :: its, xs, ps, a, hx, hp => by
    have t1 : thingsOf (it :: its) = it.things ++ thingsOf its := List.flatMap_cons
    have t2 : pairsOf (it :: its) = it.pairs ++ pairsOf its := List.flatMap_cons
    rw [t1, List.length_append] at hx
    rw [t2, List.length_append] at hp
    obtain ⟨a', e⟩ := due_loop n S r its (xs ++ it.things) (ps ++ it.pairs) (some (.d it.d)) (by rw [List.length_append]; omega) (by rw [List.length_append]; omega)
    refine ⟨a', ?_⟩
    have lx := thD_len xs
    have lp := psD_len ps
    rw [List.map_cons, forL_nx (σ' := [r, some (.d (.lst (thD (xs ++ it.things)))), some (.d (.lst (psD (ps ++ it.pairs)))), some (.d it.d)]) (S' := S) ?_, e, t1, t2, List.append_assoc, List.append_assoc]
    unfold forR yBody b__law_laid
    have l0 : (thD []) = [] := rfl
    have l1 : (psD []) = [] := rfl
    cases it with
    | one x =>
      have ad := add_lst (a := thD xs) (b := [.int x]) (S := S) (by show _ + 1 ≤ _; omega)
      simp -implicitDefEqProofs only [List.map_cons, List.map_nil, List.replicate, Nat.reduceSub, List.cons_append, List.nil_append, List.append_nil, exs_cons, exs_nil, ex_set, ex_setA, ex_setI, ex_ife, ex_expr, ex_ret, ex_retN, ex_brk, ex_cnt, ex_pass, ex_for, ex_rai, ex_par, ex_try, exh_cons, exh_nil, tr_nx, tr_exc, tr_ret, xIn_some, xIn_none, xDel_some, xDel_none, xOut_nx, xOut_ret, ev_var, ev_con, ev_glo, ev_tup, ev_lst, ev_bin, ev_neg, ev_cmp, ev_chn, ev_not, ev_and, ev_or, evAnd_one, evAnd_two, evOr_one, evOr_two, ev_ife, ev_ix, ev_slc, ev_bi, ev_mt, ev_call, ev_comp, ev_cmc, ev_attr, ev_isi, ev_isx, ev_xat, evs_cons, evs_nil, evIt_seq, evIt_rng, evIt_enum, evIt_zip, evIt_rvs, evIt_rvr, evAll_nil, evAll_one, E.isNon, ofI, bnd_ok, bnd_exc, stm_ok, stm_exc, seq_nx, seq_ret, seq_exc, seq_brk, seq_cnt, fin_nx, fin_ret, fin_exc, fin_d, asg_v, asg_t, asgs_cons, asgs_nil, parts_d, parts_t, List.getElem?_cons_zero, List.getElem?_cons_succ, List.set_cons_succ, List.set_cons_zero, ifT_bl, okB_eq, ofB_some, id, mkTup1, mkTup2, mkTup3, mkLst_f0, mkLst_f1, mkLst_t0, items_lst, items_tup, itemL_lst, bi_len, bi_list, bi_tuple, bi_min, bi_max, bi_abs, bi_int, bi_sum, bi_all, bi_any, len_lst, len_tup, bin_add, bin_sub, bin_mul, bin_mod, bin_adds, neg_int', cmp_lt, cmp_le, cmp_gt, cmp_ge, cmp_eqI, cmp_neI, cmp_eqS, cmp_neS, cmp_eqB, cmp_neB, cmp_isB, cmp_isnotB, decide_true, decide_false, Bool.not_true, Bool.not_false, Bool.not_not, if_true, if_false, Bool.false_eq_true, Mt.on, mtS, trunc_self, clrs, tgv, tgvs, Itm.d, ix_0, ix_1, ad, Itm.things, Itm.pairs, thD_app]
      rfl
    | named z x =>
      have ad := add_lst (a := psD ps) (b := [.tup [.str z, .int x]]) (S := S) (by show _ + 1 ≤ _; omega)
      simp -implicitDefEqProofs only [List.map_cons, List.map_nil, List.replicate, Nat.reduceSub, List.cons_append, List.nil_append, List.append_nil, exs_cons, exs_nil, ex_set, ex_setA, ex_setI, ex_ife, ex_expr, ex_ret, ex_retN, ex_brk, ex_cnt, ex_pass, ex_for, ex_rai, ex_par, ex_try, exh_cons, exh_nil, tr_nx, tr_exc, tr_ret, xIn_some, xIn_none, xDel_some, xDel_none, xOut_nx, xOut_ret, ev_var, ev_con, ev_glo, ev_tup, ev_lst, ev_bin, ev_neg, ev_cmp, ev_chn, ev_not, ev_and, ev_or, evAnd_one, evAnd_two, evOr_one, evOr_two, ev_ife, ev_ix, ev_slc, ev_bi, ev_mt, ev_call, ev_comp, ev_cmc, ev_attr, ev_isi, ev_isx, ev_xat, evs_cons, evs_nil, evIt_seq, evIt_rng, evIt_enum, evIt_zip, evIt_rvs, evIt_rvr, evAll_nil, evAll_one, E.isNon, ofI, bnd_ok, bnd_exc, stm_ok, stm_exc, seq_nx, seq_ret, seq_exc, seq_brk, seq_cnt, fin_nx, fin_ret, fin_exc, fin_d, asg_v, asg_t, asgs_cons, asgs_nil, parts_d, parts_t, List.getElem?_cons_zero, List.getElem?_cons_succ, List.set_cons_succ, List.set_cons_zero, ifT_bl, okB_eq, ofB_some, id, mkTup1, mkTup2, mkTup3, mkLst_f0, mkLst_f1, mkLst_t0, items_lst, items_tup, itemL_lst, bi_len, bi_list, bi_tuple, bi_min, bi_max, bi_abs, bi_int, bi_sum, bi_all, bi_any, len_lst, len_tup, bin_add, bin_sub, bin_mul, bin_mod, bin_adds, neg_int', cmp_lt, cmp_le, cmp_gt, cmp_ge, cmp_eqI, cmp_neI, cmp_eqS, cmp_neS, cmp_eqB, cmp_neB, cmp_isB, cmp_isnotB, decide_true, decide_false, Bool.not_true, Bool.not_false, Bool.not_not, if_true, if_false, Bool.false_eq_true, Mt.on, mtS, trunc_self, clrs, tgv, tgvs, Itm.d, ix_0, ix_1, ix_2, ad, n_named_one, n_named_row, Itm.things, Itm.pairs, psD_app]
      rfl
    | row ys =>
      have ly := thD_len ys
      have hx : xs.length + (ys.length + _) < 90000 := hx
      have ad := add_lst (a := thD xs) (b := thD ys) (S := S) (by omega)
      simp -implicitDefEqProofs only [List.map_cons, List.map_nil, List.replicate, Nat.reduceSub, List.cons_append, List.nil_append, List.append_nil, exs_cons, exs_nil, ex_set, ex_setA, ex_setI, ex_ife, ex_expr, ex_ret, ex_retN, ex_brk, ex_cnt, ex_pass, ex_for, ex_rai, ex_par, ex_try, exh_cons, exh_nil, tr_nx, tr_exc, tr_ret, xIn_some, xIn_none, xDel_some, xDel_none, xOut_nx, xOut_ret, ev_var, ev_con, ev_glo, ev_tup, ev_lst, ev_bin, ev_neg, ev_cmp, ev_chn, ev_not, ev_and, ev_or, evAnd_one, evAnd_two, evOr_one, evOr_two, ev_ife, ev_ix, ev_slc, ev_bi, ev_mt, ev_call, ev_comp, ev_cmc, ev_attr, ev_isi, ev_isx, ev_xat, evs_cons, evs_nil, evIt_seq, evIt_rng, evIt_enum, evIt_zip, evIt_rvs, evIt_rvr, evAll_nil, evAll_one, E.isNon, ofI, bnd_ok, bnd_exc, stm_ok, stm_exc, seq_nx, seq_ret, seq_exc, seq_brk, seq_cnt, fin_nx, fin_ret, fin_exc, fin_d, asg_v, asg_t, asgs_cons, asgs_nil, parts_d, parts_t, List.getElem?_cons_zero, List.getElem?_cons_succ, List.set_cons_succ, List.set_cons_zero, ifT_bl, okB_eq, ofB_some, id, mkTup1, mkTup2, mkTup3, mkLst_f0, mkLst_f1, mkLst_t0, items_lst, items_tup, itemL_lst, bi_len, bi_list, bi_tuple, bi_min, bi_max, bi_abs, bi_int, bi_sum, bi_all, bi_any, len_lst, len_tup, bin_add, bin_sub, bin_mul, bin_mod, bin_adds, neg_int', cmp_lt, cmp_le, cmp_gt, cmp_ge, cmp_eqI, cmp_neI, cmp_eqS, cmp_neS, cmp_eqB, cmp_neB, cmp_isB, cmp_isnotB, decide_true, decide_false, Bool.not_true, Bool.not_false, Bool.not_not, if_true, if_false, Bool.false_eq_true, Mt.on, mtS, trunc_self, clrs, tgv, tgvs, Itm.d, ix_0, ix_1, ad, n_row_one, Itm.things, Itm.pairs, thD_app]
    | book qs =>
      have lq := psD_len qs
      have hp : ps.length + (qs.length + _) < 90000 := hp
      have ad := add_lst (a := psD ps) (b := psD qs) (S := S) (by omega)
      simp -implicitDefEqProofs only [List.map_cons, List.map_nil, List.replicate, Nat.reduceSub, List.cons_append, List.nil_append, List.append_nil, exs_cons, exs_nil, ex_set, ex_setA, ex_setI, ex_ife, ex_expr, ex_ret, ex_retN, ex_brk, ex_cnt, ex_pass, ex_for, ex_rai, ex_par, ex_try, exh_cons, exh_nil, tr_nx, tr_exc, tr_ret, xIn_some, xIn_none, xDel_some, xDel_none, xOut_nx, xOut_ret, ev_var, ev_con, ev_glo, ev_tup, ev_lst, ev_bin, ev_neg, ev_cmp, ev_chn, ev_not, ev_and, ev_or, evAnd_one, evAnd_two, evOr_one, evOr_two, ev_ife, ev_ix, ev_slc, ev_bi, ev_mt, ev_call, ev_comp, ev_cmc, ev_attr, ev_isi, ev_isx, ev_xat, evs_cons, evs_nil, evIt_seq, evIt_rng, evIt_enum, evIt_zip, evIt_rvs, evIt_rvr, evAll_nil, evAll_one, E.isNon, ofI, bnd_ok, bnd_exc, stm_ok, stm_exc, seq_nx, seq_ret, seq_exc, seq_brk, seq_cnt, fin_nx, fin_ret, fin_exc, fin_d, asg_v, asg_t, asgs_cons, asgs_nil, parts_d, parts_t, List.getElem?_cons_zero, List.getElem?_cons_succ, List.set_cons_succ, List.set_cons_zero, ifT_bl, okB_eq, ofB_some, id, mkTup1, mkTup2, mkTup3, mkLst_f0, mkLst_f1, mkLst_t0, items_lst, items_tup, itemL_lst, bi_len, bi_list, bi_tuple, bi_min, bi_max, bi_abs, bi_int, bi_sum, bi_all, bi_any, len_lst, len_tup, bin_add, bin_sub, bin_mul, bin_mod, bin_adds, neg_int', cmp_lt, cmp_le, cmp_gt, cmp_ge, cmp_eqI, cmp_neI, cmp_eqS, cmp_neS, cmp_eqB, cmp_neB, cmp_isB, cmp_isnotB, decide_true, decide_false, Bool.not_true, Bool.not_false, Bool.not_not, if_true, if_false, Bool.false_eq_true, Mt.on, mtS, trunc_self, clrs, tgv, tgvs, Itm.d, ix_0, ix_1, ad, n_book_one, n_book_row, n_book_named, Itm.things, Itm.pairs, psD_app]
theorem due_ok (its : List Itm) (hx : (thingsOf its).length < 90000) (hp : (pairsOf its).length < 90000) (S : Store) : m__law_laid [.d (callD its)] S = .ok (.d (layD (thingsOf its) (pairsOf its))) S := by
  obtain ⟨a', e⟩ := due_loop S.loc.length S (some (.d (callD its))) its [] [] none (by simpa using hx) (by simpa using hp)
  simp only [List.nil_append] at e
  unfold yBody b__law_laid at e
  dsimp only at e
  unfold m__law_laid
  rw [mkFn_eq (by rfl)]
  simp -implicitDefEqProofs only [List.map_cons, List.map_nil, List.replicate, Nat.reduceSub, List.cons_append, List.nil_append, List.append_nil, exs_cons, exs_nil, ex_set, ex_setA, ex_setI, ex_ife, ex_expr, ex_ret, ex_retN, ex_brk, ex_cnt, ex_pass, ex_for, ex_rai, ex_par, ex_try, exh_cons, exh_nil, tr_nx, tr_exc, tr_ret, xIn_some, xIn_none, xDel_some, xDel_none, xOut_nx, xOut_ret, ev_var, ev_con, ev_glo, ev_tup, ev_lst, ev_bin, ev_neg, ev_cmp, ev_chn, ev_not, ev_and, ev_or, evAnd_one, evAnd_two, evOr_one, evOr_two, ev_ife, ev_ix, ev_slc, ev_bi, ev_mt, ev_call, ev_comp, ev_cmc, ev_attr, ev_isi, ev_isx, ev_xat, evs_cons, evs_nil, evIt_seq, evIt_rng, evIt_enum, evIt_zip, evIt_rvs, evIt_rvr, evAll_nil, evAll_one, E.isNon, ofI, bnd_ok, bnd_exc, stm_ok, stm_exc, seq_nx, seq_ret, seq_exc, seq_brk, seq_cnt, fin_nx, fin_ret, fin_exc, fin_d, asg_v, asg_t, asgs_cons, asgs_nil, parts_d, parts_t, List.getElem?_cons_zero, List.getElem?_cons_succ, List.set_cons_succ, List.set_cons_zero, ifT_bl, okB_eq, ofB_some, id, mkTup1, mkTup2, mkTup3, mkLst_f0, mkLst_f1, mkLst_t0, items_lst, items_tup, itemL_lst, bi_len, bi_list, bi_tuple, bi_min, bi_max, bi_abs, bi_int, bi_sum, bi_all, bi_any, len_lst, len_tup, bin_add, bin_sub, bin_mul, bin_mod, bin_adds, neg_int', cmp_lt, cmp_le, cmp_gt, cmp_ge, cmp_eqI, cmp_neI, cmp_eqS, cmp_neS, cmp_eqB, cmp_neB, cmp_isB, cmp_isnotB, decide_true, decide_false, Bool.not_true, Bool.not_false, Bool.not_not, if_true, if_false, Bool.false_eq_true, Mt.on, mtS, trunc_self, clrs, tgv, tgvs, b__law_laid, show items (.d (callD its)) = some (its.map Itm.d) from rfl, show forL _ _ [_, some (.d (.lst [])), some (.d (.lst [])), _] S = _ from e]
  rfl
/-! ### changes -/
inductive Ch where
  | less | more | out (z : Str) | inn (z : Str)
def Ch.d : Ch → D
  | .less => .tup [.str "less"]
  | .more => .tup [.str "more"]
  | .out z => .tup [.str "out", .str z]
  | .inn z => .tup [.str "in", .str z]
def chF (pl : List Str) (c : Int) : Ch := if c % 4 = 0 then .less else if c % 4 = 1 then .more else if c % 4 = 2 then .out (atF pl (c / 4)) else .inn (atF pl (c / 4))
theorem change (pl : List Str) (hp0 : 0 < pl.length) (c : Int) (S : Store) : m__law_change [.d (.int c), .d (.lst (pl.map .str))] S = .ok (.d (chF pl c).d) S := by
  have lp : ((pl.map D.str).length : Int) = (pl.length : Int) := by rw [List.length_map]
  have hp' : (0 : Int) < pl.length := by omega
  have f4 : ∀ S, binS false .fdiv (.d (.int c)) (.d (.int 4)) S = .ok (.d (.int (c / 4))) S := fun S => bin_fdiv (by omega) (by omega)
  have mk : ∀ a b c d S, mkLst false [.d a, .d b, .d c, .d d] S = .ok (.d (.lst [a, b, c, d])) S := fun _ _ _ _ _ => rfl
  have hx : ∀ z S, ixS (.d (.lst [.tup [.str "less"], .tup [.str "more"], .tup [.str "out", .str z], .tup [.str "in", .str z]])) (.d (.int (c % 4))) S = .ok (.d (if c % 4 = 0 then Ch.less else if c % 4 = 1 then .more else if c % 4 = 2 then .out z else .inn z).d) S := fun z S => by
    rcases (show c % 4 = 0 ∨ c % 4 = 1 ∨ c % 4 = 2 ∨ c % 4 = 3 by omega) with h | h | h | h <;> rw [h] <;> rfl
  unfold m__law_change
  rw [mkFn_eq (by rfl)]
  simp -implicitDefEqProofs only [List.map_cons, List.map_nil, List.replicate, Nat.reduceSub, List.cons_append, List.nil_append, List.append_nil, exs_cons, exs_nil, ex_set, ex_setA, ex_setI, ex_ife, ex_expr, ex_ret, ex_retN, ex_brk, ex_cnt, ex_pass, ex_for, ex_rai, ex_par, ex_try, exh_cons, exh_nil, tr_nx, tr_exc, tr_ret, xIn_some, xIn_none, xDel_some, xDel_none, xOut_nx, xOut_ret, ev_var, ev_con, ev_glo, ev_tup, ev_lst, ev_bin, ev_neg, ev_cmp, ev_chn, ev_not, ev_and, ev_or, evAnd_one, evAnd_two, evOr_one, evOr_two, ev_ife, ev_ix, ev_slc, ev_bi, ev_mt, ev_call, ev_comp, ev_cmc, ev_attr, ev_isi, ev_isx, ev_xat, evs_cons, evs_nil, evIt_seq, evIt_rng, evIt_enum, evIt_zip, evIt_rvs, evIt_rvr, evAll_nil, evAll_one, E.isNon, ofI, bnd_ok, bnd_exc, stm_ok, stm_exc, seq_nx, seq_ret, seq_exc, seq_brk, seq_cnt, fin_nx, fin_ret, fin_exc, fin_d, asg_v, asg_t, asgs_cons, asgs_nil, parts_d, parts_t, List.getElem?_cons_zero, List.getElem?_cons_succ, List.set_cons_succ, List.set_cons_zero, ifT_bl, okB_eq, ofB_some, id, mkTup1, mkTup2, mkTup3, mkLst_f0, mkLst_f1, mkLst_t0, items_lst, items_tup, itemL_lst, bi_len, bi_list, bi_tuple, bi_min, bi_max, bi_abs, bi_int, bi_sum, bi_all, bi_any, len_lst, len_tup, bin_add, bin_sub, bin_mul, bin_mod, bin_adds, neg_int', cmp_lt, cmp_le, cmp_gt, cmp_ge, cmp_eqI, cmp_neI, cmp_eqS, cmp_neS, cmp_eqB, cmp_neB, cmp_isB, cmp_isnotB, decide_true, decide_false, Bool.not_true, Bool.not_false, Bool.not_not, if_true, if_false, Bool.false_eq_true, Mt.on, mtS, trunc_self, clrs, tgv, tgvs, b__law_change, f4, show (0 : Int) < 4 by decide, lp, if_pos hp', at_ix pl hp0, mk, hx]
  rfl
/-- the last place of a name -/
def lastF (z : Str) (ps : List (Str × Int)) : Option Nat := (List.range ps.length).reverse.find? fun j => decide ((ps.getD j ("", 0)).1 = z)
def behF (xs : List Int) (ps : List (Str × Int)) : Ch → Option (List Int × List (Str × Int))
  | .less => if xs.isEmpty then none else some (xs.take (xs.length - 1), ps)
  | .more => some (xs ++ [0], ps)
  | .out z => match lastF z ps with
    | none => none
    | some j => some (xs, ps.take j ++ ps.drop (j + 1))
  | .inn z => some (xs, ps ++ [(z, 0)])
theorem last_lt {z : Str} {ps : List (Str × Int)} {j : Nat} (h : lastF z ps = some j) : j < ps.length := by
  have := List.mem_of_find?_eq_some h
  simpa using this
theorem beh_len {xs xs' : List Int} {ps ps' : List (Str × Int)} {c : Ch} (h : behF xs ps c = some (xs', ps')) : xs'.length ≤ xs.length + 1 ∧ ps'.length ≤ ps.length + 1 := by
  cases c with
  | less =>
    simp only [behF] at h
    split at h
    · cases h
    · cases h
      exact ⟨by rw [List.length_take]; omega, by omega⟩
  | more =>
    cases h
    exact ⟨by simp, by omega⟩
  | out z =>
    simp only [behF] at h
    split at h
    · cases h
    · rename_i j hj
      cases h
      exact ⟨by omega, by rw [List.length_append, List.length_take, List.length_drop]; omega⟩
  | inn z =>
    cases h
    exact ⟨by omega, by simp⟩
theorem ps_ix (ps : List (Str × Int)) (j : Nat) (h : j < ps.length) (S : Store) : ixS (.d (.lst (psD ps))) (.d (.int (j : Int))) S = .ok (.d (prD (ps.getD j ("", 0)))) S := by
  refine ix_lst (by omega) ?_
  unfold psD
  rw [Int.toNat_natCast, List.getElem?_map, List.getElem?_eq_getElem h, List.getD_eq_getElem?_getD, List.getElem?_eq_getElem h]
  rfl
theorem slc_to (xs : List D) (j : Nat) (h : j ≤ xs.length) (hl : xs.length ≤ 90000) (S : Store) : slcS false (.d (.lst xs)) none (some (j : Int)) S = .ok (.d (.lst (xs.take j))) S := by
  have e : cut xs none (some (j : Int)) = xs.take j := cut_take xs j
  show mkL false (cut xs none (some (j : Int))) S = _
  rw [e]
  exact mkL_ok (by rw [List.length_take]; omega)
theorem slc_from (xs : List D) (j : Nat) (hl : xs.length ≤ 90000) (S : Store) : slcS false (.d (.lst xs)) (some ((j : Int) + 1)) none S = .ok (.d (.lst (xs.drop (j + 1)))) S := by
  have e : cut xs (some ((j : Int) + 1)) none = xs.drop (j + 1) := by
    unfold cut sIx
    simp only
    rw [if_neg (by omega), show ((j : Int) + 1).toNat = j + 1 by omega]
    by_cases h : j + 1 ≤ xs.length
    · rw [Nat.min_eq_left h, List.take_of_length_le (by rw [List.length_drop]; omega)]
    · rw [Nat.min_eq_right (by omega), List.drop_of_length_le (by omega), List.drop_of_length_le (by omega), List.take_nil]
  show mkL false (cut xs (some ((j : Int) + 1)) none) S = _
  rw [e]
  exact mkL_ok (by rw [List.length_drop]; omega)
theorem slc_less (xs : List D) (hl : xs.length ≤ 90000) (S : Store) : slcS false (.d (.lst xs)) none (some (-1)) S = .ok (.d (.lst (xs.take (xs.length - 1)))) S := by
  have e : cut xs none (some (-1)) = xs.take (xs.length - 1) := by
    unfold cut sIx
    simp only
    rw [if_pos (by omega), List.drop_zero, show (-1 + (xs.length : Int)).toNat - 0 = xs.length - 1 by omega]
  show mkL false (cut xs none (some (-1))) S = _
  rw [e]
  exact mkL_ok (by rw [List.length_take]; omega)
theorem nil_eq (f : D → D → Bool) (xs : List D) (h : (D.lst xs).ly lyMax = true) (S : Store) : cmpS .eq (.d (.lst xs)) (.d (.lst [])) S = .ok (.d (.bl xs.isEmpty)) S := by
  have r1 : S.rd (.d (.lst xs)) = some (.lst xs) := rfl
  have r2 : S.rd (.d (.lst [])) = some (.lst []) := rfl
  have h2 : (D.lst []).ly lyMax = true := rfl
  simp only [cmpS, eqS, r1, r2, h, h2, Bool.and_self, if_true, D.eqv, eqvs_nil, ofB_some, id]
theorem last_eq (z : Str) (ps : List (Str × Int)) : lastF z ps = ((List.range ps.length).filter fun j => decide ((ps.getD j ("", 0)).1 = z)).getLast? := by
  unfold lastF
  rw [← List.head?_filter, List.filter_reverse, List.head?_reverse]
theorem ix_last (l : List Nat) (j : Nat) (h : l.getLast? = some j) (S : Store) : ixS (.d (.lst (l.map fun j : Nat => .int (j : Int)))) (.d (.int (-1))) S = .ok (.d (.int (j : Int))) S := by
  have hl : 0 < l.length := by
    cases l with
    | nil => cases h
    | cons a b => exact Nat.succ_pos _
  have hi : ixN (l.map fun j : Nat => D.int (j : Int)).length (-1) = some (l.length - 1) := by
    unfold ixN
    rw [List.length_map, if_neg (by omega), if_pos (by omega)]
    congr 1
    omega
  have hg : (l.map fun j : Nat => D.int (j : Int))[l.length - 1]? = some (.int (j : Int)) := by
    rw [List.getElem?_map, ← List.getLast?_eq_getElem?, h]
    rfl
  simp only [ixS, Store.rd, hi, Option.bind_some, hg]
def behD : Option (List Int × List (Str × Int)) → D
  | none => .non
  | some (xs, ps) => layD xs ps
@[simp] theorem n_less_more : (Str.ofString "less" = Str.ofString "more") = False := eq_false (by decide +kernel)
@[simp] theorem n_less_in : (Str.ofString "less" = Str.ofString "in") = False := eq_false (by decide +kernel)
@[simp] theorem n_less_out : (Str.ofString "less" = Str.ofString "out") = False := eq_false (by decide +kernel)
@[simp] theorem n_more_less : (Str.ofString "more" = Str.ofString "less") = False := eq_false (by decide +kernel)
@[simp] theorem n_in_more : (Str.ofString "in" = Str.ofString "more") = False := eq_false (by decide +kernel)
@[simp] theorem n_in_less : (Str.ofString "in" = Str.ofString "less") = False := eq_false (by decide +kernel)
@[simp] theorem n_in_out : (Str.ofString "in" = Str.ofString "out") = False := eq_false (by decide +kernel)
@[simp] theorem n_out_more : (Str.ofString "out" = Str.ofString "more") = False := eq_false (by decide +kernel)
@[simp] theorem n_out_less : (Str.ofString "out" = Str.ofString "less") = False := eq_false (by decide +kernel)
@[simp] theorem n_out_in : (Str.ofString "out" = Str.ofString "in") = False := eq_false (by decide +kernel)
theorem psD_take (ps : List (Str × Int)) (j : Nat) : (psD ps).take j = psD (ps.take j) := by unfold psD; rw [List.map_take]
theorem psD_drop (ps : List (Str × Int)) (j : Nat) : (psD ps).drop j = psD (ps.drop j) := by unfold psD; rw [List.map_drop]
theorem behind (xs : List Int) (ps : List (Str × Int)) (ch : Ch) (hx : xs.length ≤ 1000) (hp : ps.length ≤ 1000) (S : Store) : m__law_behind [.d (.lst (thD xs)), .d (.lst (psD ps)), .d ch.d] S = .ok (.d (behD (behF xs ps ch))) S := by
  have lx := thD_len xs
  have lp := psD_len ps
  have lpi : ((psD ps).length : Int) = (ps.length : Int) := by rw [lp]
  unfold m__law_behind
  rw [mkFn_eq (by rfl)]
  cases ch with
  | more =>
    have ad := add_lst (a := thD xs) (b := [.int 0]) (S := S) (by show _ + 1 ≤ _; omega)
    simp -implicitDefEqProofs only [List.map_cons, List.map_nil, List.replicate, Nat.reduceSub, List.cons_append, List.nil_append, List.append_nil, exs_cons, exs_nil, ex_set, ex_setA, ex_setI, ex_ife, ex_expr, ex_ret, ex_retN, ex_brk, ex_cnt, ex_pass, ex_for, ex_rai, ex_par, ex_try, exh_cons, exh_nil, tr_nx, tr_exc, tr_ret, xIn_some, xIn_none, xDel_some, xDel_none, xOut_nx, xOut_ret, ev_var, ev_con, ev_glo, ev_tup, ev_lst, ev_bin, ev_neg, ev_cmp, ev_chn, ev_not, ev_and, ev_or, evAnd_one, evAnd_two, evOr_one, evOr_two, ev_ife, ev_ix, ev_slc, ev_bi, ev_mt, ev_call, ev_comp, ev_cmc, ev_attr, ev_isi, ev_isx, ev_xat, evs_cons, evs_nil, evIt_seq, evIt_rng, evIt_enum, evIt_zip, evIt_rvs, evIt_rvr, evAll_nil, evAll_one, E.isNon, ofI, bnd_ok, bnd_exc, stm_ok, stm_exc, seq_nx, seq_ret, seq_exc, seq_brk, seq_cnt, fin_nx, fin_ret, fin_exc, fin_d, asg_v, asg_t, asgs_cons, asgs_nil, parts_d, parts_t, List.getElem?_cons_zero, List.getElem?_cons_succ, List.set_cons_succ, List.set_cons_zero, ifT_bl, okB_eq, ofB_some, id, mkTup1, mkTup2, mkTup3, mkLst_f0, mkLst_f1, mkLst_t0, items_lst, items_tup, itemL_lst, bi_len, bi_list, bi_tuple, bi_min, bi_max, bi_abs, bi_int, bi_sum, bi_all, bi_any, len_lst, len_tup, bin_add, bin_sub, bin_mul, bin_mod, bin_adds, neg_int', cmp_lt, cmp_le, cmp_gt, cmp_ge, cmp_eqI, cmp_neI, cmp_eqS, cmp_neS, cmp_eqB, cmp_neB, cmp_isB, cmp_isnotB, decide_true, decide_false, Bool.not_true, Bool.not_false, Bool.not_not, if_true, if_false, Bool.false_eq_true, Mt.on, mtS, trunc_self, clrs, tgv, tgvs, b__law_behind, Ch.d, ix_0, ad]
    rw [show thD xs ++ [D.int 0] = thD (xs ++ [0]) by rw [thD_app]; rfl]
    rfl
  | inn z =>
    have ad := add_lst (a := psD ps) (b := [.tup [.str z, .int 0]]) (S := S) (by show _ + 1 ≤ _; omega)
    simp -implicitDefEqProofs only [List.map_cons, List.map_nil, List.replicate, Nat.reduceSub, List.cons_append, List.nil_append, List.append_nil, exs_cons, exs_nil, ex_set, ex_setA, ex_setI, ex_ife, ex_expr, ex_ret, ex_retN, ex_brk, ex_cnt, ex_pass, ex_for, ex_rai, ex_par, ex_try, exh_cons, exh_nil, tr_nx, tr_exc, tr_ret, xIn_some, xIn_none, xDel_some, xDel_none, xOut_nx, xOut_ret, ev_var, ev_con, ev_glo, ev_tup, ev_lst, ev_bin, ev_neg, ev_cmp, ev_chn, ev_not, ev_and, ev_or, evAnd_one, evAnd_two, evOr_one, evOr_two, ev_ife, ev_ix, ev_slc, ev_bi, ev_mt, ev_call, ev_comp, ev_cmc, ev_attr, ev_isi, ev_isx, ev_xat, evs_cons, evs_nil, evIt_seq, evIt_rng, evIt_enum, evIt_zip, evIt_rvs, evIt_rvr, evAll_nil, evAll_one, E.isNon, ofI, bnd_ok, bnd_exc, stm_ok, stm_exc, seq_nx, seq_ret, seq_exc, seq_brk, seq_cnt, fin_nx, fin_ret, fin_exc, fin_d, asg_v, asg_t, asgs_cons, asgs_nil, parts_d, parts_t, List.getElem?_cons_zero, List.getElem?_cons_succ, List.set_cons_succ, List.set_cons_zero, ifT_bl, okB_eq, ofB_some, id, mkTup1, mkTup2, mkTup3, mkLst_f0, mkLst_f1, mkLst_t0, items_lst, items_tup, itemL_lst, bi_len, bi_list, bi_tuple, bi_min, bi_max, bi_abs, bi_int, bi_sum, bi_all, bi_any, len_lst, len_tup, bin_add, bin_sub, bin_mul, bin_mod, bin_adds, neg_int', cmp_lt, cmp_le, cmp_gt, cmp_ge, cmp_eqI, cmp_neI, cmp_eqS, cmp_neS, cmp_eqB, cmp_neB, cmp_isB, cmp_isnotB, decide_true, decide_false, Bool.not_true, Bool.not_false, Bool.not_not, if_true, if_false, Bool.false_eq_true, Mt.on, mtS, trunc_self, clrs, tgv, tgvs, b__law_behind, Ch.d, ix_0, ix_1, n_in_more, ad]
    rw [show psD ps ++ [D.tup [.str z, .int 0]] = psD (ps ++ [(z, 0)]) by rw [psD_app]; rfl]
    rfl
  | less =>
    have ne := nil_eq (fun _ _ => true) (thD xs) (thD_ly 11 xs) S
    have sl := slc_less (thD xs) (by omega) S
    have em : (thD xs).isEmpty = xs.isEmpty := by cases xs <;> rfl
    simp -implicitDefEqProofs only [List.map_cons, List.map_nil, List.replicate, Nat.reduceSub, List.cons_append, List.nil_append, List.append_nil, exs_cons, exs_nil, ex_set, ex_setA, ex_setI, ex_ife, ex_expr, ex_ret, ex_retN, ex_brk, ex_cnt, ex_pass, ex_for, ex_rai, ex_par, ex_try, exh_cons, exh_nil, tr_nx, tr_exc, tr_ret, xIn_some, xIn_none, xDel_some, xDel_none, xOut_nx, xOut_ret, ev_var, ev_con, ev_glo, ev_tup, ev_lst, ev_bin, ev_neg, ev_cmp, ev_chn, ev_not, ev_and, ev_or, evAnd_one, evAnd_two, evOr_one, evOr_two, ev_ife, ev_ix, ev_slc, ev_bi, ev_mt, ev_call, ev_comp, ev_cmc, ev_attr, ev_isi, ev_isx, ev_xat, evs_cons, evs_nil, evIt_seq, evIt_rng, evIt_enum, evIt_zip, evIt_rvs, evIt_rvr, evAll_nil, evAll_one, E.isNon, ofI, bnd_ok, bnd_exc, stm_ok, stm_exc, seq_nx, seq_ret, seq_exc, seq_brk, seq_cnt, fin_nx, fin_ret, fin_exc, fin_d, asg_v, asg_t, asgs_cons, asgs_nil, parts_d, parts_t, List.getElem?_cons_zero, List.getElem?_cons_succ, List.set_cons_succ, List.set_cons_zero, ifT_bl, okB_eq, ofB_some, id, mkTup1, mkTup2, mkTup3, mkLst_f0, mkLst_f1, mkLst_t0, items_lst, items_tup, itemL_lst, bi_len, bi_list, bi_tuple, bi_min, bi_max, bi_abs, bi_int, bi_sum, bi_all, bi_any, len_lst, len_tup, bin_add, bin_sub, bin_mul, bin_mod, bin_adds, neg_int', cmp_lt, cmp_le, cmp_gt, cmp_ge, cmp_eqI, cmp_neI, cmp_eqS, cmp_neS, cmp_eqB, cmp_neB, cmp_isB, cmp_isnotB, decide_true, decide_false, Bool.not_true, Bool.not_false, Bool.not_not, if_true, if_false, Bool.false_eq_true, Mt.on, mtS, trunc_self, clrs, tgv, tgvs, b__law_behind, Ch.d, ix_0, n_less_more, n_less_in, ne, em]
    cases hxs : xs.isEmpty with
    | true =>
      simp -implicitDefEqProofs only [List.map_cons, List.map_nil, List.replicate, Nat.reduceSub, List.cons_append, List.nil_append, List.append_nil, exs_cons, exs_nil, ex_set, ex_setA, ex_setI, ex_ife, ex_expr, ex_ret, ex_retN, ex_brk, ex_cnt, ex_pass, ex_for, ex_rai, ex_par, ex_try, exh_cons, exh_nil, tr_nx, tr_exc, tr_ret, xIn_some, xIn_none, xDel_some, xDel_none, xOut_nx, xOut_ret, ev_var, ev_con, ev_glo, ev_tup, ev_lst, ev_bin, ev_neg, ev_cmp, ev_chn, ev_not, ev_and, ev_or, evAnd_one, evAnd_two, evOr_one, evOr_two, ev_ife, ev_ix, ev_slc, ev_bi, ev_mt, ev_call, ev_comp, ev_cmc, ev_attr, ev_isi, ev_isx, ev_xat, evs_cons, evs_nil, evIt_seq, evIt_rng, evIt_enum, evIt_zip, evIt_rvs, evIt_rvr, evAll_nil, evAll_one, E.isNon, ofI, bnd_ok, bnd_exc, stm_ok, stm_exc, seq_nx, seq_ret, seq_exc, seq_brk, seq_cnt, fin_nx, fin_ret, fin_exc, fin_d, asg_v, asg_t, asgs_cons, asgs_nil, parts_d, parts_t, List.getElem?_cons_zero, List.getElem?_cons_succ, List.set_cons_succ, List.set_cons_zero, ifT_bl, okB_eq, ofB_some, id, mkTup1, mkTup2, mkTup3, mkLst_f0, mkLst_f1, mkLst_t0, items_lst, items_tup, itemL_lst, bi_len, bi_list, bi_tuple, bi_min, bi_max, bi_abs, bi_int, bi_sum, bi_all, bi_any, len_lst, len_tup, bin_add, bin_sub, bin_mul, bin_mod, bin_adds, neg_int', cmp_lt, cmp_le, cmp_gt, cmp_ge, cmp_eqI, cmp_neI, cmp_eqS, cmp_neS, cmp_eqB, cmp_neB, cmp_isB, cmp_isnotB, decide_true, decide_false, Bool.not_true, Bool.not_false, Bool.not_not, if_true, if_false, Bool.false_eq_true, Mt.on, mtS, trunc_self, clrs, tgv, tgvs, behF, hxs]
      rfl
    | false =>
      simp -implicitDefEqProofs only [List.map_cons, List.map_nil, List.replicate, Nat.reduceSub, List.cons_append, List.nil_append, List.append_nil, exs_cons, exs_nil, ex_set, ex_setA, ex_setI, ex_ife, ex_expr, ex_ret, ex_retN, ex_brk, ex_cnt, ex_pass, ex_for, ex_rai, ex_par, ex_try, exh_cons, exh_nil, tr_nx, tr_exc, tr_ret, xIn_some, xIn_none, xDel_some, xDel_none, xOut_nx, xOut_ret, ev_var, ev_con, ev_glo, ev_tup, ev_lst, ev_bin, ev_neg, ev_cmp, ev_chn, ev_not, ev_and, ev_or, evAnd_one, evAnd_two, evOr_one, evOr_two, ev_ife, ev_ix, ev_slc, ev_bi, ev_mt, ev_call, ev_comp, ev_cmc, ev_attr, ev_isi, ev_isx, ev_xat, evs_cons, evs_nil, evIt_seq, evIt_rng, evIt_enum, evIt_zip, evIt_rvs, evIt_rvr, evAll_nil, evAll_one, E.isNon, ofI, bnd_ok, bnd_exc, stm_ok, stm_exc, seq_nx, seq_ret, seq_exc, seq_brk, seq_cnt, fin_nx, fin_ret, fin_exc, fin_d, asg_v, asg_t, asgs_cons, asgs_nil, parts_d, parts_t, List.getElem?_cons_zero, List.getElem?_cons_succ, List.set_cons_succ, List.set_cons_zero, ifT_bl, okB_eq, ofB_some, id, mkTup1, mkTup2, mkTup3, mkLst_f0, mkLst_f1, mkLst_t0, items_lst, items_tup, itemL_lst, bi_len, bi_list, bi_tuple, bi_min, bi_max, bi_abs, bi_int, bi_sum, bi_all, bi_any, len_lst, len_tup, bin_add, bin_sub, bin_mul, bin_mod, bin_adds, neg_int', cmp_lt, cmp_le, cmp_gt, cmp_ge, cmp_eqI, cmp_neI, cmp_eqS, cmp_neS, cmp_eqB, cmp_neB, cmp_isB, cmp_isnotB, decide_true, decide_false, Bool.not_true, Bool.not_false, Bool.not_not, if_true, if_false, Bool.false_eq_true, Mt.on, mtS, trunc_self, clrs, tgv, tgvs, behF, hxs, sl]
      rw [lx, show (thD xs).take (xs.length - 1) = thD (xs.take (xs.length - 1)) by unfold thD; rw [List.map_take]]
      rfl
  | out z =>
    have hr := rng_nat ps.length (by omega)
    have cm := fun S => comp_if (f := cmpR c__law_behind (.v 4) (.cons (.cmp .eq (.ix (.ix (.var 1) (.var 4)) (.con (.int 0))) (.ix (.var 2) (.con (.int 1)))) .nil) (.var 4) [some (.d (.lst (thD xs))), some (.d (.lst (psD ps))), some (.d (.tup [.str "out", .str z])), none, none]) (a := fun i : Nat => D.int (i : Int)) (p := fun j => decide ((ps.getD j ("", 0)).1 = z)) (g := fun i : Nat => D.int (i : Int)) (S := S) (xs := List.range ps.length) (fun k hk => by
      have hk := List.mem_range.mp hk
      have hi := ps_ix ps k hk S
      unfold prD at hi
      unfold cmpR
      simp -implicitDefEqProofs only [List.map_cons, List.map_nil, List.replicate, Nat.reduceSub, List.cons_append, List.nil_append, List.append_nil, exs_cons, exs_nil, ex_set, ex_setA, ex_setI, ex_ife, ex_expr, ex_ret, ex_retN, ex_brk, ex_cnt, ex_pass, ex_for, ex_rai, ex_par, ex_try, exh_cons, exh_nil, tr_nx, tr_exc, tr_ret, xIn_some, xIn_none, xDel_some, xDel_none, xOut_nx, xOut_ret, ev_var, ev_con, ev_glo, ev_tup, ev_lst, ev_bin, ev_neg, ev_cmp, ev_chn, ev_not, ev_and, ev_or, evAnd_one, evAnd_two, evOr_one, evOr_two, ev_ife, ev_ix, ev_slc, ev_bi, ev_mt, ev_call, ev_comp, ev_cmc, ev_attr, ev_isi, ev_isx, ev_xat, evs_cons, evs_nil, evIt_seq, evIt_rng, evIt_enum, evIt_zip, evIt_rvs, evIt_rvr, evAll_nil, evAll_one, E.isNon, ofI, bnd_ok, bnd_exc, stm_ok, stm_exc, seq_nx, seq_ret, seq_exc, seq_brk, seq_cnt, fin_nx, fin_ret, fin_exc, fin_d, asg_v, asg_t, asgs_cons, asgs_nil, parts_d, parts_t, List.getElem?_cons_zero, List.getElem?_cons_succ, List.set_cons_succ, List.set_cons_zero, ifT_bl, okB_eq, ofB_some, id, mkTup1, mkTup2, mkTup3, mkLst_f0, mkLst_f1, mkLst_t0, items_lst, items_tup, itemL_lst, bi_len, bi_list, bi_tuple, bi_min, bi_max, bi_abs, bi_int, bi_sum, bi_all, bi_any, len_lst, len_tup, bin_add, bin_sub, bin_mul, bin_mod, bin_adds, neg_int', cmp_lt, cmp_le, cmp_gt, cmp_ge, cmp_eqI, cmp_neI, cmp_eqS, cmp_neS, cmp_eqB, cmp_neB, cmp_isB, cmp_isnotB, decide_true, decide_false, Bool.not_true, Bool.not_false, Bool.not_not, if_true, if_false, Bool.false_eq_true, Mt.on, mtS, trunc_self, clrs, tgv, tgvs, hi, ix_0, ix_1]
      by_cases hc : (ps.getD k ("", 0)).1 = z
      · rw [decide_eq_true hc]
        rfl
      · rw [decide_eq_false hc]
        rfl) (by rw [List.length_range]; omega)
    have le := last_eq z ps
    generalize ((List.range ps.length).filter fun j => decide ((ps.getD j ("", 0)).1 = z)) = js at cm le
    have ly : (D.lst (js.map fun i : Nat => D.int (i : Int))).ly lyMax = true := all_map fun x _ => int_ly 11 x
    have ne := nil_eq (fun _ _ => true) (js.map fun i : Nat => D.int (i : Int)) ly S
    have em : (js.map fun i : Nat => D.int (i : Int)).isEmpty = js.isEmpty := by cases js <;> rfl
    simp -implicitDefEqProofs only [List.map_cons, List.map_nil, List.replicate, Nat.reduceSub, List.cons_append, List.nil_append, List.append_nil, exs_cons, exs_nil, ex_set, ex_setA, ex_setI, ex_ife, ex_expr, ex_ret, ex_retN, ex_brk, ex_cnt, ex_pass, ex_for, ex_rai, ex_par, ex_try, exh_cons, exh_nil, tr_nx, tr_exc, tr_ret, xIn_some, xIn_none, xDel_some, xDel_none, xOut_nx, xOut_ret, ev_var, ev_con, ev_glo, ev_tup, ev_lst, ev_bin, ev_neg, ev_cmp, ev_chn, ev_not, ev_and, ev_or, evAnd_one, evAnd_two, evOr_one, evOr_two, ev_ife, ev_ix, ev_slc, ev_bi, ev_mt, ev_call, ev_comp, ev_cmc, ev_attr, ev_isi, ev_isx, ev_xat, evs_cons, evs_nil, evIt_seq, evIt_rng, evIt_enum, evIt_zip, evIt_rvs, evIt_rvr, evAll_nil, evAll_one, E.isNon, ofI, bnd_ok, bnd_exc, stm_ok, stm_exc, seq_nx, seq_ret, seq_exc, seq_brk, seq_cnt, fin_nx, fin_ret, fin_exc, fin_d, asg_v, asg_t, asgs_cons, asgs_nil, parts_d, parts_t, List.getElem?_cons_zero, List.getElem?_cons_succ, List.set_cons_succ, List.set_cons_zero, ifT_bl, okB_eq, ofB_some, id, mkTup1, mkTup2, mkTup3, mkLst_f0, mkLst_f1, mkLst_t0, items_lst, items_tup, itemL_lst, bi_len, bi_list, bi_tuple, bi_min, bi_max, bi_abs, bi_int, bi_sum, bi_all, bi_any, len_lst, len_tup, bin_add, bin_sub, bin_mul, bin_mod, bin_adds, neg_int', cmp_lt, cmp_le, cmp_gt, cmp_ge, cmp_eqI, cmp_neI, cmp_eqS, cmp_neS, cmp_eqB, cmp_neB, cmp_isB, cmp_isnotB, decide_true, decide_false, Bool.not_true, Bool.not_false, Bool.not_not, if_true, if_false, Bool.false_eq_true, Mt.on, mtS, trunc_self, clrs, tgv, tgvs, b__law_behind, Ch.d, ix_0, n_out_more, n_out_in, n_out_less, lpi, hr, rngL_map, cm, ne, em]
    cases hj : js.isEmpty with
    | true =>
      have : js = [] := by simpa using hj
      subst this
      simp -implicitDefEqProofs only [List.map_cons, List.map_nil, List.replicate, Nat.reduceSub, List.cons_append, List.nil_append, List.append_nil, exs_cons, exs_nil, ex_set, ex_setA, ex_setI, ex_ife, ex_expr, ex_ret, ex_retN, ex_brk, ex_cnt, ex_pass, ex_for, ex_rai, ex_par, ex_try, exh_cons, exh_nil, tr_nx, tr_exc, tr_ret, xIn_some, xIn_none, xDel_some, xDel_none, xOut_nx, xOut_ret, ev_var, ev_con, ev_glo, ev_tup, ev_lst, ev_bin, ev_neg, ev_cmp, ev_chn, ev_not, ev_and, ev_or, evAnd_one, evAnd_two, evOr_one, evOr_two, ev_ife, ev_ix, ev_slc, ev_bi, ev_mt, ev_call, ev_comp, ev_cmc, ev_attr, ev_isi, ev_isx, ev_xat, evs_cons, evs_nil, evIt_seq, evIt_rng, evIt_enum, evIt_zip, evIt_rvs, evIt_rvr, evAll_nil, evAll_one, E.isNon, ofI, bnd_ok, bnd_exc, stm_ok, stm_exc, seq_nx, seq_ret, seq_exc, seq_brk, seq_cnt, fin_nx, fin_ret, fin_exc, fin_d, asg_v, asg_t, asgs_cons, asgs_nil, parts_d, parts_t, List.getElem?_cons_zero, List.getElem?_cons_succ, List.set_cons_succ, List.set_cons_zero, ifT_bl, okB_eq, ofB_some, id, mkTup1, mkTup2, mkTup3, mkLst_f0, mkLst_f1, mkLst_t0, items_lst, items_tup, itemL_lst, bi_len, bi_list, bi_tuple, bi_min, bi_max, bi_abs, bi_int, bi_sum, bi_all, bi_any, len_lst, len_tup, bin_add, bin_sub, bin_mul, bin_mod, bin_adds, neg_int', cmp_lt, cmp_le, cmp_gt, cmp_ge, cmp_eqI, cmp_neI, cmp_eqS, cmp_neS, cmp_eqB, cmp_neB, cmp_isB, cmp_isnotB, decide_true, decide_false, Bool.not_true, Bool.not_false, Bool.not_not, if_true, if_false, Bool.false_eq_true, Mt.on, mtS, trunc_self, clrs, tgv, tgvs, behF, le, List.getLast?_nil]
      rfl
    | false =>
      obtain ⟨j, h⟩ : ∃ j, js.getLast? = some j := by
        cases js with
        | nil => cases hj
        | cons a b => exact ⟨_, List.getLast?_cons⟩
      have h1 := last_lt (le.trans h)
      have ix := ix_last js j h S
      have s1 := slc_to (psD ps) j (by omega) (by omega) S
      have s2 := slc_from (psD ps) j (by omega) S
      rw [psD_take] at s1
      rw [psD_drop] at s2
      have ad := add_lst (a := psD (ps.take j)) (b := psD (ps.drop (j + 1))) (S := S) (by rw [psD_len, psD_len, List.length_take, List.length_drop]; omega)
      rw [← psD_app] at ad
      simp -implicitDefEqProofs only [List.map_cons, List.map_nil, List.replicate, Nat.reduceSub, List.cons_append, List.nil_append, List.append_nil, exs_cons, exs_nil, ex_set, ex_setA, ex_setI, ex_ife, ex_expr, ex_ret, ex_retN, ex_brk, ex_cnt, ex_pass, ex_for, ex_rai, ex_par, ex_try, exh_cons, exh_nil, tr_nx, tr_exc, tr_ret, xIn_some, xIn_none, xDel_some, xDel_none, xOut_nx, xOut_ret, ev_var, ev_con, ev_glo, ev_tup, ev_lst, ev_bin, ev_neg, ev_cmp, ev_chn, ev_not, ev_and, ev_or, evAnd_one, evAnd_two, evOr_one, evOr_two, ev_ife, ev_ix, ev_slc, ev_bi, ev_mt, ev_call, ev_comp, ev_cmc, ev_attr, ev_isi, ev_isx, ev_xat, evs_cons, evs_nil, evIt_seq, evIt_rng, evIt_enum, evIt_zip, evIt_rvs, evIt_rvr, evAll_nil, evAll_one, E.isNon, ofI, bnd_ok, bnd_exc, stm_ok, stm_exc, seq_nx, seq_ret, seq_exc, seq_brk, seq_cnt, fin_nx, fin_ret, fin_exc, fin_d, asg_v, asg_t, asgs_cons, asgs_nil, parts_d, parts_t, List.getElem?_cons_zero, List.getElem?_cons_succ, List.set_cons_succ, List.set_cons_zero, ifT_bl, okB_eq, ofB_some, id, mkTup1, mkTup2, mkTup3, mkLst_f0, mkLst_f1, mkLst_t0, items_lst, items_tup, itemL_lst, bi_len, bi_list, bi_tuple, bi_min, bi_max, bi_abs, bi_int, bi_sum, bi_all, bi_any, len_lst, len_tup, bin_add, bin_sub, bin_mul, bin_mod, bin_adds, neg_int', cmp_lt, cmp_le, cmp_gt, cmp_ge, cmp_eqI, cmp_neI, cmp_eqS, cmp_neS, cmp_eqB, cmp_neB, cmp_isB, cmp_isnotB, decide_true, decide_false, Bool.not_true, Bool.not_false, Bool.not_not, if_true, if_false, Bool.false_eq_true, Mt.on, mtS, trunc_self, clrs, tgv, tgvs, behF, le, h, ix, s1, s2, ad]
      rfl
/-! ### the program's changes -/
def wBody : Ss := match b_without_last with
  | .cons (.for _ _ b) _ => b
  | _ => .nil
theorem wl_loop (n : Nat) (z : Str) (ps : List (Str × Int)) (hp : ps.length ≤ 1000) (S : Store) : ∀ (js : List Nat) (a : Option T), (∀ j ∈ js, j < ps.length) → ∃ a',
    forL (forR c_without_last n (.v 2) wBody) (js.map fun j : Nat => .int (j : Int)) [some (.d (.lst (psD ps))), some (.d (.str z)), a] S = match js.find? fun j => decide ((ps.getD j ("", 0)).1 = z) with
      | some j => .ret (.d (.lst (psD (ps.take j ++ ps.drop (j + 1))))) S
      | none => .nx [some (.d (.lst (psD ps))), some (.d (.str z)), a'] S
  | [], a, _ => ⟨a, rfl⟩
  | j :: js, a, h => by
    have lp := psD_len ps
    have h1 := h j List.mem_cons_self
    have hi := ps_ix ps j h1 S
    unfold prD at hi
    obtain ⟨a', e⟩ := wl_loop n z ps hp S js (some (.d (.int j))) fun i hi => h i (List.mem_cons_of_mem _ hi)
    refine ⟨a', ?_⟩
    rw [List.map_cons, List.find?_cons]
    by_cases hc : (ps.getD j ("", 0)).1 = z
    · rw [decide_eq_true hc]
      refine forL_ret ?_
      have s1 := slc_to (psD ps) j (by omega) (by omega) S
      have s2 := slc_from (psD ps) j (by omega) S
      rw [psD_take] at s1
      rw [psD_drop] at s2
      have ad := add_lst (a := psD (ps.take j)) (b := psD (ps.drop (j + 1))) (S := S) (by rw [psD_len, psD_len, List.length_take, List.length_drop]; omega)
      rw [← psD_app] at ad
      unfold forR wBody b_without_last
      simp -implicitDefEqProofs only [List.map_cons, List.map_nil, List.replicate, Nat.reduceSub, List.cons_append, List.nil_append, List.append_nil, exs_cons, exs_nil, ex_set, ex_setA, ex_setI, ex_ife, ex_expr, ex_ret, ex_retN, ex_brk, ex_cnt, ex_pass, ex_for, ex_rai, ex_par, ex_try, exh_cons, exh_nil, tr_nx, tr_exc, tr_ret, xIn_some, xIn_none, xDel_some, xDel_none, xOut_nx, xOut_ret, ev_var, ev_con, ev_glo, ev_tup, ev_lst, ev_bin, ev_neg, ev_cmp, ev_chn, ev_not, ev_and, ev_or, evAnd_one, evAnd_two, evOr_one, evOr_two, ev_ife, ev_ix, ev_slc, ev_bi, ev_mt, ev_call, ev_comp, ev_cmc, ev_attr, ev_isi, ev_isx, ev_xat, evs_cons, evs_nil, evIt_seq, evIt_rng, evIt_enum, evIt_zip, evIt_rvs, evIt_rvr, evAll_nil, evAll_one, E.isNon, ofI, bnd_ok, bnd_exc, stm_ok, stm_exc, seq_nx, seq_ret, seq_exc, seq_brk, seq_cnt, fin_nx, fin_ret, fin_exc, fin_d, asg_v, asg_t, asgs_cons, asgs_nil, parts_d, parts_t, List.getElem?_cons_zero, List.getElem?_cons_succ, List.set_cons_succ, List.set_cons_zero, ifT_bl, okB_eq, ofB_some, id, mkTup1, mkTup2, mkTup3, mkLst_f0, mkLst_f1, mkLst_t0, items_lst, items_tup, itemL_lst, bi_len, bi_list, bi_tuple, bi_min, bi_max, bi_abs, bi_int, bi_sum, bi_all, bi_any, len_lst, len_tup, bin_add, bin_sub, bin_mul, bin_mod, bin_adds, neg_int', cmp_lt, cmp_le, cmp_gt, cmp_ge, cmp_eqI, cmp_neI, cmp_eqS, cmp_neS, cmp_eqB, cmp_neB, cmp_isB, cmp_isnotB, decide_true, decide_false, Bool.not_true, Bool.not_false, Bool.not_not, if_true, if_false, Bool.false_eq_true, Mt.on, mtS, trunc_self, clrs, tgv, tgvs, hi, ix_0, decide_eq_true hc, s1, s2, ad]
    · rw [decide_eq_false hc]
      rw [forL_nx (σ' := [some (.d (.lst (psD ps))), some (.d (.str z)), some (.d (.int j))]) (S' := S) ?_]
      · exact e
      · unfold forR wBody b_without_last
        simp -implicitDefEqProofs only [List.map_cons, List.map_nil, List.replicate, Nat.reduceSub, List.cons_append, List.nil_append, List.append_nil, exs_cons, exs_nil, ex_set, ex_setA, ex_setI, ex_ife, ex_expr, ex_ret, ex_retN, ex_brk, ex_cnt, ex_pass, ex_for, ex_rai, ex_par, ex_try, exh_cons, exh_nil, tr_nx, tr_exc, tr_ret, xIn_some, xIn_none, xDel_some, xDel_none, xOut_nx, xOut_ret, ev_var, ev_con, ev_glo, ev_tup, ev_lst, ev_bin, ev_neg, ev_cmp, ev_chn, ev_not, ev_and, ev_or, evAnd_one, evAnd_two, evOr_one, evOr_two, ev_ife, ev_ix, ev_slc, ev_bi, ev_mt, ev_call, ev_comp, ev_cmc, ev_attr, ev_isi, ev_isx, ev_xat, evs_cons, evs_nil, evIt_seq, evIt_rng, evIt_enum, evIt_zip, evIt_rvs, evIt_rvr, evAll_nil, evAll_one, E.isNon, ofI, bnd_ok, bnd_exc, stm_ok, stm_exc, seq_nx, seq_ret, seq_exc, seq_brk, seq_cnt, fin_nx, fin_ret, fin_exc, fin_d, asg_v, asg_t, asgs_cons, asgs_nil, parts_d, parts_t, List.getElem?_cons_zero, List.getElem?_cons_succ, List.set_cons_succ, List.set_cons_zero, ifT_bl, okB_eq, ofB_some, id, mkTup1, mkTup2, mkTup3, mkLst_f0, mkLst_f1, mkLst_t0, items_lst, items_tup, itemL_lst, bi_len, bi_list, bi_tuple, bi_min, bi_max, bi_abs, bi_int, bi_sum, bi_all, bi_any, len_lst, len_tup, bin_add, bin_sub, bin_mul, bin_mod, bin_adds, neg_int', cmp_lt, cmp_le, cmp_gt, cmp_ge, cmp_eqI, cmp_neI, cmp_eqS, cmp_neS, cmp_eqB, cmp_neB, cmp_isB, cmp_isnotB, decide_true, decide_false, Bool.not_true, Bool.not_false, Bool.not_not, if_true, if_false, Bool.false_eq_true, Mt.on, mtS, trunc_self, clrs, tgv, tgvs, hi, ix_0, decide_eq_false hc]
theorem without_last (z : Str) (ps : List (Str × Int)) (hp : ps.length ≤ 1000) (S : Store) : m_without_last [.d (.lst (psD ps)), .d (.str z)] S = match lastF z ps with
    | some j => .ok (.d (.lst (psD (ps.take j ++ ps.drop (j + 1))))) S
    | none => .exc 45 [] S := by
  obtain ⟨a', e⟩ := wl_loop S.loc.length z ps hp S (List.range ps.length).reverse none (fun j hj => by simpa using hj)
  have lpi : ((psD ps).length : Int) = (ps.length : Int) := by rw [psD_len]
  have hr := rng_nat ps.length (by omega)
  unfold wBody b_without_last at e
  dsimp only at e
  rw [List.map_reverse] at e
  unfold m_without_last
  rw [mkFn_eq (by rfl)]
  simp -implicitDefEqProofs only [List.map_cons, List.map_nil, List.replicate, Nat.reduceSub, List.cons_append, List.nil_append, List.append_nil, exs_cons, exs_nil, ex_set, ex_setA, ex_setI, ex_ife, ex_expr, ex_ret, ex_retN, ex_brk, ex_cnt, ex_pass, ex_for, ex_rai, ex_par, ex_try, exh_cons, exh_nil, tr_nx, tr_exc, tr_ret, xIn_some, xIn_none, xDel_some, xDel_none, xOut_nx, xOut_ret, ev_var, ev_con, ev_glo, ev_tup, ev_lst, ev_bin, ev_neg, ev_cmp, ev_chn, ev_not, ev_and, ev_or, evAnd_one, evAnd_two, evOr_one, evOr_two, ev_ife, ev_ix, ev_slc, ev_bi, ev_mt, ev_call, ev_comp, ev_cmc, ev_attr, ev_isi, ev_isx, ev_xat, evs_cons, evs_nil, evIt_seq, evIt_rng, evIt_enum, evIt_zip, evIt_rvs, evIt_rvr, evAll_nil, evAll_one, E.isNon, ofI, bnd_ok, bnd_exc, stm_ok, stm_exc, seq_nx, seq_ret, seq_exc, seq_brk, seq_cnt, fin_nx, fin_ret, fin_exc, fin_d, asg_v, asg_t, asgs_cons, asgs_nil, parts_d, parts_t, List.getElem?_cons_zero, List.getElem?_cons_succ, List.set_cons_succ, List.set_cons_zero, ifT_bl, okB_eq, ofB_some, id, mkTup1, mkTup2, mkTup3, mkLst_f0, mkLst_f1, mkLst_t0, items_lst, items_tup, itemL_lst, bi_len, bi_list, bi_tuple, bi_min, bi_max, bi_abs, bi_int, bi_sum, bi_all, bi_any, len_lst, len_tup, bin_add, bin_sub, bin_mul, bin_mod, bin_adds, neg_int', cmp_lt, cmp_le, cmp_gt, cmp_ge, cmp_eqI, cmp_neI, cmp_eqS, cmp_neS, cmp_eqB, cmp_neB, cmp_isB, cmp_isnotB, decide_true, decide_false, Bool.not_true, Bool.not_false, Bool.not_not, if_true, if_false, Bool.false_eq_true, Mt.on, mtS, trunc_self, clrs, tgv, tgvs, b_without_last, lpi, hr, rngL_map, e]
  unfold lastF
  cases ((List.range ps.length).reverse.find? fun j => decide ((ps.getD j ("", 0)).1 = z)) with
  | some j => simp -implicitDefEqProofs only [List.map_cons, List.map_nil, List.replicate, Nat.reduceSub, List.cons_append, List.nil_append, List.append_nil, exs_cons, exs_nil, ex_set, ex_setA, ex_setI, ex_ife, ex_expr, ex_ret, ex_retN, ex_brk, ex_cnt, ex_pass, ex_for, ex_rai, ex_par, ex_try, exh_cons, exh_nil, tr_nx, tr_exc, tr_ret, xIn_some, xIn_none, xDel_some, xDel_none, xOut_nx, xOut_ret, ev_var, ev_con, ev_glo, ev_tup, ev_lst, ev_bin, ev_neg, ev_cmp, ev_chn, ev_not, ev_and, ev_or, evAnd_one, evAnd_two, evOr_one, evOr_two, ev_ife, ev_ix, ev_slc, ev_bi, ev_mt, ev_call, ev_comp, ev_cmc, ev_attr, ev_isi, ev_isx, ev_xat, evs_cons, evs_nil, evIt_seq, evIt_rng, evIt_enum, evIt_zip, evIt_rvs, evIt_rvr, evAll_nil, evAll_one, E.isNon, ofI, bnd_ok, bnd_exc, stm_ok, stm_exc, seq_nx, seq_ret, seq_exc, seq_brk, seq_cnt, fin_nx, fin_ret, fin_exc, fin_d, asg_v, asg_t, asgs_cons, asgs_nil, parts_d, parts_t, List.getElem?_cons_zero, List.getElem?_cons_succ, List.set_cons_succ, List.set_cons_zero, ifT_bl, okB_eq, ofB_some, id, mkTup1, mkTup2, mkTup3, mkLst_f0, mkLst_f1, mkLst_t0, items_lst, items_tup, itemL_lst, bi_len, bi_list, bi_tuple, bi_min, bi_max, bi_abs, bi_int, bi_sum, bi_all, bi_any, len_lst, len_tup, bin_add, bin_sub, bin_mul, bin_mod, bin_adds, neg_int', cmp_lt, cmp_le, cmp_gt, cmp_ge, cmp_eqI, cmp_neI, cmp_eqS, cmp_neS, cmp_eqB, cmp_neB, cmp_isB, cmp_isnotB, decide_true, decide_false, Bool.not_true, Bool.not_false, Bool.not_not, if_true, if_false, Bool.false_eq_true, Mt.on, mtS, trunc_self, clrs, tgv, tgvs]
  | none => simp -implicitDefEqProofs only [List.map_cons, List.map_nil, List.replicate, Nat.reduceSub, List.cons_append, List.nil_append, List.append_nil, exs_cons, exs_nil, ex_set, ex_setA, ex_setI, ex_ife, ex_expr, ex_ret, ex_retN, ex_brk, ex_cnt, ex_pass, ex_for, ex_rai, ex_par, ex_try, exh_cons, exh_nil, tr_nx, tr_exc, tr_ret, xIn_some, xIn_none, xDel_some, xDel_none, xOut_nx, xOut_ret, ev_var, ev_con, ev_glo, ev_tup, ev_lst, ev_bin, ev_neg, ev_cmp, ev_chn, ev_not, ev_and, ev_or, evAnd_one, evAnd_two, evOr_one, evOr_two, ev_ife, ev_ix, ev_slc, ev_bi, ev_mt, ev_call, ev_comp, ev_cmc, ev_attr, ev_isi, ev_isx, ev_xat, evs_cons, evs_nil, evIt_seq, evIt_rng, evIt_enum, evIt_zip, evIt_rvs, evIt_rvr, evAll_nil, evAll_one, E.isNon, ofI, bnd_ok, bnd_exc, stm_ok, stm_exc, seq_nx, seq_ret, seq_exc, seq_brk, seq_cnt, fin_nx, fin_ret, fin_exc, fin_d, asg_v, asg_t, asgs_cons, asgs_nil, parts_d, parts_t, List.getElem?_cons_zero, List.getElem?_cons_succ, List.set_cons_succ, List.set_cons_zero, ifT_bl, okB_eq, ofB_some, id, mkTup1, mkTup2, mkTup3, mkLst_f0, mkLst_f1, mkLst_t0, items_lst, items_tup, itemL_lst, bi_len, bi_list, bi_tuple, bi_min, bi_max, bi_abs, bi_int, bi_sum, bi_all, bi_any, len_lst, len_tup, bin_add, bin_sub, bin_mul, bin_mod, bin_adds, neg_int', cmp_lt, cmp_le, cmp_gt, cmp_ge, cmp_eqI, cmp_neI, cmp_eqS, cmp_neS, cmp_eqB, cmp_neB, cmp_isB, cmp_isnotB, decide_true, decide_false, Bool.not_true, Bool.not_false, Bool.not_not, if_true, if_false, Bool.false_eq_true, Mt.on, mtS, trunc_self, clrs, tgv, tgvs, show unDs [] = some [] from rfl]
theorem changed (its : List Itm) (ch : Ch) (hx : (thingsOf its).length ≤ 1000) (hp : (pairsOf its).length ≤ 1000) (S : Store) : m_changed [.d (callD its), .d ch.d] S = match behF (thingsOf its) (pairsOf its) ch with
    | some (xs, ps) => .ok (.cell S.loc.length) (S.push (.lst ((plainI xs ps).map Itm.d)))
    | none => .exc 45 [] S := by
  have la : ∀ S, m_laid [.d (callD its)] S = .ok (.d (layD (thingsOf its) (pairsOf its))) S := fun S => MnL.laid_ok its (by omega) (by omega) S
  generalize thingsOf its = xs at la hx ⊢
  generalize pairsOf its = ps at la hp ⊢
  unfold layD at la
  have fc : ∀ L, fin S.loc.length (.cell S.loc.length) (S.push (.lst L)) = .ok (.cell S.loc.length) (S.push (.lst L)) := fun L => by
    unfold fin
    simp only [Nat.lt_irrefl, if_false, push_get, push_trunc]
  have co : ∀ (xs : List Int) (ps : List (Str × Int)), xs.length ≤ 2000 → ps.length ≤ 2000 → ∀ S, m_call_of [.d (.lst (thD xs)), .d (.lst (psD ps))] S = .ok (.cell S.loc.length) (S.push (.lst ((plainI xs ps).map Itm.d))) := fun xs ps h1 h2 S => MnL.call_of_c xs ps (by omega) (by omega) S
  have lx := thD_len xs
  have lp := psD_len ps
  unfold m_changed
  rw [mkFn_eq (by rfl)]
  cases ch with
  | more =>
    have ad := add_lst (a := thD xs) (b := [.int 0]) (S := S) (by show _ + 1 ≤ _; omega)
    rw [show thD xs ++ [D.int 0] = thD (xs ++ [0]) by rw [thD_app]; rfl] at ad
    have co := co (xs ++ [0]) ps (by simp; omega) (by omega)
    simp -implicitDefEqProofs only [List.map_cons, List.map_nil, List.replicate, Nat.reduceSub, List.cons_append, List.nil_append, List.append_nil, exs_cons, exs_nil, ex_set, ex_setA, ex_setI, ex_ife, ex_expr, ex_ret, ex_retN, ex_brk, ex_cnt, ex_pass, ex_for, ex_rai, ex_par, ex_try, exh_cons, exh_nil, tr_nx, tr_exc, tr_ret, xIn_some, xIn_none, xDel_some, xDel_none, xOut_nx, xOut_ret, ev_var, ev_con, ev_glo, ev_tup, ev_lst, ev_bin, ev_neg, ev_cmp, ev_chn, ev_not, ev_and, ev_or, evAnd_one, evAnd_two, evOr_one, evOr_two, ev_ife, ev_ix, ev_slc, ev_bi, ev_mt, ev_call, ev_comp, ev_cmc, ev_attr, ev_isi, ev_isx, ev_xat, evs_cons, evs_nil, evIt_seq, evIt_rng, evIt_enum, evIt_zip, evIt_rvs, evIt_rvr, evAll_nil, evAll_one, E.isNon, ofI, bnd_ok, bnd_exc, stm_ok, stm_exc, seq_nx, seq_ret, seq_exc, seq_brk, seq_cnt, fin_nx, fin_ret, fin_exc, fin_d, asg_v, asg_t, asgs_cons, asgs_nil, parts_d, parts_t, List.getElem?_cons_zero, List.getElem?_cons_succ, List.set_cons_succ, List.set_cons_zero, ifT_bl, okB_eq, ofB_some, id, mkTup1, mkTup2, mkTup3, mkLst_f0, mkLst_f1, mkLst_t0, items_lst, items_tup, itemL_lst, bi_len, bi_list, bi_tuple, bi_min, bi_max, bi_abs, bi_int, bi_sum, bi_all, bi_any, len_lst, len_tup, bin_add, bin_sub, bin_mul, bin_mod, bin_adds, neg_int', cmp_lt, cmp_le, cmp_gt, cmp_ge, cmp_eqI, cmp_neI, cmp_eqS, cmp_neS, cmp_eqB, cmp_neB, cmp_isB, cmp_isnotB, decide_true, decide_false, Bool.not_true, Bool.not_false, Bool.not_not, if_true, if_false, Bool.false_eq_true, Mt.on, mtS, trunc_self, clrs, tgv, tgvs, b_changed, Ch.d, ix_0, cc_changed_0, cc_changed_2, la, n_more_less, ad, co, fc, behF]
  | inn z =>
    have ad := add_lst (a := psD ps) (b := [.tup [.str z, .int 0]]) (S := S) (by show _ + 1 ≤ _; omega)
    rw [show psD ps ++ [D.tup [.str z, .int 0]] = psD (ps ++ [(z, 0)]) by rw [psD_app]; rfl] at ad
    have co := co xs (ps ++ [(z, 0)]) (by omega) (by simp; omega)
    simp -implicitDefEqProofs only [List.map_cons, List.map_nil, List.replicate, Nat.reduceSub, List.cons_append, List.nil_append, List.append_nil, exs_cons, exs_nil, ex_set, ex_setA, ex_setI, ex_ife, ex_expr, ex_ret, ex_retN, ex_brk, ex_cnt, ex_pass, ex_for, ex_rai, ex_par, ex_try, exh_cons, exh_nil, tr_nx, tr_exc, tr_ret, xIn_some, xIn_none, xDel_some, xDel_none, xOut_nx, xOut_ret, ev_var, ev_con, ev_glo, ev_tup, ev_lst, ev_bin, ev_neg, ev_cmp, ev_chn, ev_not, ev_and, ev_or, evAnd_one, evAnd_two, evOr_one, evOr_two, ev_ife, ev_ix, ev_slc, ev_bi, ev_mt, ev_call, ev_comp, ev_cmc, ev_attr, ev_isi, ev_isx, ev_xat, evs_cons, evs_nil, evIt_seq, evIt_rng, evIt_enum, evIt_zip, evIt_rvs, evIt_rvr, evAll_nil, evAll_one, E.isNon, ofI, bnd_ok, bnd_exc, stm_ok, stm_exc, seq_nx, seq_ret, seq_exc, seq_brk, seq_cnt, fin_nx, fin_ret, fin_exc, fin_d, asg_v, asg_t, asgs_cons, asgs_nil, parts_d, parts_t, List.getElem?_cons_zero, List.getElem?_cons_succ, List.set_cons_succ, List.set_cons_zero, ifT_bl, okB_eq, ofB_some, id, mkTup1, mkTup2, mkTup3, mkLst_f0, mkLst_f1, mkLst_t0, items_lst, items_tup, itemL_lst, bi_len, bi_list, bi_tuple, bi_min, bi_max, bi_abs, bi_int, bi_sum, bi_all, bi_any, len_lst, len_tup, bin_add, bin_sub, bin_mul, bin_mod, bin_adds, neg_int', cmp_lt, cmp_le, cmp_gt, cmp_ge, cmp_eqI, cmp_neI, cmp_eqS, cmp_neS, cmp_eqB, cmp_neB, cmp_isB, cmp_isnotB, decide_true, decide_false, Bool.not_true, Bool.not_false, Bool.not_not, if_true, if_false, Bool.false_eq_true, Mt.on, mtS, trunc_self, clrs, tgv, tgvs, b_changed, Ch.d, ix_0, ix_1, cc_changed_0, cc_changed_2, la, n_in_less, n_in_more, n_in_out, ad, co, fc, behF]
  | less =>
    have ne := nil_eq (fun _ _ => true) (thD xs) (thD_ly 11 xs) S
    have sl := slc_less (thD xs) (by omega) S
    have em : (thD xs).isEmpty = xs.isEmpty := by cases xs <;> rfl
    rw [lx, show (thD xs).take (xs.length - 1) = thD (xs.take (xs.length - 1)) by unfold thD; rw [List.map_take]] at sl
    have co := co (xs.take (xs.length - 1)) ps (by rw [List.length_take]; omega) (by omega)
    simp -implicitDefEqProofs only [List.map_cons, List.map_nil, List.replicate, Nat.reduceSub, List.cons_append, List.nil_append, List.append_nil, exs_cons, exs_nil, ex_set, ex_setA, ex_setI, ex_ife, ex_expr, ex_ret, ex_retN, ex_brk, ex_cnt, ex_pass, ex_for, ex_rai, ex_par, ex_try, exh_cons, exh_nil, tr_nx, tr_exc, tr_ret, xIn_some, xIn_none, xDel_some, xDel_none, xOut_nx, xOut_ret, ev_var, ev_con, ev_glo, ev_tup, ev_lst, ev_bin, ev_neg, ev_cmp, ev_chn, ev_not, ev_and, ev_or, evAnd_one, evAnd_two, evOr_one, evOr_two, ev_ife, ev_ix, ev_slc, ev_bi, ev_mt, ev_call, ev_comp, ev_cmc, ev_attr, ev_isi, ev_isx, ev_xat, evs_cons, evs_nil, evIt_seq, evIt_rng, evIt_enum, evIt_zip, evIt_rvs, evIt_rvr, evAll_nil, evAll_one, E.isNon, ofI, bnd_ok, bnd_exc, stm_ok, stm_exc, seq_nx, seq_ret, seq_exc, seq_brk, seq_cnt, fin_nx, fin_ret, fin_exc, fin_d, asg_v, asg_t, asgs_cons, asgs_nil, parts_d, parts_t, List.getElem?_cons_zero, List.getElem?_cons_succ, List.set_cons_succ, List.set_cons_zero, ifT_bl, okB_eq, ofB_some, id, mkTup1, mkTup2, mkTup3, mkLst_f0, mkLst_f1, mkLst_t0, items_lst, items_tup, itemL_lst, bi_len, bi_list, bi_tuple, bi_min, bi_max, bi_abs, bi_int, bi_sum, bi_all, bi_any, len_lst, len_tup, bin_add, bin_sub, bin_mul, bin_mod, bin_adds, neg_int', cmp_lt, cmp_le, cmp_gt, cmp_ge, cmp_eqI, cmp_neI, cmp_eqS, cmp_neS, cmp_eqB, cmp_neB, cmp_isB, cmp_isnotB, decide_true, decide_false, Bool.not_true, Bool.not_false, Bool.not_not, if_true, if_false, Bool.false_eq_true, Mt.on, mtS, trunc_self, clrs, tgv, tgvs, b_changed, Ch.d, ix_0, cc_changed_0, cc_changed_2, la, ne, em, behF]
    cases hxs : xs.isEmpty with
    | true => simp -implicitDefEqProofs only [List.map_cons, List.map_nil, List.replicate, Nat.reduceSub, List.cons_append, List.nil_append, List.append_nil, exs_cons, exs_nil, ex_set, ex_setA, ex_setI, ex_ife, ex_expr, ex_ret, ex_retN, ex_brk, ex_cnt, ex_pass, ex_for, ex_rai, ex_par, ex_try, exh_cons, exh_nil, tr_nx, tr_exc, tr_ret, xIn_some, xIn_none, xDel_some, xDel_none, xOut_nx, xOut_ret, ev_var, ev_con, ev_glo, ev_tup, ev_lst, ev_bin, ev_neg, ev_cmp, ev_chn, ev_not, ev_and, ev_or, evAnd_one, evAnd_two, evOr_one, evOr_two, ev_ife, ev_ix, ev_slc, ev_bi, ev_mt, ev_call, ev_comp, ev_cmc, ev_attr, ev_isi, ev_isx, ev_xat, evs_cons, evs_nil, evIt_seq, evIt_rng, evIt_enum, evIt_zip, evIt_rvs, evIt_rvr, evAll_nil, evAll_one, E.isNon, ofI, bnd_ok, bnd_exc, stm_ok, stm_exc, seq_nx, seq_ret, seq_exc, seq_brk, seq_cnt, fin_nx, fin_ret, fin_exc, fin_d, asg_v, asg_t, asgs_cons, asgs_nil, parts_d, parts_t, List.getElem?_cons_zero, List.getElem?_cons_succ, List.set_cons_succ, List.set_cons_zero, ifT_bl, okB_eq, ofB_some, id, mkTup1, mkTup2, mkTup3, mkLst_f0, mkLst_f1, mkLst_t0, items_lst, items_tup, itemL_lst, bi_len, bi_list, bi_tuple, bi_min, bi_max, bi_abs, bi_int, bi_sum, bi_all, bi_any, len_lst, len_tup, bin_add, bin_sub, bin_mul, bin_mod, bin_adds, neg_int', cmp_lt, cmp_le, cmp_gt, cmp_ge, cmp_eqI, cmp_neI, cmp_eqS, cmp_neS, cmp_eqB, cmp_neB, cmp_isB, cmp_isnotB, decide_true, decide_false, Bool.not_true, Bool.not_false, Bool.not_not, if_true, if_false, Bool.false_eq_true, Mt.on, mtS, trunc_self, clrs, tgv, tgvs, show unDs [] = some [] from rfl]
    | false => simp -implicitDefEqProofs only [List.map_cons, List.map_nil, List.replicate, Nat.reduceSub, List.cons_append, List.nil_append, List.append_nil, exs_cons, exs_nil, ex_set, ex_setA, ex_setI, ex_ife, ex_expr, ex_ret, ex_retN, ex_brk, ex_cnt, ex_pass, ex_for, ex_rai, ex_par, ex_try, exh_cons, exh_nil, tr_nx, tr_exc, tr_ret, xIn_some, xIn_none, xDel_some, xDel_none, xOut_nx, xOut_ret, ev_var, ev_con, ev_glo, ev_tup, ev_lst, ev_bin, ev_neg, ev_cmp, ev_chn, ev_not, ev_and, ev_or, evAnd_one, evAnd_two, evOr_one, evOr_two, ev_ife, ev_ix, ev_slc, ev_bi, ev_mt, ev_call, ev_comp, ev_cmc, ev_attr, ev_isi, ev_isx, ev_xat, evs_cons, evs_nil, evIt_seq, evIt_rng, evIt_enum, evIt_zip, evIt_rvs, evIt_rvr, evAll_nil, evAll_one, E.isNon, ofI, bnd_ok, bnd_exc, stm_ok, stm_exc, seq_nx, seq_ret, seq_exc, seq_brk, seq_cnt, fin_nx, fin_ret, fin_exc, fin_d, asg_v, asg_t, asgs_cons, asgs_nil, parts_d, parts_t, List.getElem?_cons_zero, List.getElem?_cons_succ, List.set_cons_succ, List.set_cons_zero, ifT_bl, okB_eq, ofB_some, id, mkTup1, mkTup2, mkTup3, mkLst_f0, mkLst_f1, mkLst_t0, items_lst, items_tup, itemL_lst, bi_len, bi_list, bi_tuple, bi_min, bi_max, bi_abs, bi_int, bi_sum, bi_all, bi_any, len_lst, len_tup, bin_add, bin_sub, bin_mul, bin_mod, bin_adds, neg_int', cmp_lt, cmp_le, cmp_gt, cmp_ge, cmp_eqI, cmp_neI, cmp_eqS, cmp_neS, cmp_eqB, cmp_neB, cmp_isB, cmp_isnotB, decide_true, decide_false, Bool.not_true, Bool.not_false, Bool.not_not, if_true, if_false, Bool.false_eq_true, Mt.on, mtS, trunc_self, clrs, tgv, tgvs, sl, cc_changed_2, co, fc]
  | out z =>
    have wl := without_last z ps (by omega)
    simp -implicitDefEqProofs only [List.map_cons, List.map_nil, List.replicate, Nat.reduceSub, List.cons_append, List.nil_append, List.append_nil, exs_cons, exs_nil, ex_set, ex_setA, ex_setI, ex_ife, ex_expr, ex_ret, ex_retN, ex_brk, ex_cnt, ex_pass, ex_for, ex_rai, ex_par, ex_try, exh_cons, exh_nil, tr_nx, tr_exc, tr_ret, xIn_some, xIn_none, xDel_some, xDel_none, xOut_nx, xOut_ret, ev_var, ev_con, ev_glo, ev_tup, ev_lst, ev_bin, ev_neg, ev_cmp, ev_chn, ev_not, ev_and, ev_or, evAnd_one, evAnd_two, evOr_one, evOr_two, ev_ife, ev_ix, ev_slc, ev_bi, ev_mt, ev_call, ev_comp, ev_cmc, ev_attr, ev_isi, ev_isx, ev_xat, evs_cons, evs_nil, evIt_seq, evIt_rng, evIt_enum, evIt_zip, evIt_rvs, evIt_rvr, evAll_nil, evAll_one, E.isNon, ofI, bnd_ok, bnd_exc, stm_ok, stm_exc, seq_nx, seq_ret, seq_exc, seq_brk, seq_cnt, fin_nx, fin_ret, fin_exc, fin_d, asg_v, asg_t, asgs_cons, asgs_nil, parts_d, parts_t, List.getElem?_cons_zero, List.getElem?_cons_succ, List.set_cons_succ, List.set_cons_zero, ifT_bl, okB_eq, ofB_some, id, mkTup1, mkTup2, mkTup3, mkLst_f0, mkLst_f1, mkLst_t0, items_lst, items_tup, itemL_lst, bi_len, bi_list, bi_tuple, bi_min, bi_max, bi_abs, bi_int, bi_sum, bi_all, bi_any, len_lst, len_tup, bin_add, bin_sub, bin_mul, bin_mod, bin_adds, neg_int', cmp_lt, cmp_le, cmp_gt, cmp_ge, cmp_eqI, cmp_neI, cmp_eqS, cmp_neS, cmp_eqB, cmp_neB, cmp_isB, cmp_isnotB, decide_true, decide_false, Bool.not_true, Bool.not_false, Bool.not_not, if_true, if_false, Bool.false_eq_true, Mt.on, mtS, trunc_self, clrs, tgv, tgvs, b_changed, Ch.d, ix_0, ix_1, cc_changed_0, cc_changed_1, cc_changed_2, la, n_out_less, n_out_more, wl, behF]
    cases hj : lastF z ps with
    | none => simp -implicitDefEqProofs only [List.map_cons, List.map_nil, List.replicate, Nat.reduceSub, List.cons_append, List.nil_append, List.append_nil, exs_cons, exs_nil, ex_set, ex_setA, ex_setI, ex_ife, ex_expr, ex_ret, ex_retN, ex_brk, ex_cnt, ex_pass, ex_for, ex_rai, ex_par, ex_try, exh_cons, exh_nil, tr_nx, tr_exc, tr_ret, xIn_some, xIn_none, xDel_some, xDel_none, xOut_nx, xOut_ret, ev_var, ev_con, ev_glo, ev_tup, ev_lst, ev_bin, ev_neg, ev_cmp, ev_chn, ev_not, ev_and, ev_or, evAnd_one, evAnd_two, evOr_one, evOr_two, ev_ife, ev_ix, ev_slc, ev_bi, ev_mt, ev_call, ev_comp, ev_cmc, ev_attr, ev_isi, ev_isx, ev_xat, evs_cons, evs_nil, evIt_seq, evIt_rng, evIt_enum, evIt_zip, evIt_rvs, evIt_rvr, evAll_nil, evAll_one, E.isNon, ofI, bnd_ok, bnd_exc, stm_ok, stm_exc, seq_nx, seq_ret, seq_exc, seq_brk, seq_cnt, fin_nx, fin_ret, fin_exc, fin_d, asg_v, asg_t, asgs_cons, asgs_nil, parts_d, parts_t, List.getElem?_cons_zero, List.getElem?_cons_succ, List.set_cons_succ, List.set_cons_zero, ifT_bl, okB_eq, ofB_some, id, mkTup1, mkTup2, mkTup3, mkLst_f0, mkLst_f1, mkLst_t0, items_lst, items_tup, itemL_lst, bi_len, bi_list, bi_tuple, bi_min, bi_max, bi_abs, bi_int, bi_sum, bi_all, bi_any, len_lst, len_tup, bin_add, bin_sub, bin_mul, bin_mod, bin_adds, neg_int', cmp_lt, cmp_le, cmp_gt, cmp_ge, cmp_eqI, cmp_neI, cmp_eqS, cmp_neS, cmp_eqB, cmp_neB, cmp_isB, cmp_isnotB, decide_true, decide_false, Bool.not_true, Bool.not_false, Bool.not_not, if_true, if_false, Bool.false_eq_true, Mt.on, mtS, trunc_self, clrs, tgv, tgvs]
    | some j =>
      have h1 := last_lt hj
      have co := co xs (ps.take j ++ ps.drop (j + 1)) (by omega) (by rw [List.length_append, List.length_take, List.length_drop]; omega)
      simp -implicitDefEqProofs only [List.map_cons, List.map_nil, List.replicate, Nat.reduceSub, List.cons_append, List.nil_append, List.append_nil, exs_cons, exs_nil, ex_set, ex_setA, ex_setI, ex_ife, ex_expr, ex_ret, ex_retN, ex_brk, ex_cnt, ex_pass, ex_for, ex_rai, ex_par, ex_try, exh_cons, exh_nil, tr_nx, tr_exc, tr_ret, xIn_some, xIn_none, xDel_some, xDel_none, xOut_nx, xOut_ret, ev_var, ev_con, ev_glo, ev_tup, ev_lst, ev_bin, ev_neg, ev_cmp, ev_chn, ev_not, ev_and, ev_or, evAnd_one, evAnd_two, evOr_one, evOr_two, ev_ife, ev_ix, ev_slc, ev_bi, ev_mt, ev_call, ev_comp, ev_cmc, ev_attr, ev_isi, ev_isx, ev_xat, evs_cons, evs_nil, evIt_seq, evIt_rng, evIt_enum, evIt_zip, evIt_rvs, evIt_rvr, evAll_nil, evAll_one, E.isNon, ofI, bnd_ok, bnd_exc, stm_ok, stm_exc, seq_nx, seq_ret, seq_exc, seq_brk, seq_cnt, fin_nx, fin_ret, fin_exc, fin_d, asg_v, asg_t, asgs_cons, asgs_nil, parts_d, parts_t, List.getElem?_cons_zero, List.getElem?_cons_succ, List.set_cons_succ, List.set_cons_zero, ifT_bl, okB_eq, ofB_some, id, mkTup1, mkTup2, mkTup3, mkLst_f0, mkLst_f1, mkLst_t0, items_lst, items_tup, itemL_lst, bi_len, bi_list, bi_tuple, bi_min, bi_max, bi_abs, bi_int, bi_sum, bi_all, bi_any, len_lst, len_tup, bin_add, bin_sub, bin_mul, bin_mod, bin_adds, neg_int', cmp_lt, cmp_le, cmp_gt, cmp_ge, cmp_eqI, cmp_neI, cmp_eqS, cmp_neS, cmp_eqB, cmp_neB, cmp_isB, cmp_isnotB, decide_true, decide_false, Bool.not_true, Bool.not_false, Bool.not_not, if_true, if_false, Bool.false_eq_true, Mt.on, mtS, trunc_self, clrs, tgv, tgvs, co, fc, cc_changed_2]
/-! ### what is asked -/
theorem other (S : Store) : m__law_other [.exc 45 []] S = .ok (.d (.bl false)) S := by
  unfold m__law_other
  rw [mkFn_eq (by rfl)]
  have h1 : ([Ty.cls 54, .cls 43, .cls 53, .cls 51, .cls 56, .cls 50, .cls 46, .cls 41, .cls 48, .cls 47, .cls 52].any fun z => Ty.is (.cls 45) z) = false := by decide
  have h2 : ([Ty.cls 55, .cls 42, .cls 44, .cls 49].any fun z => Ty.is (.cls 45) z) = false := by decide
  have h3 : ([Ty.ve].any fun z => Ty.is (.cls 45) z) = true := by decide
  simp -implicitDefEqProofs only [List.map_cons, List.map_nil, List.replicate, Nat.reduceSub, List.cons_append, List.nil_append, List.append_nil, exs_cons, exs_nil, ex_set, ex_setA, ex_setI, ex_ife, ex_expr, ex_ret, ex_retN, ex_brk, ex_cnt, ex_pass, ex_for, ex_rai, ex_par, ex_try, exh_cons, exh_nil, tr_nx, tr_exc, tr_ret, xIn_some, xIn_none, xDel_some, xDel_none, xOut_nx, xOut_ret, ev_var, ev_con, ev_glo, ev_tup, ev_lst, ev_bin, ev_neg, ev_cmp, ev_chn, ev_not, ev_and, ev_or, evAnd_one, evAnd_two, evOr_one, evOr_two, ev_ife, ev_ix, ev_slc, ev_bi, ev_mt, ev_call, ev_comp, ev_cmc, ev_attr, ev_isi, ev_isx, ev_xat, evs_cons, evs_nil, evIt_seq, evIt_rng, evIt_enum, evIt_zip, evIt_rvs, evIt_rvr, evAll_nil, evAll_one, E.isNon, ofI, bnd_ok, bnd_exc, stm_ok, stm_exc, seq_nx, seq_ret, seq_exc, seq_brk, seq_cnt, fin_nx, fin_ret, fin_exc, fin_d, asg_v, asg_t, asgs_cons, asgs_nil, parts_d, parts_t, List.getElem?_cons_zero, List.getElem?_cons_succ, List.set_cons_succ, List.set_cons_zero, ifT_bl, okB_eq, ofB_some, id, mkTup1, mkTup2, mkTup3, mkLst_f0, mkLst_f1, mkLst_t0, items_lst, items_tup, itemL_lst, bi_len, bi_list, bi_tuple, bi_min, bi_max, bi_abs, bi_int, bi_sum, bi_all, bi_any, len_lst, len_tup, bin_add, bin_sub, bin_mul, bin_mod, bin_adds, neg_int', cmp_lt, cmp_le, cmp_gt, cmp_ge, cmp_eqI, cmp_neI, cmp_eqS, cmp_neS, cmp_eqB, cmp_neB, cmp_isB, cmp_isnotB, decide_true, decide_false, Bool.not_true, Bool.not_false, Bool.not_not, if_true, if_false, Bool.false_eq_true, Mt.on, mtS, trunc_self, clrs, tgv, tgvs, b__law_other, h1, h2, h3]
def askD (S : Store) (o : Option (List Int × List (Str × Int))) : D := match o with
  | some _ => .tup [.str "told", .gref S.glb.length]
  | none => .tup [.str "refused", .bl true]
def askS (S : Store) (o : Option (List Int × List (Str × Int))) : Store := match o with
  | some (xs, ps) => S.pushG (.lst ((plainI xs ps).map Itm.d))
  | none => S
theorem pushG_trunc {S : Store} {c : Cell} : (S.pushG c).trunc S.loc.length = S.pushG c := by
  simp [Store.pushG, Store.trunc]
theorem grf_l {S : Store} {xs : List D} : grfS S.loc.length (.cell S.loc.length) (S.push (.lst xs)) = .ok (.d (.gref S.glb.length)) (S.pushG (.lst xs)) := by
  unfold grfS
  dsimp only
  rw [if_pos ⟨Nat.le_refl _, push_len.symm⟩, push_get, push_trunc]
  rfl
theorem frz_l {S : Store} {xs : List D} : frzS S.loc.length (.cell S.loc.length) (S.push (.lst xs)) = .ok (.d (.lst xs)) S := by
  unfold frzS
  dsimp only
  rw [if_pos ⟨Nat.le_refl _, push_len.symm⟩, push_get, push_trunc]
theorem asked (its : List Itm) (ch : Ch) (hx : (thingsOf its).length ≤ 1000) (hp : (pairsOf its).length ≤ 1000) (S : Store) : m__law_asked [.d (callD its), .d ch.d] S = .ok (.d (askD S (behF (thingsOf its) (pairsOf its) ch))) (askS S (behF (thingsOf its) (pairsOf its) ch)) := by
  have c := changed its ch hx hp S
  unfold m__law_asked
  rw [mkFn_eq (by rfl)]
  cases ho : behF (thingsOf its) (pairsOf its) ch with
  | none =>
    rw [ho] at c
    have c : m_changed [.d (callD its), .d ch.d] S = .exc 45 [] S := c
    have h1 : ([Ty.cls 45].any fun z => Ty.is (.cls 45) z) = true := by decide
    have h2 : (ups 45).contains 40 = true := by decide
    simp -implicitDefEqProofs only [List.map_cons, List.map_nil, List.replicate, Nat.reduceSub, List.cons_append, List.nil_append, List.append_nil, exs_cons, exs_nil, ex_set, ex_setA, ex_setI, ex_ife, ex_expr, ex_ret, ex_retN, ex_brk, ex_cnt, ex_pass, ex_for, ex_rai, ex_par, ex_try, exh_cons, exh_nil, tr_nx, tr_exc, tr_ret, xIn_some, xIn_none, xDel_some, xDel_none, xOut_nx, xOut_ret, ev_var, ev_con, ev_glo, ev_tup, ev_lst, ev_bin, ev_neg, ev_cmp, ev_chn, ev_not, ev_and, ev_or, evAnd_one, evAnd_two, evOr_one, evOr_two, ev_ife, ev_ix, ev_slc, ev_bi, ev_mt, ev_call, ev_comp, ev_cmc, ev_attr, ev_isi, ev_isx, ev_xat, evs_cons, evs_nil, evIt_seq, evIt_rng, evIt_enum, evIt_zip, evIt_rvs, evIt_rvr, evAll_nil, evAll_one, E.isNon, ofI, bnd_ok, bnd_exc, stm_ok, stm_exc, seq_nx, seq_ret, seq_exc, seq_brk, seq_cnt, fin_nx, fin_ret, fin_exc, fin_d, asg_v, asg_t, asgs_cons, asgs_nil, parts_d, parts_t, List.getElem?_cons_zero, List.getElem?_cons_succ, List.set_cons_succ, List.set_cons_zero, ifT_bl, okB_eq, ofB_some, id, mkTup1, mkTup2, mkTup3, mkLst_f0, mkLst_f1, mkLst_t0, items_lst, items_tup, itemL_lst, bi_len, bi_list, bi_tuple, bi_min, bi_max, bi_abs, bi_int, bi_sum, bi_all, bi_any, len_lst, len_tup, bin_add, bin_sub, bin_mul, bin_mod, bin_adds, neg_int', cmp_lt, cmp_le, cmp_gt, cmp_ge, cmp_eqI, cmp_neI, cmp_eqS, cmp_neS, cmp_eqB, cmp_neB, cmp_isB, cmp_isnotB, decide_true, decide_false, Bool.not_true, Bool.not_false, Bool.not_not, if_true, if_false, Bool.false_eq_true, Mt.on, mtS, trunc_self, clrs, tgv, tgvs, b__law_asked, ev_grf, cc__law_asked_0, cc__law_asked_1, c, h1, h2, other, List.all_cons, List.all_nil, noXo_none, noXo_d, Bool.and_self]
    rfl
  | some o =>
    obtain ⟨xs, ps⟩ := o
    rw [ho] at c
    have c : m_changed [.d (callD its), .d ch.d] S = .ok (.cell S.loc.length) (S.push (.lst ((plainI xs ps).map Itm.d))) := c
    simp -implicitDefEqProofs only [List.map_cons, List.map_nil, List.replicate, Nat.reduceSub, List.cons_append, List.nil_append, List.append_nil, exs_cons, exs_nil, ex_set, ex_setA, ex_setI, ex_ife, ex_expr, ex_ret, ex_retN, ex_brk, ex_cnt, ex_pass, ex_for, ex_rai, ex_par, ex_try, exh_cons, exh_nil, tr_nx, tr_exc, tr_ret, xIn_some, xIn_none, xDel_some, xDel_none, xOut_nx, xOut_ret, ev_var, ev_con, ev_glo, ev_tup, ev_lst, ev_bin, ev_neg, ev_cmp, ev_chn, ev_not, ev_and, ev_or, evAnd_one, evAnd_two, evOr_one, evOr_two, ev_ife, ev_ix, ev_slc, ev_bi, ev_mt, ev_call, ev_comp, ev_cmc, ev_attr, ev_isi, ev_isx, ev_xat, evs_cons, evs_nil, evIt_seq, evIt_rng, evIt_enum, evIt_zip, evIt_rvs, evIt_rvr, evAll_nil, evAll_one, E.isNon, ofI, bnd_ok, bnd_exc, stm_ok, stm_exc, seq_nx, seq_ret, seq_exc, seq_brk, seq_cnt, fin_nx, fin_ret, fin_exc, fin_d, asg_v, asg_t, asgs_cons, asgs_nil, parts_d, parts_t, List.getElem?_cons_zero, List.getElem?_cons_succ, List.set_cons_succ, List.set_cons_zero, ifT_bl, okB_eq, ofB_some, id, mkTup1, mkTup2, mkTup3, mkLst_f0, mkLst_f1, mkLst_t0, items_lst, items_tup, itemL_lst, bi_len, bi_list, bi_tuple, bi_min, bi_max, bi_abs, bi_int, bi_sum, bi_all, bi_any, len_lst, len_tup, bin_add, bin_sub, bin_mul, bin_mod, bin_adds, neg_int', cmp_lt, cmp_le, cmp_gt, cmp_ge, cmp_eqI, cmp_neI, cmp_eqS, cmp_neS, cmp_eqB, cmp_neB, cmp_isB, cmp_isnotB, decide_true, decide_false, Bool.not_true, Bool.not_false, Bool.not_not, if_true, if_false, Bool.false_eq_true, Mt.on, mtS, trunc_self, clrs, tgv, tgvs, b__law_asked, ev_grf, cc__law_asked_0, c, grf_l, pushG_trunc]
    rfl
theorem is_number (i : Int) (S : Store) : m__law_is_number [.d (.int i)] S = .ok (.d (.bl true)) S := by
  unfold m__law_is_number
  rw [mkFn_eq (by rfl)]
  have h1 : isTy (.d (.int i)) S [.int] = some true := rfl
  have h2 : ∀ b, cmpS .isnot (.d (.int i)) (.d (.bl b)) S = .ok (.d (.bl true)) S := fun b => rfl
  simp -implicitDefEqProofs only [List.map_cons, List.map_nil, List.replicate, Nat.reduceSub, List.cons_append, List.nil_append, List.append_nil, exs_cons, exs_nil, ex_set, ex_setA, ex_setI, ex_ife, ex_expr, ex_ret, ex_retN, ex_brk, ex_cnt, ex_pass, ex_for, ex_rai, ex_par, ex_try, exh_cons, exh_nil, tr_nx, tr_exc, tr_ret, xIn_some, xIn_none, xDel_some, xDel_none, xOut_nx, xOut_ret, ev_var, ev_con, ev_glo, ev_tup, ev_lst, ev_bin, ev_neg, ev_cmp, ev_chn, ev_not, ev_and, ev_or, evAnd_one, evAnd_two, evOr_one, evOr_two, ev_ife, ev_ix, ev_slc, ev_bi, ev_mt, ev_call, ev_comp, ev_cmc, ev_attr, ev_isi, ev_isx, ev_xat, evs_cons, evs_nil, evIt_seq, evIt_rng, evIt_enum, evIt_zip, evIt_rvs, evIt_rvr, evAll_nil, evAll_one, E.isNon, ofI, bnd_ok, bnd_exc, stm_ok, stm_exc, seq_nx, seq_ret, seq_exc, seq_brk, seq_cnt, fin_nx, fin_ret, fin_exc, fin_d, asg_v, asg_t, asgs_cons, asgs_nil, parts_d, parts_t, List.getElem?_cons_zero, List.getElem?_cons_succ, List.set_cons_succ, List.set_cons_zero, ifT_bl, okB_eq, ofB_some, id, mkTup1, mkTup2, mkTup3, mkLst_f0, mkLst_f1, mkLst_t0, items_lst, items_tup, itemL_lst, bi_len, bi_list, bi_tuple, bi_min, bi_max, bi_abs, bi_int, bi_sum, bi_all, bi_any, len_lst, len_tup, bin_add, bin_sub, bin_mul, bin_mod, bin_adds, neg_int', cmp_lt, cmp_le, cmp_gt, cmp_ge, cmp_eqI, cmp_neI, cmp_eqS, cmp_neS, cmp_eqB, cmp_neB, cmp_isB, cmp_isnotB, decide_true, decide_false, Bool.not_true, Bool.not_false, Bool.not_not, if_true, if_false, Bool.false_eq_true, Mt.on, mtS, trunc_self, clrs, tgv, tgvs, b__law_is_number, h1, h2]
def lastI : Itm → Int
  | .one x => x
  | .named _ x => x
  | _ => 0
theorem plain_last (xs : List Int) (ps : List (Str × Int)) (S : Store) : ∀ it ∈ plainI xs ps, ixS (.d it.d) (.d (.int (-1))) S = .ok (.d (.int (lastI it))) S := by
  intro it h
  unfold plainI at h
  rcases List.mem_append.mp h with h | h
  · obtain ⟨x, _, rfl⟩ := List.mem_map.mp h
    rfl
  · obtain ⟨x, _, rfl⟩ := List.mem_map.mp h
    rfl
theorem itm_tup (it : Itm) (S : Store) : isTy (.d it.d) S [.tup] = some true := by cases it <;> rfl
theorem all_tr {α : Type} (l : List α) (S : Store) : bBools (fun bs => bs.all id) [.d (.lst (l.map fun _ => .bl true))] S = .ok (.d (.bl true)) S := by
  have e : dBls (l.map fun _ => D.bl true) = some (l.map fun _ => true) := dBls_map (fun _ => true) l
  have r : S.rdL (.d (.lst (l.map fun _ => D.bl true))) = some (l.map fun _ => .bl true) := rfl
  simp only [bBools, r, e, okB_eq]
  congr 3
  rw [List.all_eq_true]
  intro b hb
  obtain ⟨_, _, rfl⟩ := List.mem_map.mp hb
  rfl
theorem is_call (xs : List Int) (ps : List (Str × Int)) (hx : xs.length ≤ 2000) (hp : ps.length ≤ 2000) (k : Nat) (S : Store) (h : S.glb[k]? = some (.lst ((plainI xs ps).map Itm.d))) : m__law_is_call [.d (.gref k), .d (callD (plainI xs ps))] S = .ok (.d (.bl true)) S := by
  have hl : (plainI xs ps).length ≤ 4000 := by unfold plainI; simp; omega
  have pl := plain_last xs ps S
  have ly := call_ly (plainI xs ps) 8
  generalize plainI xs ps = its at h hl pl ly ⊢
  have t1 : isTy (.d (.gref k)) S [.lst] = some true := by simp [isTy, tyS, h, Ty.is]
  have rl : S.rdL (.d (.gref k)) = some (its.map Itm.d) := by simp only [Store.rdL, h]
  have c1 := compG_d (f := cmpR c__law_is_call (.v 2) .nil (.isi (.var 2) [.tup]) [some (.d (.gref k)), some (.d (callD its)), none]) (g := fun _ => D.bl true) rl (fun it _ => by
    unfold cmpR
    simp -implicitDefEqProofs only [List.map_cons, List.map_nil, List.replicate, Nat.reduceSub, List.cons_append, List.nil_append, List.append_nil, exs_cons, exs_nil, ex_set, ex_setA, ex_setI, ex_ife, ex_expr, ex_ret, ex_retN, ex_brk, ex_cnt, ex_pass, ex_for, ex_rai, ex_par, ex_try, exh_cons, exh_nil, tr_nx, tr_exc, tr_ret, xIn_some, xIn_none, xDel_some, xDel_none, xOut_nx, xOut_ret, ev_var, ev_con, ev_glo, ev_tup, ev_lst, ev_bin, ev_neg, ev_cmp, ev_chn, ev_not, ev_and, ev_or, evAnd_one, evAnd_two, evOr_one, evOr_two, ev_ife, ev_ix, ev_slc, ev_bi, ev_mt, ev_call, ev_comp, ev_cmc, ev_attr, ev_isi, ev_isx, ev_xat, evs_cons, evs_nil, evIt_seq, evIt_rng, evIt_enum, evIt_zip, evIt_rvs, evIt_rvr, evAll_nil, evAll_one, E.isNon, ofI, bnd_ok, bnd_exc, stm_ok, stm_exc, seq_nx, seq_ret, seq_exc, seq_brk, seq_cnt, fin_nx, fin_ret, fin_exc, fin_d, asg_v, asg_t, asgs_cons, asgs_nil, parts_d, parts_t, List.getElem?_cons_zero, List.getElem?_cons_succ, List.set_cons_succ, List.set_cons_zero, ifT_bl, okB_eq, ofB_some, id, mkTup1, mkTup2, mkTup3, mkLst_f0, mkLst_f1, mkLst_t0, items_lst, items_tup, itemL_lst, bi_len, bi_list, bi_tuple, bi_min, bi_max, bi_abs, bi_int, bi_sum, bi_all, bi_any, len_lst, len_tup, bin_add, bin_sub, bin_mul, bin_mod, bin_adds, neg_int', cmp_lt, cmp_le, cmp_gt, cmp_ge, cmp_eqI, cmp_neI, cmp_eqS, cmp_neS, cmp_eqB, cmp_neB, cmp_isB, cmp_isnotB, decide_true, decide_false, Bool.not_true, Bool.not_false, Bool.not_not, if_true, if_false, Bool.false_eq_true, Mt.on, mtS, trunc_self, clrs, tgv, tgvs, itm_tup]) (by omega)
  have c2 := compG_d (f := cmpR c__law_is_call (.v 2) .nil (.call 0 (.cons (.ix (.var 2) (.neg (.con (.int 1)))) .nil)) [some (.d (.gref k)), some (.d (callD its)), none]) (g := fun _ => D.bl true) rl (fun it hi => by
    unfold cmpR
    simp -implicitDefEqProofs only [List.map_cons, List.map_nil, List.replicate, Nat.reduceSub, List.cons_append, List.nil_append, List.append_nil, exs_cons, exs_nil, ex_set, ex_setA, ex_setI, ex_ife, ex_expr, ex_ret, ex_retN, ex_brk, ex_cnt, ex_pass, ex_for, ex_rai, ex_par, ex_try, exh_cons, exh_nil, tr_nx, tr_exc, tr_ret, xIn_some, xIn_none, xDel_some, xDel_none, xOut_nx, xOut_ret, ev_var, ev_con, ev_glo, ev_tup, ev_lst, ev_bin, ev_neg, ev_cmp, ev_chn, ev_not, ev_and, ev_or, evAnd_one, evAnd_two, evOr_one, evOr_two, ev_ife, ev_ix, ev_slc, ev_bi, ev_mt, ev_call, ev_comp, ev_cmc, ev_attr, ev_isi, ev_isx, ev_xat, evs_cons, evs_nil, evIt_seq, evIt_rng, evIt_enum, evIt_zip, evIt_rvs, evIt_rvr, evAll_nil, evAll_one, E.isNon, ofI, bnd_ok, bnd_exc, stm_ok, stm_exc, seq_nx, seq_ret, seq_exc, seq_brk, seq_cnt, fin_nx, fin_ret, fin_exc, fin_d, asg_v, asg_t, asgs_cons, asgs_nil, parts_d, parts_t, List.getElem?_cons_zero, List.getElem?_cons_succ, List.set_cons_succ, List.set_cons_zero, ifT_bl, okB_eq, ofB_some, id, mkTup1, mkTup2, mkTup3, mkLst_f0, mkLst_f1, mkLst_t0, items_lst, items_tup, itemL_lst, bi_len, bi_list, bi_tuple, bi_min, bi_max, bi_abs, bi_int, bi_sum, bi_all, bi_any, len_lst, len_tup, bin_add, bin_sub, bin_mul, bin_mod, bin_adds, neg_int', cmp_lt, cmp_le, cmp_gt, cmp_ge, cmp_eqI, cmp_neI, cmp_eqS, cmp_neS, cmp_eqB, cmp_neB, cmp_isB, cmp_isnotB, decide_true, decide_false, Bool.not_true, Bool.not_false, Bool.not_not, if_true, if_false, Bool.false_eq_true, Mt.on, mtS, trunc_self, clrs, tgv, tgvs, pl it hi, cc__law_is_call_0, is_number]) (by omega)
  have eq : cmpS .eq (.d (.gref k)) (.d (callD its)) S = .ok (.d (.bl true)) S := by
    have r1 : S.rd (.d (.gref k)) = some (callD its) := by simp only [Store.rd, h]; rfl
    have r2 : S.rd (.d (callD its)) = some (callD its) := rfl
    have ly : (callD its).ly lyMax = true := ly
    simp only [cmpS, eqS, r1, r2, ly, Bool.and_self, if_true, eqv_refl _ _ ly, ofB_some, id]
  unfold m__law_is_call
  rw [mkFn_eq (by rfl)]
  simp -implicitDefEqProofs only [List.map_cons, List.map_nil, List.replicate, Nat.reduceSub, List.cons_append, List.nil_append, List.append_nil, exs_cons, exs_nil, ex_set, ex_setA, ex_setI, ex_ife, ex_expr, ex_ret, ex_retN, ex_brk, ex_cnt, ex_pass, ex_for, ex_rai, ex_par, ex_try, exh_cons, exh_nil, tr_nx, tr_exc, tr_ret, xIn_some, xIn_none, xDel_some, xDel_none, xOut_nx, xOut_ret, ev_var, ev_con, ev_glo, ev_tup, ev_lst, ev_bin, ev_neg, ev_cmp, ev_chn, ev_not, ev_and, ev_or, evAnd_one, evAnd_two, evOr_one, evOr_two, ev_ife, ev_ix, ev_slc, ev_bi, ev_mt, ev_call, ev_comp, ev_cmc, ev_attr, ev_isi, ev_isx, ev_xat, evs_cons, evs_nil, evIt_seq, evIt_rng, evIt_enum, evIt_zip, evIt_rvs, evIt_rvr, evAll_nil, evAll_one, E.isNon, ofI, bnd_ok, bnd_exc, stm_ok, stm_exc, seq_nx, seq_ret, seq_exc, seq_brk, seq_cnt, fin_nx, fin_ret, fin_exc, fin_d, asg_v, asg_t, asgs_cons, asgs_nil, parts_d, parts_t, List.getElem?_cons_zero, List.getElem?_cons_succ, List.set_cons_succ, List.set_cons_zero, ifT_bl, okB_eq, ofB_some, id, mkTup1, mkTup2, mkTup3, mkLst_f0, mkLst_f1, mkLst_t0, items_lst, items_tup, itemL_lst, bi_len, bi_list, bi_tuple, bi_min, bi_max, bi_abs, bi_int, bi_sum, bi_all, bi_any, len_lst, len_tup, bin_add, bin_sub, bin_mul, bin_mod, bin_adds, neg_int', cmp_lt, cmp_le, cmp_gt, cmp_ge, cmp_eqI, cmp_neI, cmp_eqS, cmp_neS, cmp_eqB, cmp_neB, cmp_isB, cmp_isnotB, decide_true, decide_false, Bool.not_true, Bool.not_false, Bool.not_not, if_true, if_false, Bool.false_eq_true, Mt.on, mtS, trunc_self, clrs, tgv, tgvs, b__law_is_call, t1, rl, c1, c2, all_tr, eq]
theorem flat (xs : List Int) (ps : List (Str × Int)) (hx : xs.length ≤ 2000) (hp : ps.length ≤ 2000) (S : Store) : m__law_flat [.d (.lst (thD xs)), .d (.lst (psD ps))] S = .ok (.d (callD (plainI xs ps))) S := by
  have ad := add_lst (a := xs.map fun x => (Itm.one x).d) (b := ps.map fun q => (Itm.named q.1 q.2).d) (S := S) (by simp; omega)
  rw [← plain_d] at ad
  unfold m__law_flat
  rw [mkFn_eq (by rfl)]
  simp -implicitDefEqProofs only [List.map_cons, List.map_nil, List.replicate, Nat.reduceSub, List.cons_append, List.nil_append, List.append_nil, exs_cons, exs_nil, ex_set, ex_setA, ex_setI, ex_ife, ex_expr, ex_ret, ex_retN, ex_brk, ex_cnt, ex_pass, ex_for, ex_rai, ex_par, ex_try, exh_cons, exh_nil, tr_nx, tr_exc, tr_ret, xIn_some, xIn_none, xDel_some, xDel_none, xOut_nx, xOut_ret, ev_var, ev_con, ev_glo, ev_tup, ev_lst, ev_bin, ev_neg, ev_cmp, ev_chn, ev_not, ev_and, ev_or, evAnd_one, evAnd_two, evOr_one, evOr_two, ev_ife, ev_ix, ev_slc, ev_bi, ev_mt, ev_call, ev_comp, ev_cmc, ev_attr, ev_isi, ev_isx, ev_xat, evs_cons, evs_nil, evIt_seq, evIt_rng, evIt_enum, evIt_zip, evIt_rvs, evIt_rvr, evAll_nil, evAll_one, E.isNon, ofI, bnd_ok, bnd_exc, stm_ok, stm_exc, seq_nx, seq_ret, seq_exc, seq_brk, seq_cnt, fin_nx, fin_ret, fin_exc, fin_d, asg_v, asg_t, asgs_cons, asgs_nil, parts_d, parts_t, List.getElem?_cons_zero, List.getElem?_cons_succ, List.set_cons_succ, List.set_cons_zero, ifT_bl, okB_eq, ofB_some, id, mkTup1, mkTup2, mkTup3, mkLst_f0, mkLst_f1, mkLst_t0, items_lst, items_tup, itemL_lst, bi_len, bi_list, bi_tuple, bi_min, bi_max, bi_abs, bi_int, bi_sum, bi_all, bi_any, len_lst, len_tup, bin_add, bin_sub, bin_mul, bin_mod, bin_adds, neg_int', cmp_lt, cmp_le, cmp_gt, cmp_ge, cmp_eqI, cmp_neI, cmp_eqS, cmp_neS, cmp_eqB, cmp_neB, cmp_isB, cmp_isnotB, decide_true, decide_false, Bool.not_true, Bool.not_false, Bool.not_not, if_true, if_false, Bool.false_eq_true, Mt.on, mtS, trunc_self, clrs, tgv, tgvs, b__law_flat, flat_1 xs (show _ ≤ 90000 by omega), flat_2 ps (show _ ≤ 90000 by omega), ad]
  rfl
/-! ### the whole -/
theorem cut_map {α β : Type} (g : α → β) (xs : List α) (a b : Option Int) : cut (xs.map g) a b = (cut xs a b).map g := by
  unfold cut
  rw [List.length_map, List.map_take, List.map_drop]
def wLoop : Ss := match b_law with
  | .cons _ (.cons _ (.cons _ (.cons _ (.cons (.for _ _ b) _)))) => b
  | _ => .nil
theorem setG_last {L G : List Cell} {c d : Cell} : (Store.mk L (G ++ [c])).setG G.length d = ⟨L, G ++ [d]⟩ := by
  simp [Store.setG, List.set_append]
theorem law_step (L G : List Cell) (sc : Option T) (pl : List Str) (hp0 : 0 < pl.length) (c : Int) (its : List Itm) (hx : (thingsOf its).length ≤ 500) (hp : (pairsOf its).length ≤ 500) (a6 a7 a8 a9 a10 : Option T) : ∃ its' G' a6' a7' a8' a9' a10', (thingsOf its').length ≤ (thingsOf its).length + 1 ∧ (pairsOf its').length ≤ (pairsOf its).length + 1 ∧
    forR c_law L.length (.v 6) wLoop (.int c) [sc, some (.d (.lst (pl.map .str))), some (.d (callD its)), some (.d (.lst (thD (thingsOf its)))), some (.d (.lst (psD (pairsOf its)))), some (.d (callD its)), a6, a7, a8, a9, a10] ⟨L, G⟩ = .nx [sc, some (.d (.lst (pl.map .str))), some (.d (callD its')), some (.d (.lst (thD (thingsOf its')))), some (.d (.lst (psD (pairsOf its')))), some (.d (callD its')), a6', a7', a8', a9', a10'] ⟨L, G'⟩ := by
  have be := behind (thingsOf its) (pairsOf its) (chF pl c) (by omega) (by omega)
  have as := asked its (chF pl c) (by omega) (by omega)
  have cg := changed its (chF pl c) (by omega) (by omega)
  have cn : ∀ S, cmpS .ne (.d (callD its)) (.d (callD its)) S = .ok (.d (.bl false)) S := fun S => cmp_neR (call_ly its 8)
  have ch := change pl hp0 c
  cases ho : behF (thingsOf its) (pairsOf its) (chF pl c) with
  | none =>
    rw [ho] at be as
    have ne : ∀ S, cmpS .ne (.d (.tup [.str "refused", .bl true])) (.d (.tup [.str "refused", .bl true])) S = .ok (.d (.bl false)) S := fun S => cmp_neR rfl
    have is1 : ∀ S, cmpS .is (.d .non) (.d .non) S = .ok (.d (.bl true)) S := fun S => rfl
    have is2 : ∀ S, cmpS .isnot (.d .non) (.d .non) S = .ok (.d (.bl false)) S := fun S => rfl
    refine ⟨its, G, some (.d (.int c)), some (.d (chF pl c).d), some (.d .non), some (.d (.tup [.str "refused", .bl true])), a10, by omega, by omega, ?_⟩
    unfold forR wLoop b_law
    unfold behD at be
    unfold askD askS at as
    simp -implicitDefEqProofs only [List.map_cons, List.map_nil, List.replicate, Nat.reduceSub, List.cons_append, List.nil_append, List.append_nil, exs_cons, exs_nil, ex_set, ex_setA, ex_setI, ex_ife, ex_expr, ex_ret, ex_retN, ex_brk, ex_cnt, ex_pass, ex_for, ex_rai, ex_par, ex_try, exh_cons, exh_nil, tr_nx, tr_exc, tr_ret, xIn_some, xIn_none, xDel_some, xDel_none, xOut_nx, xOut_ret, ev_var, ev_con, ev_glo, ev_tup, ev_lst, ev_bin, ev_neg, ev_cmp, ev_chn, ev_not, ev_and, ev_or, evAnd_one, evAnd_two, evOr_one, evOr_two, ev_ife, ev_ix, ev_slc, ev_bi, ev_mt, ev_call, ev_comp, ev_cmc, ev_attr, ev_isi, ev_isx, ev_xat, evs_cons, evs_nil, evIt_seq, evIt_rng, evIt_enum, evIt_zip, evIt_rvs, evIt_rvr, evAll_nil, evAll_one, E.isNon, ofI, bnd_ok, bnd_exc, stm_ok, stm_exc, seq_nx, seq_ret, seq_exc, seq_brk, seq_cnt, fin_nx, fin_ret, fin_exc, fin_d, asg_v, asg_t, asgs_cons, asgs_nil, parts_d, parts_t, List.getElem?_cons_zero, List.getElem?_cons_succ, List.set_cons_succ, List.set_cons_zero, ifT_bl, okB_eq, ofB_some, id, mkTup1, mkTup2, mkTup3, mkLst_f0, mkLst_f1, mkLst_t0, items_lst, items_tup, itemL_lst, bi_len, bi_list, bi_tuple, bi_min, bi_max, bi_abs, bi_int, bi_sum, bi_all, bi_any, len_lst, len_tup, bin_add, bin_sub, bin_mul, bin_mod, bin_adds, neg_int', cmp_lt, cmp_le, cmp_gt, cmp_ge, cmp_eqI, cmp_neI, cmp_eqS, cmp_neS, cmp_eqB, cmp_neB, cmp_isB, cmp_isnotB, decide_true, decide_false, Bool.not_true, Bool.not_false, Bool.not_not, if_true, if_false, Bool.false_eq_true, Mt.on, mtS, trunc_self, clrs, tgv, tgvs, cc_law_4, cc_law_5, cc_law_6, ch, be, as, cn, ne, is1, is2]
  | some o =>
    obtain ⟨xs, ps⟩ := o
    rw [ho] at be as cg
    obtain ⟨h1, h2⟩ := beh_len ho
    obtain ⟨p1, p2⟩ := plain_parts xs ps
    have cg : ∀ S, m_changed [.d (callD its), .d (chF pl c).d] S = .ok (.cell S.loc.length) (S.push (.lst ((plainI xs ps).map Itm.d))) := cg
    have fl := flat xs ps (by omega) (by omega)
    have isc := is_call xs ps (by omega) (by omega) G.length ⟨L, G ++ [.lst ((plainI xs ps).map Itm.d)]⟩ (by simp)
    have ll : (plainI xs ps).length ≤ 4000 := by unfold plainI; simp; omega
    have cn2 : ∀ S, cmpS .ne (.d (callD (plainI xs ps))) (.d (callD (plainI xs ps))) S = .ok (.d (.bl false)) S := fun S => cmp_neR (call_ly _ 8)
    have is1 : ∀ S, cmpS .is (.d (layD xs ps)) (.d .non) S = .ok (.d (.bl false)) S := fun S => rfl
    have is2 : ∀ S, cmpS .isnot (.d (layD xs ps)) (.d .non) S = .ok (.d (.bl true)) S := fun S => rfl
    have i0 : ∀ S, ixS (.d (layD xs ps)) (.d (.int 0)) S = .ok (.d (.lst (thD xs))) S := fun S => rfl
    have i1 : ∀ S, ixS (.d (layD xs ps)) (.d (.int 1)) S = .ok (.d (.lst (psD ps))) S := fun S => rfl
    have pt : parts (.d (layD xs ps)) = some [.d (.lst (thD xs)), .d (.lst (psD ps))] := rfl
    refine ⟨plainI xs ps, G ++ [.lst []], some (.d (.int c)), some (.d (chF pl c).d), some (.d (layD xs ps)), some (.d (.tup [.str "told", .gref G.length])), some (.d (callD (plainI xs ps))), by rw [p1]; omega, by rw [p2]; omega, ?_⟩
    rw [p1, p2]
    have as : m__law_asked [.d (callD its), .d (chF pl c).d] ⟨L, G⟩ = .ok (.d (.tup [.str "told", .gref G.length])) ⟨L, G ++ [.lst ((plainI xs ps).map Itm.d)]⟩ := as ⟨L, G⟩
    generalize plainI xs ps = its2 at as cg fl isc ll cn2 ⊢
    have g1 : (⟨L, G ++ [.lst (its2.map Itm.d)]⟩ : Store).glb[G.length]? = some (.lst (its2.map Itm.d)) := by simp
    have ty : tyS (.d (.gref G.length)) ⟨L, G ++ [.lst (its2.map Itm.d)]⟩ = some .lst := by unfold tyS; simp only [g1]
    have cl : mClear (.d (.gref G.length)) [] ⟨L, G ++ [.lst (its2.map Itm.d)]⟩ = .ok (.d .non) ⟨L, G ++ [.lst []]⟩ := by
      have a : (⟨L, G ++ [.lst (its2.map Itm.d)]⟩ : Store).at (.d (.gref G.length)) = some (.lst (its2.map Itm.d)) := g1
      have p : (⟨L, G ++ [.lst (its2.map Itm.d)]⟩ : Store).put (.d (.gref G.length)) (.lst []) = ⟨L, G ++ [.lst []]⟩ := setG_last
      simp only [mClear, atL, a, p]
    have li : ∀ S, bList false [.d (callD its2)] S = .ok (.d (callD its2)) S := fun S => list_ok rfl (by rw [List.length_map]; omega)
    have fr : frzS L.length (.cell L.length) ((⟨L, G ++ [.lst (its2.map Itm.d)]⟩ : Store).push (.lst (its2.map Itm.d))) = .ok (.d (callD its2)) ⟨L, G ++ [.lst (its2.map Itm.d)]⟩ := frz_l (S := ⟨L, _⟩)
    have tn : cmpS .ne (.d (.str "told")) (.d (.str "told")) ⟨L, G ++ [.lst (its2.map Itm.d)]⟩ = .ok (.d (.bl false)) ⟨L, G ++ [.lst (its2.map Itm.d)]⟩ := cmp_neR rfl
    unfold forR wLoop b_law
    unfold behD at be
    dsimp only at be
    simp -implicitDefEqProofs only [List.map_cons, List.map_nil, List.replicate, Nat.reduceSub, List.cons_append, List.nil_append, List.append_nil, exs_cons, exs_nil, ex_set, ex_setA, ex_setI, ex_ife, ex_expr, ex_ret, ex_retN, ex_brk, ex_cnt, ex_pass, ex_for, ex_rai, ex_par, ex_try, exh_cons, exh_nil, tr_nx, tr_exc, tr_ret, xIn_some, xIn_none, xDel_some, xDel_none, xOut_nx, xOut_ret, ev_var, ev_con, ev_glo, ev_tup, ev_lst, ev_bin, ev_neg, ev_cmp, ev_chn, ev_not, ev_and, ev_or, evAnd_one, evAnd_two, evOr_one, evOr_two, ev_ife, ev_ix, ev_slc, ev_bi, ev_mt, ev_call, ev_comp, ev_cmc, ev_attr, ev_isi, ev_isx, ev_xat, evs_cons, evs_nil, evIt_seq, evIt_rng, evIt_enum, evIt_zip, evIt_rvs, evIt_rvr, evAll_nil, evAll_one, E.isNon, ofI, bnd_ok, bnd_exc, stm_ok, stm_exc, seq_nx, seq_ret, seq_exc, seq_brk, seq_cnt, fin_nx, fin_ret, fin_exc, fin_d, asg_v, asg_t, asgs_cons, asgs_nil, parts_d, parts_t, List.getElem?_cons_zero, List.getElem?_cons_succ, List.set_cons_succ, List.set_cons_zero, ifT_bl, okB_eq, ofB_some, id, mkTup1, mkTup2, mkTup3, mkLst_f0, mkLst_f1, mkLst_t0, items_lst, items_tup, itemL_lst, bi_len, bi_list, bi_tuple, bi_min, bi_max, bi_abs, bi_int, bi_sum, bi_all, bi_any, len_lst, len_tup, bin_add, bin_sub, bin_mul, bin_mod, bin_adds, neg_int', cmp_lt, cmp_le, cmp_gt, cmp_ge, cmp_eqI, cmp_neI, cmp_eqS, cmp_neS, cmp_eqB, cmp_neB, cmp_isB, cmp_isnotB, decide_true, decide_false, Bool.not_true, Bool.not_false, Bool.not_not, if_true, if_false, Bool.false_eq_true, Mt.on, mtS, trunc_self, clrs, tgv, tgvs, cc_law_4, cc_law_5, cc_law_6, ch, be, as, cn, is1, is2, ix_0, ix_1, tn, i0, i1, cc_law_8, fl, cc_law_7, isc, cc_law_9, ev_frz, cg, fr, ty, cl, cn2, li, pt]
theorem law_loop (L : List Cell) (sc : Option T) (pl : List Str) (hp0 : 0 < pl.length) : ∀ (cs : List Int) (G : List Cell) (its : List Itm) (a6 a7 a8 a9 a10 : Option T), (thingsOf its).length + cs.length ≤ 400 → (pairsOf its).length + cs.length ≤ 400 → ∃ σ' S',
    forL (forR c_law L.length (.v 6) wLoop) (cs.map .int) [sc, some (.d (.lst (pl.map .str))), some (.d (callD its)), some (.d (.lst (thD (thingsOf its)))), some (.d (.lst (psD (pairsOf its)))), some (.d (callD its)), a6, a7, a8, a9, a10] ⟨L, G⟩ = .nx σ' S'
  | [], G, its, a6, a7, a8, a9, a10, _, _ => ⟨_, _, rfl⟩
  | c :: cs, G, its, a6, a7, a8, a9, a10, h1, h2 => by
    simp only [List.length_cons] at h1 h2
    obtain ⟨its', G', b6, b7, b8, b9, b10, q1, q2, e⟩ := law_step L G sc pl hp0 c its (by omega) (by omega) a6 a7 a8 a9 a10
    obtain ⟨σ', S', e2⟩ := law_loop L sc pl hp0 cs G' its' b6 b7 b8 b9 b10 (by omega) (by omega)
    exact ⟨σ', S', by rw [List.map_cons, forL_nx e, e2]⟩
theorem its_len : ∀ (pl : List Str) (cs : List Int), (thingsOf (cs.map (itF pl))).length ≤ 5 * cs.length ∧ (pairsOf (cs.map (itF pl))).length ≤ 5 * cs.length
  | pl, [] => ⟨Nat.zero_le _, Nat.zero_le _⟩
  | pl, c :: cs => by
    obtain ⟨h1, h2⟩ := its_len pl cs
    obtain ⟨h3, h4⟩ := it_few pl c
    have t1 : thingsOf ((c :: cs).map (itF pl)) = (itF pl c).things ++ thingsOf (cs.map (itF pl)) := List.flatMap_cons
    have t2 : pairsOf ((c :: cs).map (itF pl)) = (itF pl c).pairs ++ pairsOf (cs.map (itF pl)) := List.flatMap_cons
    rw [t1, t2, List.length_append, List.length_append, List.length_cons]
    omega
theorem plain (ns : List Int) (hn : ns.length ≤ 63) (hb : ∀ z ∈ ns, Builtin.Int.intBits z ≤ 1048576) : ∃ S', m_law [.lst (ns.map fun i => .d (.int i))] ⟨[], []⟩ = .ok (.d (.bl true)) S' := by
  have nt : ∀ k S, m__law_nth [.lst (ns.map fun i => .d (.int i)), .d (.int ((k : Nat) : Int))] S = .ok (.d (.int (ns.getD k 0))) S := fun k S => MnC.nth_in ns k S
  have n0 : ∀ S, m__law_nth [.lst (ns.map fun i => .d (.int i)), .d (.int 0)] S = .ok (.d (.int (ns.getD 0 0))) S := nt 0
  have n1 : ∀ S, m__law_nth [.lst (ns.map fun i => .d (.int i)), .d (.int 1)] S = .ok (.d (.int (ns.getD 1 0))) S := nt 1
  obtain ⟨pl, p0, p1, p2, pe⟩ := pool (ns.getD 0 0)
  have rd : ∀ S : Store, S.rd (.lst (ns.map fun i => .d (.int i))) = some (.lst (ns.map .int)) := fun S => by simp only [Store.rd, unDs_map]
  have sl : ∀ a b S, slcS false (.lst (ns.map fun i => .d (.int i))) a b S = .ok (.d (.lst ((cut ns a b).map .int))) S := fun a b S => by
    simp only [slcS, rd, cut_map]
    exact mkL_ok (by rw [List.length_map]; exact Nat.le_trans (cut_len ns a b) (by omega))
  have hc : (cut ns (some 2) (some 10)).length ≤ 63 := Nat.le_trans (cut_len _ _ _) hn
  have it := items_ok pl p0 p1 p2 (cut ns (some 2) (some 10)) (by omega)
  obtain ⟨l1, l2⟩ := its_len pl (cut ns (some 2) (some 10))
  have du := due_ok ((cut ns (some 2) (some 10)).map (itF pl)) (by omega) (by omega)
  have hd : (cut ns (some 10) (some 34)).length ≤ 63 := Nat.le_trans (cut_len _ _ _) hn
  generalize (cut ns (some 2) (some 10)).map (itF pl) = its at it l1 l2 du
  obtain ⟨σ', S', e⟩ := law_loop [] (some (.lst (ns.map fun i => .d (.int i)))) pl p0 (ns.getD 1 0 :: cut ns (some 10) (some 34)) [] its none none none none none (by simp only [List.length_cons]; omega) (by simp only [List.length_cons]; omega)
  have ad : ∀ S, binS false .add (.d (.lst [.int (ns.getD 1 0)])) (.d (.lst ((cut ns (some 10) (some 34)).map .int))) S = .ok (.d (.lst ((ns.getD 1 0 :: cut ns (some 10) (some 34)).map .int))) S := fun S => add_lst (by rw [List.length_map]; show 1 + _ ≤ _; omega)
  refine ⟨S'.trunc 0, ?_⟩
  generalize (ns.getD 1 0 :: cut ns (some 10) (some 34)).map D.int = Q at e ad
  unfold layD at du
  unfold wLoop b_law at e
  dsimp only at e
  unfold m_law
  rw [mkFn_eq (by rfl)]
  simp -implicitDefEqProofs only [List.map_cons, List.map_nil, List.replicate, Nat.reduceSub, List.cons_append, List.nil_append, List.append_nil, exs_cons, exs_nil, ex_set, ex_setA, ex_setI, ex_ife, ex_expr, ex_ret, ex_retN, ex_brk, ex_cnt, ex_pass, ex_for, ex_rai, ex_par, ex_try, exh_cons, exh_nil, tr_nx, tr_exc, tr_ret, xIn_some, xIn_none, xDel_some, xDel_none, xOut_nx, xOut_ret, ev_var, ev_con, ev_glo, ev_tup, ev_lst, ev_bin, ev_neg, ev_cmp, ev_chn, ev_not, ev_and, ev_or, evAnd_one, evAnd_two, evOr_one, evOr_two, ev_ife, ev_ix, ev_slc, ev_bi, ev_mt, ev_call, ev_comp, ev_cmc, ev_attr, ev_isi, ev_isx, ev_xat, evs_cons, evs_nil, evIt_seq, evIt_rng, evIt_enum, evIt_zip, evIt_rvs, evIt_rvr, evAll_nil, evAll_one, E.isNon, ofI, bnd_ok, bnd_exc, stm_ok, stm_exc, seq_nx, seq_ret, seq_exc, seq_brk, seq_cnt, fin_nx, fin_ret, fin_exc, fin_d, asg_v, asg_t, asgs_cons, asgs_nil, parts_d, parts_t, List.getElem?_cons_zero, List.getElem?_cons_succ, List.set_cons_succ, List.set_cons_zero, ifT_bl, okB_eq, ofB_some, id, mkTup1, mkTup2, mkTup3, mkLst_f0, mkLst_f1, mkLst_t0, items_lst, items_tup, itemL_lst, bi_len, bi_list, bi_tuple, bi_min, bi_max, bi_abs, bi_int, bi_sum, bi_all, bi_any, len_lst, len_tup, bin_add, bin_sub, bin_mul, bin_mod, bin_adds, neg_int', cmp_lt, cmp_le, cmp_gt, cmp_ge, cmp_eqI, cmp_neI, cmp_eqS, cmp_neS, cmp_eqB, cmp_neB, cmp_isB, cmp_isnotB, decide_true, decide_false, Bool.not_true, Bool.not_false, Bool.not_not, if_true, if_false, Bool.false_eq_true, Mt.on, mtS, trunc_self, clrs, tgv, tgvs, b_law, cc_law_0, cc_law_1, cc_law_2, cc_law_3, n0, n1, pe, sl, it, du, ad]
  rw [e]
  simp -implicitDefEqProofs only [List.map_cons, List.map_nil, List.replicate, Nat.reduceSub, List.cons_append, List.nil_append, List.append_nil, exs_cons, exs_nil, ex_set, ex_setA, ex_setI, ex_ife, ex_expr, ex_ret, ex_retN, ex_brk, ex_cnt, ex_pass, ex_for, ex_rai, ex_par, ex_try, exh_cons, exh_nil, tr_nx, tr_exc, tr_ret, xIn_some, xIn_none, xDel_some, xDel_none, xOut_nx, xOut_ret, ev_var, ev_con, ev_glo, ev_tup, ev_lst, ev_bin, ev_neg, ev_cmp, ev_chn, ev_not, ev_and, ev_or, evAnd_one, evAnd_two, evOr_one, evOr_two, ev_ife, ev_ix, ev_slc, ev_bi, ev_mt, ev_call, ev_comp, ev_cmc, ev_attr, ev_isi, ev_isx, ev_xat, evs_cons, evs_nil, evIt_seq, evIt_rng, evIt_enum, evIt_zip, evIt_rvs, evIt_rvr, evAll_nil, evAll_one, E.isNon, ofI, bnd_ok, bnd_exc, stm_ok, stm_exc, seq_nx, seq_ret, seq_exc, seq_brk, seq_cnt, fin_nx, fin_ret, fin_exc, fin_d, asg_v, asg_t, asgs_cons, asgs_nil, parts_d, parts_t, List.getElem?_cons_zero, List.getElem?_cons_succ, List.set_cons_succ, List.set_cons_zero, ifT_bl, okB_eq, ofB_some, id, mkTup1, mkTup2, mkTup3, mkLst_f0, mkLst_f1, mkLst_t0, items_lst, items_tup, itemL_lst, bi_len, bi_list, bi_tuple, bi_min, bi_max, bi_abs, bi_int, bi_sum, bi_all, bi_any, len_lst, len_tup, bin_add, bin_sub, bin_mul, bin_mod, bin_adds, neg_int', cmp_lt, cmp_le, cmp_gt, cmp_ge, cmp_eqI, cmp_neI, cmp_eqS, cmp_neS, cmp_eqB, cmp_neB, cmp_isB, cmp_isnotB, decide_true, decide_false, Bool.not_true, Bool.not_false, Bool.not_not, if_true, if_false, Bool.false_eq_true, Mt.on, mtS, trunc_self, clrs, tgv, tgvs]
  rfl
end Lk31
set_option Elab.async false
set_option linter.all false
set_option maxRecDepth 100000
set_option maxHeartbeats 0
/-! Lk31B: the text and the head (printed by tr.py). -/
namespace Lk31
open PySem PySem.Spec PyProof.Rows PySem.SeqAt Mn
open L2 hiding ixN atI CX
open L2N (CX)
abbrev Prg : Program := PySem.Challenge.pw_callbinds_k31_changes_one_by_one
def TS : List Nat := [40, 41, 42, 43, 44, 45, 46, 47, 48, 49, 50, 51, 52, 53, 54, 55, 56]
abbrev s__law_mix : Stmt := (topS Prg 27)
def d__law_mix : He.DefD := ⟨("_law_mix", none), "_law_mix", "_law_mix", defArgs s__law_mix, defBody s__law_mix, defScope s__law_mix, [], []⟩
def N__law_mix : List Str := ["_law_cell", "_law_k", "_law_number"]
theorem sc__law_mix : FnScope N__law_mix ["_law_cell", "_law_k"] (defScope s__law_mix) := ⟨rfl, rfl, rfl, by decide +kernel, rfl, by decide +kernel, by decide +kernel⟩
def nm__law_mix : Nm := { glo := [], cal := [], dis := [], new := [], newk := [], up := [], new0 := [], rx := [], hot := [] }
theorem mt__law_mix : mSs nm__law_mix TS b__law_mix ⟨N__law_mix, defScope s__law_mix, fun _ => true, true⟩ (defBody s__law_mix) = true := by decide +kernel
abbrev s__law_pool : Stmt := (topS Prg 28)
def d__law_pool : He.DefD := ⟨("_law_pool", none), "_law_pool", "_law_pool", defArgs s__law_pool, defBody s__law_pool, defScope s__law_pool, [], []⟩
def N__law_pool : List Str := ["_law_cell", "_law_letters", "_law_pool_here", "_law_k", "_law_number", "_law_rest", "_law_name", "_law_j"]
theorem sc__law_pool : FnScope N__law_pool ["_law_cell"] (defScope s__law_pool) := ⟨rfl, rfl, rfl, by decide +kernel, rfl, by decide +kernel, by decide +kernel⟩
def nm__law_pool : Nm := { glo := [], cal := ["_law_mix"], dis := [], new := [], newk := [], up := [], new0 := [], rx := [], hot := [] }
theorem mt__law_pool : mSs nm__law_pool TS b__law_pool ⟨N__law_pool, defScope s__law_pool, fun _ => true, true⟩ (defBody s__law_pool) = true := by decide +kernel
abbrev s__law_nth : Stmt := (topS Prg 25)
def d__law_nth : He.DefD := ⟨("_law_nth", none), "_law_nth", "_law_nth", defArgs s__law_nth, defBody s__law_nth, defScope s__law_nth, [], []⟩
def N__law_nth : List Str := ["_law_script", "_law_k"]
theorem sc__law_nth : FnScope N__law_nth ["_law_script", "_law_k"] (defScope s__law_nth) := ⟨rfl, rfl, rfl, by decide +kernel, rfl, by decide +kernel, by decide +kernel⟩
def nm__law_nth : Nm := { glo := [], cal := [], dis := [], new := [], newk := [], up := [], new0 := [], rx := [], hot := [] }
theorem mt__law_nth : mSs nm__law_nth TS b__law_nth ⟨N__law_nth, defScope s__law_nth, fun _ => true, true⟩ (defBody s__law_nth) = true := by decide +kernel
abbrev s__law_thing : Stmt := (topS Prg 29)
def d__law_thing : He.DefD := ⟨("_law_thing", none), "_law_thing", "_law_thing", defArgs s__law_thing, defBody s__law_thing, defScope s__law_thing, [], []⟩
def N__law_thing : List Str := ["_law_cell"]
theorem sc__law_thing : FnScope N__law_thing ["_law_cell"] (defScope s__law_thing) := ⟨rfl, rfl, rfl, by decide +kernel, rfl, by decide +kernel, by decide +kernel⟩
def nm__law_thing : Nm := { glo := [], cal := [], dis := [], new := [], newk := [], up := [], new0 := [], rx := [], hot := [] }
theorem mt__law_thing : mSs nm__law_thing TS b__law_thing ⟨N__law_thing, defScope s__law_thing, fun _ => true, true⟩ (defBody s__law_thing) = true := by decide +kernel
abbrev s__law_items : Stmt := (topS Prg 30)
def d__law_items : He.DefD := ⟨("_law_items", none), "_law_items", "_law_items", defArgs s__law_items, defBody s__law_items, defScope s__law_items, [], []⟩
def N__law_items : List Str := ["_law_cells", "_law_pool_here", "_law_items_here", "_law_cell", "_law_kind", "_law_rest", "_law_names", "_law_k", "_law_name"]
theorem sc__law_items : FnScope N__law_items ["_law_cells", "_law_pool_here"] (defScope s__law_items) := ⟨rfl, rfl, rfl, by decide +kernel, rfl, by decide +kernel, by decide +kernel⟩
def nm__law_items : Nm := { glo := [], cal := ["_law_thing"], dis := [], new := [], newk := [], up := [], new0 := [], rx := [], hot := [] }
theorem mt__law_items : mSs nm__law_items TS b__law_items ⟨N__law_items, defScope s__law_items, fun _ => true, true⟩ (defBody s__law_items) = true := by decide +kernel
abbrev s__law_laid : Stmt := (topS Prg 31)
def d__law_laid : He.DefD := ⟨("_law_laid", none), "_law_laid", "_law_laid", defArgs s__law_laid, defBody s__law_laid, defScope s__law_laid, [], []⟩
def N__law_laid : List Str := ["_law_items_here", "_law_things", "_law_pairs", "_law_item"]
theorem sc__law_laid : FnScope N__law_laid ["_law_items_here"] (defScope s__law_laid) := ⟨rfl, rfl, rfl, by decide +kernel, rfl, by decide +kernel, by decide +kernel⟩
def nm__law_laid : Nm := { glo := [], cal := [], dis := [], new := [], newk := [], up := [], new0 := [], rx := [], hot := [] }
theorem mt__law_laid : mSs nm__law_laid TS b__law_laid ⟨N__law_laid, defScope s__law_laid, fun _ => true, true⟩ (defBody s__law_laid) = true := by decide +kernel
abbrev s__law_change : Stmt := (topS Prg 32)
def d__law_change : He.DefD := ⟨("_law_change", none), "_law_change", "_law_change", defArgs s__law_change, defBody s__law_change, defScope s__law_change, [], []⟩
def N__law_change : List Str := ["_law_cell", "_law_pool_here", "_law_name"]
theorem sc__law_change : FnScope N__law_change ["_law_cell", "_law_pool_here"] (defScope s__law_change) := ⟨rfl, rfl, rfl, by decide +kernel, rfl, by decide +kernel, by decide +kernel⟩
def nm__law_change : Nm := { glo := [], cal := [], dis := [], new := [], newk := [], up := [], new0 := [], rx := [], hot := [] }
theorem mt__law_change : mSs nm__law_change TS b__law_change ⟨N__law_change, defScope s__law_change, fun _ => true, true⟩ (defBody s__law_change) = true := by decide +kernel
abbrev s__law_behind : Stmt := (topS Prg 33)
def d__law_behind : He.DefD := ⟨("_law_behind", none), "_law_behind", "_law_behind", defArgs s__law_behind, defBody s__law_behind, defScope s__law_behind, [], []⟩
def N__law_behind : List Str := ["_law_things", "_law_pairs", "_law_change_here", "_law_there", "_law_j"]
theorem sc__law_behind : FnScope N__law_behind ["_law_things", "_law_pairs", "_law_change_here"] (defScope s__law_behind) := ⟨rfl, rfl, rfl, by decide +kernel, rfl, by decide +kernel, by decide +kernel⟩
def nm__law_behind : Nm := { glo := [], cal := [], dis := [], new := [], newk := [], up := [], new0 := [], rx := [], hot := [] }
theorem mt__law_behind : mSs nm__law_behind TS b__law_behind ⟨N__law_behind, defScope s__law_behind, fun _ => true, true⟩ (defBody s__law_behind) = true := by decide +kernel
abbrev s_laid : Stmt := (topS Prg 1)
def d_laid : He.DefD := ⟨("laid", none), "laid", "laid", defArgs s_laid, defBody s_laid, defScope s_laid, [], []⟩
def N_laid : List Str := ["call", "things", "pairs", "item", "name", "thing"]
theorem sc_laid : FnScope N_laid ["call"] (defScope s_laid) := ⟨rfl, rfl, rfl, by decide +kernel, rfl, by decide +kernel, by decide +kernel⟩
def nm_laid : Nm := { glo := [], cal := [], dis := [], new := [], newk := [], up := [], new0 := [], rx := [], hot := [] }
theorem mt_laid : mSs nm_laid TS b_laid ⟨N_laid, defScope s_laid, fun _ => true, true⟩ (defBody s_laid) = true := by decide +kernel
abbrev s_without_last : Stmt := (topS Prg 22)
def d_without_last : He.DefD := ⟨("without_last", none), "without_last", "without_last", defArgs s_without_last, defBody s_without_last, defScope s_without_last, [], []⟩
def N_without_last : List Str := ["pairs", "name", "at"]
theorem sc_without_last : FnScope N_without_last ["pairs", "name"] (defScope s_without_last) := ⟨rfl, rfl, rfl, by decide +kernel, rfl, by decide +kernel, by decide +kernel⟩
def nm_without_last : Nm := { glo := [], cal := [], dis := [], new := [], newk := [], up := [], new0 := [], rx := [], hot := [] }
theorem mt_without_last : mSs nm_without_last TS b_without_last ⟨N_without_last, defScope s_without_last, fun _ => true, true⟩ (defBody s_without_last) = true := by decide +kernel
abbrev s_call_of : Stmt := (topS Prg 2)
def d_call_of : He.DefD := ⟨("call_of", none), "call_of", "call_of", defArgs s_call_of, defBody s_call_of, defScope s_call_of, [], []⟩
def N_call_of : List Str := ["things", "pairs", "thing", "name"]
theorem sc_call_of : FnScope N_call_of ["things", "pairs"] (defScope s_call_of) := ⟨rfl, rfl, rfl, by decide +kernel, rfl, by decide +kernel, by decide +kernel⟩
def nm_call_of : Nm := { glo := [], cal := [], dis := [], new := [], newk := [], up := [], new0 := [], rx := [], hot := [] }
theorem mt_call_of : mSs nm_call_of TS b_call_of ⟨N_call_of, defScope s_call_of, fun _ => true, true⟩ (defBody s_call_of) = true := by decide +kernel
abbrev s_changed : Stmt := (topS Prg 23)
def d_changed : He.DefD := ⟨("changed", none), "changed", "changed", defArgs s_changed, defBody s_changed, defScope s_changed, [], []⟩
def N_changed : List Str := ["call", "change", "things", "pairs"]
theorem sc_changed : FnScope N_changed ["call", "change"] (defScope s_changed) := ⟨rfl, rfl, rfl, by decide +kernel, rfl, by decide +kernel, by decide +kernel⟩
def nm_changed : Nm := { glo := [], cal := ["laid", "without_last", "call_of"], dis := [], new := [], newk := [], up := [], new0 := [], rx := [], hot := [] }
theorem mt_changed : mSs nm_changed TS b_changed ⟨N_changed, defScope s_changed, fun _ => true, true⟩ (defBody s_changed) = true := by decide +kernel
abbrev s__law_other : Stmt := (topS Prg 34)
def d__law_other : He.DefD := ⟨("_law_other", none), "_law_other", "_law_other", defArgs s__law_other, defBody s__law_other, defScope s__law_other, [], []⟩
def N__law_other : List Str := ["_law_e"]
theorem sc__law_other : FnScope N__law_other ["_law_e"] (defScope s__law_other) := ⟨rfl, rfl, rfl, by decide +kernel, rfl, by decide +kernel, by decide +kernel⟩
def nm__law_other : Nm := { glo := [], cal := [], dis := [], new := [], newk := [], up := [], new0 := [], rx := [], hot := [] }
theorem mt__law_other : mSs nm__law_other TS b__law_other ⟨N__law_other, defScope s__law_other, fun _ => true, true⟩ (defBody s__law_other) = true := by decide +kernel
theorem mth__law_other : mSs nm__law_other TS b__law_other ⟨N__law_other, defScope s__law_other, fun _ => true, false⟩ (defBody s__law_other) = true := by decide +kernel
abbrev s__law_asked : Stmt := (topS Prg 35)
def d__law_asked : He.DefD := ⟨("_law_asked", none), "_law_asked", "_law_asked", defArgs s__law_asked, defBody s__law_asked, defScope s__law_asked, [], []⟩
def N__law_asked : List Str := ["_law_handed", "_law_change_here", "_law_found", "_law_e"]
theorem sc__law_asked : FnScope N__law_asked ["_law_handed", "_law_change_here"] (defScope s__law_asked) := ⟨rfl, rfl, rfl, by decide +kernel, rfl, by decide +kernel, by decide +kernel⟩
def nm__law_asked : Nm := { glo := [], cal := ["changed", "_law_other"], dis := [], new := [], newk := [], up := [], new0 := [], rx := [], hot := [1] }
theorem mt__law_asked : mSs nm__law_asked TS b__law_asked ⟨N__law_asked, defScope s__law_asked, fun _ => true, true⟩ (defBody s__law_asked) = true := by decide +kernel
abbrev s__law_is_number : Stmt := (topS Prg 26)
def d__law_is_number : He.DefD := ⟨("_law_is_number", none), "_law_is_number", "_law_is_number", defArgs s__law_is_number, defBody s__law_is_number, defScope s__law_is_number, [], []⟩
def N__law_is_number : List Str := ["_law_found"]
theorem sc__law_is_number : FnScope N__law_is_number ["_law_found"] (defScope s__law_is_number) := ⟨rfl, rfl, rfl, by decide +kernel, rfl, by decide +kernel, by decide +kernel⟩
def nm__law_is_number : Nm := { glo := [], cal := [], dis := [], new := [], newk := [], up := [], new0 := [], rx := [], hot := [] }
theorem mt__law_is_number : mSs nm__law_is_number TS b__law_is_number ⟨N__law_is_number, defScope s__law_is_number, fun _ => true, true⟩ (defBody s__law_is_number) = true := by decide +kernel
abbrev s__law_is_call : Stmt := (topS Prg 37)
def d__law_is_call : He.DefD := ⟨("_law_is_call", none), "_law_is_call", "_law_is_call", defArgs s__law_is_call, defBody s__law_is_call, defScope s__law_is_call, [], []⟩
def N__law_is_call : List Str := ["_law_found", "_law_due", "_law_item"]
theorem sc__law_is_call : FnScope N__law_is_call ["_law_found", "_law_due"] (defScope s__law_is_call) := ⟨rfl, rfl, rfl, by decide +kernel, rfl, by decide +kernel, by decide +kernel⟩
def nm__law_is_call : Nm := { glo := [], cal := ["_law_is_number"], dis := [], new := [], newk := [], up := [], new0 := [], rx := [], hot := [] }
theorem mt__law_is_call : mSs nm__law_is_call TS b__law_is_call ⟨N__law_is_call, defScope s__law_is_call, fun _ => true, true⟩ (defBody s__law_is_call) = true := by decide +kernel
abbrev s__law_flat : Stmt := (topS Prg 36)
def d__law_flat : He.DefD := ⟨("_law_flat", none), "_law_flat", "_law_flat", defArgs s__law_flat, defBody s__law_flat, defScope s__law_flat, [], []⟩
def N__law_flat : List Str := ["_law_things", "_law_pairs", "_law_thing_here", "_law_name"]
theorem sc__law_flat : FnScope N__law_flat ["_law_things", "_law_pairs"] (defScope s__law_flat) := ⟨rfl, rfl, rfl, by decide +kernel, rfl, by decide +kernel, by decide +kernel⟩
def nm__law_flat : Nm := { glo := [], cal := [], dis := [], new := [], newk := [], up := [], new0 := [], rx := [], hot := [] }
theorem mt__law_flat : mSs nm__law_flat TS b__law_flat ⟨N__law_flat, defScope s__law_flat, fun _ => true, true⟩ (defBody s__law_flat) = true := by decide +kernel
abbrev s_law : Stmt := (topS Prg 38)
def d_law : He.DefD := ⟨("law", none), "law", "law", defArgs s_law, defBody s_law, defScope s_law, [], []⟩
def N_law : List Str := ["_law_script", "_law_pool_here", "_law_handed", "_law_things", "_law_pairs", "_law_kept", "_law_cell", "_law_change_here", "_law_due", "_law_found", "_law_again"]
theorem sc_law : FnScope N_law ["_law_script"] (defScope s_law) := ⟨rfl, rfl, rfl, by decide +kernel, rfl, by decide +kernel, by decide +kernel⟩
def nm_law : Nm := { glo := [], cal := ["_law_pool", "_law_nth", "_law_items", "_law_laid", "_law_change", "_law_behind", "_law_asked", "_law_is_call", "_law_flat", "changed"], dis := [], new := [], newk := [], up := [], new0 := [], rx := [], hot := [] }
theorem mt_law : mSs nm_law TS b_law ⟨N_law, defScope s_law, fun _ => true, true⟩ (defBody s_law) = true := by decide +kernel
def fn : List He.DefD := [d__law_mix, d__law_pool, d__law_nth, d__law_thing, d__law_items, d__law_laid, d__law_change, d__law_behind, d_laid, d_without_last, d_call_of, d_changed, d__law_other, d__law_asked, d__law_is_number, d__law_is_call, d__law_flat, d_law]
def fa : List He.Fa := bnames.map He.Fa.free ++ [.glo "CallError", .glo "NoName", .glo "TooMany", .glo "BadOrder", .glo "Twice", .glo "NoChange", .glo "NoDefault", .glo "NoText", .glo "NoRow", .glo "Unknown", .glo "Misfit", .glo "Doubled", .glo "Over", .glo "Barred", .glo "Again", .glo "Strange", .glo "Lacking", .glo "_law_mix", .glo "_law_thing", .glo "laid", .glo "without_last", .glo "call_of", .glo "changed", .glo "_law_other", .glo "_law_is_number", .glo "_law_pool", .glo "_law_nth", .glo "_law_items", .glo "_law_laid", .glo "_law_change", .glo "_law_behind", .glo "_law_asked", .glo "_law_is_call", .glo "_law_flat", .glo "law"]
def exl : List (PySem.W.Frag → Bool) := [kitB3 TS, exsB TS]
def ex (K : PySem.W.Frag) : Bool := exl.all fun e => e K
theorem ex_at {K : PySem.W.Frag} {e : PySem.W.Frag → Bool} (i : Nat) (h : ex K = true) (hi : exl[i]? = some e := by rfl) : e K = true := List.all_eq_true.mp h e (List.mem_of_getElem? hi)
section
variable {P : Program} {w : World} {K : PySem.W.Frag} {h base : Heap} {mg : Str → Option Value}
theorem bl_all (X : K.In h) (G : h.Ns mainGlobals mg) (c : SaysM fa fn ex K) : ∀ x ∈ bnames, mg x = none := bl_ok X G c.d fun x hx => List.mem_append_left _ (List.mem_map_of_mem hx)
theorem cls_all (X : K.In h) (G : h.Ns mainGlobals mg) (c : SaysM fa fn ex K) : ∀ j ∈ (fxOf TS K).ts, mg (cname j) = some (.ref ((fxOf TS K).cA j)) := fun j hj => by
  simp only [fxOf, TS, List.mem_cons, List.not_mem_nil, or_false] at hj
  rcases hj with rfl | rfl | rfl | rfl | rfl | rfl | rfl | rfl | rfl | rfl | rfl | rfl | rfl | rfl | rfl | rfl | rfl
  · exact He.glo_ok X G (c.d.fact 23 rfl)
  · exact He.glo_ok X G (c.d.fact 24 rfl)
  · exact He.glo_ok X G (c.d.fact 25 rfl)
  · exact He.glo_ok X G (c.d.fact 26 rfl)
  · exact He.glo_ok X G (c.d.fact 27 rfl)
  · exact He.glo_ok X G (c.d.fact 28 rfl)
  · exact He.glo_ok X G (c.d.fact 29 rfl)
  · exact He.glo_ok X G (c.d.fact 30 rfl)
  · exact He.glo_ok X G (c.d.fact 31 rfl)
  · exact He.glo_ok X G (c.d.fact 32 rfl)
  · exact He.glo_ok X G (c.d.fact 33 rfl)
  · exact He.glo_ok X G (c.d.fact 34 rfl)
  · exact He.glo_ok X G (c.d.fact 35 rfl)
  · exact He.glo_ok X G (c.d.fact 36 rfl)
  · exact He.glo_ok X G (c.d.fact 37 rfl)
  · exact He.glo_ok X G (c.d.fact 38 rfl)
  · exact He.glo_ok X G (c.d.fact 39 rfl)
theorem ok__law_mix (X : K.In h) (G : h.Ns mainGlobals mg) (c : SaysM fa fn ex K) {fd : FuncData} (F : FunD K d__law_mix.name d__law_mix.qual d__law_mix.params d__law_mix.body d__law_mix.scope (d__law_mix.dvs K) (d__law_mix.kws K) (He.fAd K d__law_mix.at_) fd) : FnOk P w K mg base (CX P w) 1 (He.fAd K d__law_mix.at_) fd ["_law_cell", "_law_k"] (spFn (fxOf TS K) m__law_mix) :=
  def_ok (k := 0) (cx := c__law_mix) (nm := nm__law_mix) (N := N__law_mix) F sc__law_mix mt__law_mix ⟨rfl, bl_all X G c, kitG_ok (ex_at 0 c.more), cls_all X G c, trivial, trivial, trivial, trivial, trivial, trivial, trivial, (fun _ h => nomatch (show _ ∈ ([] : List Nat) from h)), exG_ok (ex_at 1 c.more), rfl, (fun _ h _ _ => nomatch (show _ ∈ ([] : List Nat) from h))⟩
theorem cal__law_mix_2 (X : K.In h) (G : h.Ns mainGlobals mg) (c : SaysM fa fn ex K) : CalT (fxOf TS K) P w K mg base 1 "_law_mix" ⟨m__law_mix, []⟩ := by
  obtain ⟨fd, F⟩ := c.d.def_ 0 (d := d__law_mix) rfl
  exact cal1 F (ok__law_mix X G c F) (He.glo_ok X G (c.d.fact 40 rfl)) (bind0 (F.bindsN fun _ _ _ _ _ _ us hl => match us, hl with | [a0, a1], _ => rfl)) fix_nil
theorem ok__law_pool (X : K.In h) (G : h.Ns mainGlobals mg) (c : SaysM fa fn ex K) {fd : FuncData} (F : FunD K d__law_pool.name d__law_pool.qual d__law_pool.params d__law_pool.body d__law_pool.scope (d__law_pool.dvs K) (d__law_pool.kws K) (He.fAd K d__law_pool.at_) fd) : FnOk P w K mg base (CX P w) 2 (He.fAd K d__law_pool.at_) fd ["_law_cell"] (spFn (fxOf TS K) m__law_pool) :=
  def_ok (k := 1) (cx := c__law_pool) (nm := nm__law_pool) (N := N__law_pool) F sc__law_pool mt__law_pool ⟨rfl, bl_all X G c, kitG_ok (ex_at 0 c.more), cls_all X G c, trivial, ⟨(cal__law_mix_2 X G c).up (by decide), trivial⟩, trivial, trivial, trivial, trivial, trivial, (fun _ h => nomatch (show _ ∈ ([] : List Nat) from h)), exG_ok (ex_at 1 c.more), rfl, (fun _ h _ _ => nomatch (show _ ∈ ([] : List Nat) from h))⟩
theorem ok__law_nth (X : K.In h) (G : h.Ns mainGlobals mg) (c : SaysM fa fn ex K) {fd : FuncData} (F : FunD K d__law_nth.name d__law_nth.qual d__law_nth.params d__law_nth.body d__law_nth.scope (d__law_nth.dvs K) (d__law_nth.kws K) (He.fAd K d__law_nth.at_) fd) : FnOk P w K mg base (CX P w) 1 (He.fAd K d__law_nth.at_) fd ["_law_script", "_law_k"] (spFn (fxOf TS K) m__law_nth) :=
  def_ok (k := 0) (cx := c__law_nth) (nm := nm__law_nth) (N := N__law_nth) F sc__law_nth mt__law_nth ⟨rfl, bl_all X G c, kitG_ok (ex_at 0 c.more), cls_all X G c, trivial, trivial, trivial, trivial, trivial, trivial, trivial, (fun _ h => nomatch (show _ ∈ ([] : List Nat) from h)), exG_ok (ex_at 1 c.more), rfl, (fun _ h _ _ => nomatch (show _ ∈ ([] : List Nat) from h))⟩
theorem ok__law_thing (X : K.In h) (G : h.Ns mainGlobals mg) (c : SaysM fa fn ex K) {fd : FuncData} (F : FunD K d__law_thing.name d__law_thing.qual d__law_thing.params d__law_thing.body d__law_thing.scope (d__law_thing.dvs K) (d__law_thing.kws K) (He.fAd K d__law_thing.at_) fd) : FnOk P w K mg base (CX P w) 1 (He.fAd K d__law_thing.at_) fd ["_law_cell"] (spFn (fxOf TS K) m__law_thing) :=
  def_ok (k := 0) (cx := c__law_thing) (nm := nm__law_thing) (N := N__law_thing) F sc__law_thing mt__law_thing ⟨rfl, bl_all X G c, kitG_ok (ex_at 0 c.more), cls_all X G c, trivial, trivial, trivial, trivial, trivial, trivial, trivial, (fun _ h => nomatch (show _ ∈ ([] : List Nat) from h)), exG_ok (ex_at 1 c.more), rfl, (fun _ h _ _ => nomatch (show _ ∈ ([] : List Nat) from h))⟩
theorem cal__law_thing_1 (X : K.In h) (G : h.Ns mainGlobals mg) (c : SaysM fa fn ex K) : CalT (fxOf TS K) P w K mg base 1 "_law_thing" ⟨m__law_thing, []⟩ := by
  obtain ⟨fd, F⟩ := c.d.def_ 3 (d := d__law_thing) rfl
  exact cal1 F (ok__law_thing X G c F) (He.glo_ok X G (c.d.fact 41 rfl)) (bind0 (F.bindsN fun _ _ _ _ _ _ us hl => match us, hl with | [a0], _ => rfl)) fix_nil
theorem ok__law_items (X : K.In h) (G : h.Ns mainGlobals mg) (c : SaysM fa fn ex K) {fd : FuncData} (F : FunD K d__law_items.name d__law_items.qual d__law_items.params d__law_items.body d__law_items.scope (d__law_items.dvs K) (d__law_items.kws K) (He.fAd K d__law_items.at_) fd) : FnOk P w K mg base (CX P w) 2 (He.fAd K d__law_items.at_) fd ["_law_cells", "_law_pool_here"] (spFn (fxOf TS K) m__law_items) :=
  def_ok (k := 1) (cx := c__law_items) (nm := nm__law_items) (N := N__law_items) F sc__law_items mt__law_items ⟨rfl, bl_all X G c, kitG_ok (ex_at 0 c.more), cls_all X G c, trivial, ⟨(cal__law_thing_1 X G c).up (by decide), trivial⟩, trivial, trivial, trivial, trivial, trivial, (fun _ h => nomatch (show _ ∈ ([] : List Nat) from h)), exG_ok (ex_at 1 c.more), rfl, (fun _ h _ _ => nomatch (show _ ∈ ([] : List Nat) from h))⟩
theorem ok__law_laid (X : K.In h) (G : h.Ns mainGlobals mg) (c : SaysM fa fn ex K) {fd : FuncData} (F : FunD K d__law_laid.name d__law_laid.qual d__law_laid.params d__law_laid.body d__law_laid.scope (d__law_laid.dvs K) (d__law_laid.kws K) (He.fAd K d__law_laid.at_) fd) : FnOk P w K mg base (CX P w) 1 (He.fAd K d__law_laid.at_) fd ["_law_items_here"] (spFn (fxOf TS K) m__law_laid) :=
  def_ok (k := 0) (cx := c__law_laid) (nm := nm__law_laid) (N := N__law_laid) F sc__law_laid mt__law_laid ⟨rfl, bl_all X G c, kitG_ok (ex_at 0 c.more), cls_all X G c, trivial, trivial, trivial, trivial, trivial, trivial, trivial, (fun _ h => nomatch (show _ ∈ ([] : List Nat) from h)), exG_ok (ex_at 1 c.more), rfl, (fun _ h _ _ => nomatch (show _ ∈ ([] : List Nat) from h))⟩
theorem ok__law_change (X : K.In h) (G : h.Ns mainGlobals mg) (c : SaysM fa fn ex K) {fd : FuncData} (F : FunD K d__law_change.name d__law_change.qual d__law_change.params d__law_change.body d__law_change.scope (d__law_change.dvs K) (d__law_change.kws K) (He.fAd K d__law_change.at_) fd) : FnOk P w K mg base (CX P w) 1 (He.fAd K d__law_change.at_) fd ["_law_cell", "_law_pool_here"] (spFn (fxOf TS K) m__law_change) :=
  def_ok (k := 0) (cx := c__law_change) (nm := nm__law_change) (N := N__law_change) F sc__law_change mt__law_change ⟨rfl, bl_all X G c, kitG_ok (ex_at 0 c.more), cls_all X G c, trivial, trivial, trivial, trivial, trivial, trivial, trivial, (fun _ h => nomatch (show _ ∈ ([] : List Nat) from h)), exG_ok (ex_at 1 c.more), rfl, (fun _ h _ _ => nomatch (show _ ∈ ([] : List Nat) from h))⟩
theorem ok__law_behind (X : K.In h) (G : h.Ns mainGlobals mg) (c : SaysM fa fn ex K) {fd : FuncData} (F : FunD K d__law_behind.name d__law_behind.qual d__law_behind.params d__law_behind.body d__law_behind.scope (d__law_behind.dvs K) (d__law_behind.kws K) (He.fAd K d__law_behind.at_) fd) : FnOk P w K mg base (CX P w) 1 (He.fAd K d__law_behind.at_) fd ["_law_things", "_law_pairs", "_law_change_here"] (spFn (fxOf TS K) m__law_behind) :=
  def_ok (k := 0) (cx := c__law_behind) (nm := nm__law_behind) (N := N__law_behind) F sc__law_behind mt__law_behind ⟨rfl, bl_all X G c, kitG_ok (ex_at 0 c.more), cls_all X G c, trivial, trivial, trivial, trivial, trivial, trivial, trivial, (fun _ h => nomatch (show _ ∈ ([] : List Nat) from h)), exG_ok (ex_at 1 c.more), rfl, (fun _ h _ _ => nomatch (show _ ∈ ([] : List Nat) from h))⟩
theorem ok_laid (X : K.In h) (G : h.Ns mainGlobals mg) (c : SaysM fa fn ex K) {fd : FuncData} (F : FunD K d_laid.name d_laid.qual d_laid.params d_laid.body d_laid.scope (d_laid.dvs K) (d_laid.kws K) (He.fAd K d_laid.at_) fd) : FnOk P w K mg base (CX P w) 1 (He.fAd K d_laid.at_) fd ["call"] (spFn (fxOf TS K) m_laid) :=
  def_ok (k := 0) (cx := c_laid) (nm := nm_laid) (N := N_laid) F sc_laid mt_laid ⟨rfl, bl_all X G c, kitG_ok (ex_at 0 c.more), cls_all X G c, trivial, trivial, trivial, trivial, trivial, trivial, trivial, (fun _ h => nomatch (show _ ∈ ([] : List Nat) from h)), exG_ok (ex_at 1 c.more), rfl, (fun _ h _ _ => nomatch (show _ ∈ ([] : List Nat) from h))⟩
theorem ok_without_last (X : K.In h) (G : h.Ns mainGlobals mg) (c : SaysM fa fn ex K) {fd : FuncData} (F : FunD K d_without_last.name d_without_last.qual d_without_last.params d_without_last.body d_without_last.scope (d_without_last.dvs K) (d_without_last.kws K) (He.fAd K d_without_last.at_) fd) : FnOk P w K mg base (CX P w) 1 (He.fAd K d_without_last.at_) fd ["pairs", "name"] (spFn (fxOf TS K) m_without_last) :=
  def_ok (k := 0) (cx := c_without_last) (nm := nm_without_last) (N := N_without_last) F sc_without_last mt_without_last ⟨rfl, bl_all X G c, kitG_ok (ex_at 0 c.more), cls_all X G c, trivial, trivial, trivial, trivial, trivial, trivial, trivial, (fun _ h => nomatch (show _ ∈ ([] : List Nat) from h)), exG_ok (ex_at 1 c.more), rfl, (fun _ h _ _ => nomatch (show _ ∈ ([] : List Nat) from h))⟩
theorem ok_call_of (X : K.In h) (G : h.Ns mainGlobals mg) (c : SaysM fa fn ex K) {fd : FuncData} (F : FunD K d_call_of.name d_call_of.qual d_call_of.params d_call_of.body d_call_of.scope (d_call_of.dvs K) (d_call_of.kws K) (He.fAd K d_call_of.at_) fd) : FnOk P w K mg base (CX P w) 1 (He.fAd K d_call_of.at_) fd ["things", "pairs"] (spFn (fxOf TS K) m_call_of) :=
  def_ok (k := 0) (cx := c_call_of) (nm := nm_call_of) (N := N_call_of) F sc_call_of mt_call_of ⟨rfl, bl_all X G c, kitG_ok (ex_at 0 c.more), cls_all X G c, trivial, trivial, trivial, trivial, trivial, trivial, trivial, (fun _ h => nomatch (show _ ∈ ([] : List Nat) from h)), exG_ok (ex_at 1 c.more), rfl, (fun _ h _ _ => nomatch (show _ ∈ ([] : List Nat) from h))⟩
theorem cal_laid_1 (X : K.In h) (G : h.Ns mainGlobals mg) (c : SaysM fa fn ex K) : CalT (fxOf TS K) P w K mg base 1 "laid" ⟨m_laid, []⟩ := by
  obtain ⟨fd, F⟩ := c.d.def_ 8 (d := d_laid) rfl
  exact cal1 F (ok_laid X G c F) (He.glo_ok X G (c.d.fact 42 rfl)) (bind0 (F.bindsN fun _ _ _ _ _ _ us hl => match us, hl with | [a0], _ => rfl)) fix_nil
theorem cal_without_last_2 (X : K.In h) (G : h.Ns mainGlobals mg) (c : SaysM fa fn ex K) : CalT (fxOf TS K) P w K mg base 1 "without_last" ⟨m_without_last, []⟩ := by
  obtain ⟨fd, F⟩ := c.d.def_ 9 (d := d_without_last) rfl
  exact cal1 F (ok_without_last X G c F) (He.glo_ok X G (c.d.fact 43 rfl)) (bind0 (F.bindsN fun _ _ _ _ _ _ us hl => match us, hl with | [a0, a1], _ => rfl)) fix_nil
theorem cal_call_of_2 (X : K.In h) (G : h.Ns mainGlobals mg) (c : SaysM fa fn ex K) : CalT (fxOf TS K) P w K mg base 1 "call_of" ⟨m_call_of, []⟩ := by
  obtain ⟨fd, F⟩ := c.d.def_ 10 (d := d_call_of) rfl
  exact cal1 F (ok_call_of X G c F) (He.glo_ok X G (c.d.fact 44 rfl)) (bind0 (F.bindsN fun _ _ _ _ _ _ us hl => match us, hl with | [a0, a1], _ => rfl)) fix_nil
theorem ok_changed (X : K.In h) (G : h.Ns mainGlobals mg) (c : SaysM fa fn ex K) {fd : FuncData} (F : FunD K d_changed.name d_changed.qual d_changed.params d_changed.body d_changed.scope (d_changed.dvs K) (d_changed.kws K) (He.fAd K d_changed.at_) fd) : FnOk P w K mg base (CX P w) 2 (He.fAd K d_changed.at_) fd ["call", "change"] (spFn (fxOf TS K) m_changed) :=
  def_ok (k := 1) (cx := c_changed) (nm := nm_changed) (N := N_changed) F sc_changed mt_changed ⟨rfl, bl_all X G c, kitG_ok (ex_at 0 c.more), cls_all X G c, trivial, ⟨(cal_laid_1 X G c).up (by decide), (cal_without_last_2 X G c).up (by decide), (cal_call_of_2 X G c).up (by decide), trivial⟩, trivial, trivial, trivial, trivial, trivial, (fun _ h => nomatch (show _ ∈ ([] : List Nat) from h)), exG_ok (ex_at 1 c.more), rfl, (fun _ h _ _ => nomatch (show _ ∈ ([] : List Nat) from h))⟩
theorem tab__law_other (X : K.In h) (G : h.Ns mainGlobals mg) (c : SaysM fa fn ex K) : Tab (fxOf TS K) P w K mg base 0 c__law_other nm__law_other :=
  ⟨rfl, bl_all X G c, kitG_ok (ex_at 0 c.more), cls_all X G c, trivial, trivial, trivial, trivial, trivial, trivial, trivial, (fun _ h => nomatch (show _ ∈ ([] : List Nat) from h)), exG_ok (ex_at 1 c.more), rfl, (fun _ h _ _ => nomatch (show _ ∈ ([] : List Nat) from h))⟩
theorem okh__law_other (X : K.In h) (G : h.Ns mainGlobals mg) (c : SaysM fa fn ex K) {fd : FuncData} (F : FunD K d__law_other.name d__law_other.qual d__law_other.params d__law_other.body d__law_other.scope (d__law_other.dvs K) (d__law_other.kws K) (He.fAd K d__law_other.at_) fd) (e : Addr × Nat × Option Addr) : FnX P w K mg base (CX P w) 1 (He.fAd K d__law_other.at_) fd ["_law_e"] (PinE (fxOf TS K) e) (spFn ((fxOf TS K).wx (some e)) m__law_other) :=
  def_okH (k := 0) (cx := c__law_other) (nm := nm__law_other) (N := N__law_other) F sc__law_other mth__law_other (tab__law_other X G c) e
theorem ok__law_other (X : K.In h) (G : h.Ns mainGlobals mg) (c : SaysM fa fn ex K) {fd : FuncData} (F : FunD K d__law_other.name d__law_other.qual d__law_other.params d__law_other.body d__law_other.scope (d__law_other.dvs K) (d__law_other.kws K) (He.fAd K d__law_other.at_) fd) : FnOk P w K mg base (CX P w) 1 (He.fAd K d__law_other.at_) fd ["_law_e"] (spFn (fxOf TS K) m__law_other) :=
  def_ok (k := 0) (cx := c__law_other) (nm := nm__law_other) (N := N__law_other) F sc__law_other mt__law_other ⟨rfl, bl_all X G c, kitG_ok (ex_at 0 c.more), cls_all X G c, trivial, trivial, trivial, trivial, trivial, trivial, trivial, (fun _ h => nomatch (show _ ∈ ([] : List Nat) from h)), exG_ok (ex_at 1 c.more), rfl, (fun _ h _ _ => nomatch (show _ ∈ ([] : List Nat) from h))⟩
theorem cal_changed_2 (X : K.In h) (G : h.Ns mainGlobals mg) (c : SaysM fa fn ex K) : CalT (fxOf TS K) P w K mg base 2 "changed" ⟨m_changed, []⟩ := by
  obtain ⟨fd, F⟩ := c.d.def_ 11 (d := d_changed) rfl
  exact cal1 F (ok_changed X G c F) (He.glo_ok X G (c.d.fact 45 rfl)) (bind0 (F.bindsN fun _ _ _ _ _ _ us hl => match us, hl with | [a0, a1], _ => rfl)) fix_nil
theorem cal__law_other_1 (X : K.In h) (G : h.Ns mainGlobals mg) (c : SaysM fa fn ex K) : CalT (fxOf TS K) P w K mg base 1 "_law_other" ⟨m__law_other, []⟩ := by
  obtain ⟨fd, F⟩ := c.d.def_ 12 (d := d__law_other) rfl
  exact cal1 F (ok__law_other X G c F) (He.glo_ok X G (c.d.fact 46 rfl)) (bind0 (F.bindsN fun _ _ _ _ _ _ us hl => match us, hl with | [a0], _ => rfl)) fix_nil
theorem hot__law_other_1 (X : K.In h) (G : h.Ns mainGlobals mg) (c : SaysM fa fn ex K) : HotT (fxOf TS K) P w K mg base 1 "_law_other" ⟨m__law_other, []⟩ := by
  obtain ⟨fd, F⟩ := c.d.def_ 12 (d := d__law_other) rfl
  exact hot1 F (okh__law_other X G c F) (He.glo_ok X G (c.d.fact 46 rfl)) (bind0 (F.bindsN fun _ _ _ _ _ _ us hl => match us, hl with | [a0], _ => rfl)) fix_nil
theorem ok__law_asked (X : K.In h) (G : h.Ns mainGlobals mg) (c : SaysM fa fn ex K) {fd : FuncData} (F : FunD K d__law_asked.name d__law_asked.qual d__law_asked.params d__law_asked.body d__law_asked.scope (d__law_asked.dvs K) (d__law_asked.kws K) (He.fAd K d__law_asked.at_) fd) : FnOk P w K mg base (CX P w) 3 (He.fAd K d__law_asked.at_) fd ["_law_handed", "_law_change_here"] (spFn (fxOf TS K) m__law_asked) :=
  def_ok (k := 2) (cx := c__law_asked) (nm := nm__law_asked) (N := N__law_asked) F sc__law_asked mt__law_asked ⟨rfl, bl_all X G c, kitG_ok (ex_at 0 c.more), cls_all X G c, trivial, ⟨(cal_changed_2 X G c).up (by decide), (cal__law_other_1 X G c).up (by decide), trivial⟩, trivial, trivial, trivial, trivial, trivial, (fun _ h => nomatch (show _ ∈ ([] : List Nat) from h)), exG_ok (ex_at 1 c.more), rfl, (fun i hi x hx => by
      have hi : i ∈ ([1] : List Nat) := hi
      simp only [List.mem_cons, List.not_mem_nil, or_false] at hi
      rcases hi with rfl
      · obtain rfl := Option.some.inj hx
        exact ⟨_, rfl, (hot__law_other_1 X G c).up (by decide)⟩)⟩
theorem ok__law_is_number (X : K.In h) (G : h.Ns mainGlobals mg) (c : SaysM fa fn ex K) {fd : FuncData} (F : FunD K d__law_is_number.name d__law_is_number.qual d__law_is_number.params d__law_is_number.body d__law_is_number.scope (d__law_is_number.dvs K) (d__law_is_number.kws K) (He.fAd K d__law_is_number.at_) fd) : FnOk P w K mg base (CX P w) 1 (He.fAd K d__law_is_number.at_) fd ["_law_found"] (spFn (fxOf TS K) m__law_is_number) :=
  def_ok (k := 0) (cx := c__law_is_number) (nm := nm__law_is_number) (N := N__law_is_number) F sc__law_is_number mt__law_is_number ⟨rfl, bl_all X G c, kitG_ok (ex_at 0 c.more), cls_all X G c, trivial, trivial, trivial, trivial, trivial, trivial, trivial, (fun _ h => nomatch (show _ ∈ ([] : List Nat) from h)), exG_ok (ex_at 1 c.more), rfl, (fun _ h _ _ => nomatch (show _ ∈ ([] : List Nat) from h))⟩
theorem cal__law_is_number_1 (X : K.In h) (G : h.Ns mainGlobals mg) (c : SaysM fa fn ex K) : CalT (fxOf TS K) P w K mg base 1 "_law_is_number" ⟨m__law_is_number, []⟩ := by
  obtain ⟨fd, F⟩ := c.d.def_ 14 (d := d__law_is_number) rfl
  exact cal1 F (ok__law_is_number X G c F) (He.glo_ok X G (c.d.fact 47 rfl)) (bind0 (F.bindsN fun _ _ _ _ _ _ us hl => match us, hl with | [a0], _ => rfl)) fix_nil
theorem ok__law_is_call (X : K.In h) (G : h.Ns mainGlobals mg) (c : SaysM fa fn ex K) {fd : FuncData} (F : FunD K d__law_is_call.name d__law_is_call.qual d__law_is_call.params d__law_is_call.body d__law_is_call.scope (d__law_is_call.dvs K) (d__law_is_call.kws K) (He.fAd K d__law_is_call.at_) fd) : FnOk P w K mg base (CX P w) 2 (He.fAd K d__law_is_call.at_) fd ["_law_found", "_law_due"] (spFn (fxOf TS K) m__law_is_call) :=
  def_ok (k := 1) (cx := c__law_is_call) (nm := nm__law_is_call) (N := N__law_is_call) F sc__law_is_call mt__law_is_call ⟨rfl, bl_all X G c, kitG_ok (ex_at 0 c.more), cls_all X G c, trivial, ⟨(cal__law_is_number_1 X G c).up (by decide), trivial⟩, trivial, trivial, trivial, trivial, trivial, (fun _ h => nomatch (show _ ∈ ([] : List Nat) from h)), exG_ok (ex_at 1 c.more), rfl, (fun _ h _ _ => nomatch (show _ ∈ ([] : List Nat) from h))⟩
theorem ok__law_flat (X : K.In h) (G : h.Ns mainGlobals mg) (c : SaysM fa fn ex K) {fd : FuncData} (F : FunD K d__law_flat.name d__law_flat.qual d__law_flat.params d__law_flat.body d__law_flat.scope (d__law_flat.dvs K) (d__law_flat.kws K) (He.fAd K d__law_flat.at_) fd) : FnOk P w K mg base (CX P w) 1 (He.fAd K d__law_flat.at_) fd ["_law_things", "_law_pairs"] (spFn (fxOf TS K) m__law_flat) :=
  def_ok (k := 0) (cx := c__law_flat) (nm := nm__law_flat) (N := N__law_flat) F sc__law_flat mt__law_flat ⟨rfl, bl_all X G c, kitG_ok (ex_at 0 c.more), cls_all X G c, trivial, trivial, trivial, trivial, trivial, trivial, trivial, (fun _ h => nomatch (show _ ∈ ([] : List Nat) from h)), exG_ok (ex_at 1 c.more), rfl, (fun _ h _ _ => nomatch (show _ ∈ ([] : List Nat) from h))⟩
theorem cal__law_pool_1 (X : K.In h) (G : h.Ns mainGlobals mg) (c : SaysM fa fn ex K) : CalT (fxOf TS K) P w K mg base 2 "_law_pool" ⟨m__law_pool, []⟩ := by
  obtain ⟨fd, F⟩ := c.d.def_ 1 (d := d__law_pool) rfl
  exact cal1 F (ok__law_pool X G c F) (He.glo_ok X G (c.d.fact 48 rfl)) (bind0 (F.bindsN fun _ _ _ _ _ _ us hl => match us, hl with | [a0], _ => rfl)) fix_nil
theorem cal__law_nth_2 (X : K.In h) (G : h.Ns mainGlobals mg) (c : SaysM fa fn ex K) : CalT (fxOf TS K) P w K mg base 1 "_law_nth" ⟨m__law_nth, []⟩ := by
  obtain ⟨fd, F⟩ := c.d.def_ 2 (d := d__law_nth) rfl
  exact cal1 F (ok__law_nth X G c F) (He.glo_ok X G (c.d.fact 49 rfl)) (bind0 (F.bindsN fun _ _ _ _ _ _ us hl => match us, hl with | [a0, a1], _ => rfl)) fix_nil
theorem cal__law_items_2 (X : K.In h) (G : h.Ns mainGlobals mg) (c : SaysM fa fn ex K) : CalT (fxOf TS K) P w K mg base 2 "_law_items" ⟨m__law_items, []⟩ := by
  obtain ⟨fd, F⟩ := c.d.def_ 4 (d := d__law_items) rfl
  exact cal1 F (ok__law_items X G c F) (He.glo_ok X G (c.d.fact 50 rfl)) (bind0 (F.bindsN fun _ _ _ _ _ _ us hl => match us, hl with | [a0, a1], _ => rfl)) fix_nil
theorem cal__law_laid_1 (X : K.In h) (G : h.Ns mainGlobals mg) (c : SaysM fa fn ex K) : CalT (fxOf TS K) P w K mg base 1 "_law_laid" ⟨m__law_laid, []⟩ := by
  obtain ⟨fd, F⟩ := c.d.def_ 5 (d := d__law_laid) rfl
  exact cal1 F (ok__law_laid X G c F) (He.glo_ok X G (c.d.fact 51 rfl)) (bind0 (F.bindsN fun _ _ _ _ _ _ us hl => match us, hl with | [a0], _ => rfl)) fix_nil
theorem cal__law_change_2 (X : K.In h) (G : h.Ns mainGlobals mg) (c : SaysM fa fn ex K) : CalT (fxOf TS K) P w K mg base 1 "_law_change" ⟨m__law_change, []⟩ := by
  obtain ⟨fd, F⟩ := c.d.def_ 6 (d := d__law_change) rfl
  exact cal1 F (ok__law_change X G c F) (He.glo_ok X G (c.d.fact 52 rfl)) (bind0 (F.bindsN fun _ _ _ _ _ _ us hl => match us, hl with | [a0, a1], _ => rfl)) fix_nil
theorem cal__law_behind_3 (X : K.In h) (G : h.Ns mainGlobals mg) (c : SaysM fa fn ex K) : CalT (fxOf TS K) P w K mg base 1 "_law_behind" ⟨m__law_behind, []⟩ := by
  obtain ⟨fd, F⟩ := c.d.def_ 7 (d := d__law_behind) rfl
  exact cal1 F (ok__law_behind X G c F) (He.glo_ok X G (c.d.fact 53 rfl)) (bind0 (F.bindsN fun _ _ _ _ _ _ us hl => match us, hl with | [a0, a1, a2], _ => rfl)) fix_nil
theorem cal__law_asked_2 (X : K.In h) (G : h.Ns mainGlobals mg) (c : SaysM fa fn ex K) : CalT (fxOf TS K) P w K mg base 3 "_law_asked" ⟨m__law_asked, []⟩ := by
  obtain ⟨fd, F⟩ := c.d.def_ 13 (d := d__law_asked) rfl
  exact cal1 F (ok__law_asked X G c F) (He.glo_ok X G (c.d.fact 54 rfl)) (bind0 (F.bindsN fun _ _ _ _ _ _ us hl => match us, hl with | [a0, a1], _ => rfl)) fix_nil
theorem cal__law_is_call_2 (X : K.In h) (G : h.Ns mainGlobals mg) (c : SaysM fa fn ex K) : CalT (fxOf TS K) P w K mg base 2 "_law_is_call" ⟨m__law_is_call, []⟩ := by
  obtain ⟨fd, F⟩ := c.d.def_ 15 (d := d__law_is_call) rfl
  exact cal1 F (ok__law_is_call X G c F) (He.glo_ok X G (c.d.fact 55 rfl)) (bind0 (F.bindsN fun _ _ _ _ _ _ us hl => match us, hl with | [a0, a1], _ => rfl)) fix_nil
theorem cal__law_flat_2 (X : K.In h) (G : h.Ns mainGlobals mg) (c : SaysM fa fn ex K) : CalT (fxOf TS K) P w K mg base 1 "_law_flat" ⟨m__law_flat, []⟩ := by
  obtain ⟨fd, F⟩ := c.d.def_ 16 (d := d__law_flat) rfl
  exact cal1 F (ok__law_flat X G c F) (He.glo_ok X G (c.d.fact 56 rfl)) (bind0 (F.bindsN fun _ _ _ _ _ _ us hl => match us, hl with | [a0, a1], _ => rfl)) fix_nil
theorem ok_law (X : K.In h) (G : h.Ns mainGlobals mg) (c : SaysM fa fn ex K) {fd : FuncData} (F : FunD K d_law.name d_law.qual d_law.params d_law.body d_law.scope (d_law.dvs K) (d_law.kws K) (He.fAd K d_law.at_) fd) : FnOk P w K mg base (CX P w) 4 (He.fAd K d_law.at_) fd ["_law_script"] (spFn (fxOf TS K) m_law) :=
  def_ok (k := 3) (cx := c_law) (nm := nm_law) (N := N_law) F sc_law mt_law ⟨rfl, bl_all X G c, kitG_ok (ex_at 0 c.more), cls_all X G c, trivial, ⟨(cal__law_pool_1 X G c).up (by decide), (cal__law_nth_2 X G c).up (by decide), (cal__law_items_2 X G c).up (by decide), (cal__law_laid_1 X G c).up (by decide), (cal__law_change_2 X G c).up (by decide), (cal__law_behind_3 X G c).up (by decide), (cal__law_asked_2 X G c).up (by decide), (cal__law_is_call_2 X G c).up (by decide), (cal__law_flat_2 X G c).up (by decide), (cal_changed_2 X G c).up (by decide), trivial⟩, trivial, trivial, trivial, trivial, trivial, (fun _ h => nomatch (show _ ∈ ([] : List Nat) from h)), exG_ok (ex_at 1 c.more), rfl, (fun _ h _ _ => nomatch (show _ ∈ ([] : List Nat) from h))⟩
theorem facts (X : K.In h) (G : h.Ns mainGlobals mg) (c : SaysM fa fn ex K) {f : Addr} (hfa : mg ("law" : Str) = some (.ref f)) :
    ∃ fd : FuncData, (∀ (s : Shared) (v : Value), BindsTo s fd ⟨[v], []⟩ [("_law_script", v)]) ∧ ∀ base : Heap, FnOk P w K mg base (CX P w) 4 f fd ["_law_script"] (spFn (fxOf TS K) m_law) := by
  obtain ⟨fd, F⟩ := c.d.def_ 17 (d := d_law) rfl
  have e := hfa.symm.trans (He.glo_ok X G (c.d.fact 57 rfl))
  cases e
  have b := FunD.bindsA (ps := ["_law_script"]) F fun _ _ _ _ _ _ us hl => match us, hl with | [_], _ => rfl
  exact ⟨fd, fun s v => b s [v] rfl, fun base => ok_law X G c F⟩
end
abbrev Rw0 : PySem.W.OpenRow := PySem.W.OpenLaw.row PySem.Challenge.rw_callbinds_k31_changes_one_by_one
def loose0 : List PySem.Str := ["laid", "call_of", "CallError", "NoName", "TooMany", "BadOrder", "Twice", "NoChange", "NoDefault", "NoText", "NoRow", "Unknown", "Misfit", "Doubled", "Over", "Barred", "Again", "Strange", "Lacking", "without_last", "changed", "_law_nth", "_law_is_number", "_law_mix"]
def loose1 : List PySem.Str := ["_law_pool", "_law_thing", "_law_items", "_law_laid", "_law_change", "_law_behind", "_law_other", "_law_asked", "_law_flat", "_law_is_call"]
def loose : List PySem.Str := loose0 ++ loose1
abbrev hk : PySem.W.Hook := hookM 4 fa fn ex
def ob (s : PySem.W.SharedT) : AlM := obsM 4 fa fn ex (HandSHeadRun.getT s)
theorem ob_eq (s : PySem.W.SharedT) : ob s = hk.obs s.abs := obsM_eq (HandSHeadRun.getT_eq s)
theorem run (w : World) : HandSHeadRun.RunEq Rw0 (PySem.W.view Rw0.prog [38]) hk ob 20000 loose w := by
  intro os
  kernel_rfl
end Lk31
set_option Elab.async false
set_option linter.all false
set_option maxRecDepth 100000
set_option maxHeartbeats 0
open PySem PySem.W PySem.Calls PyProof.Rows
theorem PySem.Challenge.cw_callbinds_k31_changes_one_by_one_holds : PySem.Challenge.rw_callbinds_k31_changes_one_by_one.Holds := by
  w_on; o_law
  refine HandSHeadRun.head_any (r := OpenLaw.row PySem.Challenge.rw_callbinds_k31_changes_one_by_one) (q := view (OpenLaw.row PySem.Challenge.rw_callbinds_k31_changes_one_by_one).prog [38]) (H := Lk31.hk) (ob := Lk31.ob) (M := 20000) (loose := Lk31.loose) (d := HandSHeadRun.topDef (OpenLaw.row PySem.Challenge.rw_callbinds_k31_changes_one_by_one).prog 38) (kwd := []) Lk31.ob_eq
    (by kernel_rfl) (fun s => by kernel_rfl) Lk31.run (by kernel_rfl) (by kernel_rfl) (by kernel_rfl) (by rfl) (by first | assumption | decide +kernel) (by decide +kernel) ⟨rfl, rfl, rfl, rfl, rfl, by decide +kernel⟩ ?hw ?hc
  case hw => w_witness2
  case hc =>
    refine Mn.walk_EB (l := PySem.Challenge.rw_callbinds_k31_changes_one_by_one) (n := 63) (k := 4) (x := "_law_script") rfl (by decide) (by kernel_rfl) ⟨rfl, by decide, by decide⟩ ?F
    intro w mg fa h Y G hmg0
    obtain ⟨K, KX, c⟩ := Y
    have hmg : mg ("law" : PySem.Str) = some (.ref fa) := by
      have e : (HandSHeadRun.topDef (OpenLaw.row PySem.Challenge.rw_callbinds_k31_changes_one_by_one).prog 38).name = ("law" : PySem.Str) := by kernel_rfl
      rw [← e]
      exact hmg0
    obtain ⟨fd, hb, hF⟩ := Lk31.facts (P := (PySem.Challenge.rw_callbinds_k31_changes_one_by_one).prog) (w := w) KX G c hmg
    exact ⟨K, fd, Mn.fxOf Lk31.TS K, Lk31.m_law, rfl, KX, hb, Lk31.plain, fun base _ _ => hF base⟩
