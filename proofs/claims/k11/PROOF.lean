import PyProof.Rows.All
import Wide.All
import OpenK.AllK
import Wide.FinOn
import PySem.Challenge.RW_choirtrue_k11_overlaps_and_parts
import HandS.ForMost
import HandS.ForExc
import HandS.TryMany
import HandS.CallSlots
import HandS.Deep
import HandS.Zip
import HandS.Conv
import HandS.IsInst
import HandS.Wide
import HandS.Flow
import HandS.More
import HandS.Style
import HandS.TupAny
import HandS.SetKeys
import HandS.ExcField
import HandS.ExcIs
import HandS.ExcInit
import HandS.RaiseMore
import HandS.ExcValue
import KE.DataEq
import PyProof.ReprRoads
import HandS.HeadWalk
import HandS.WordsDict
import HandS.SortInts
import HandS.Codes
import KE.DataMinMax
import PyProof.WalkInts
import KE.GoesMore
import HandS.Small
import HandS.Ends
import PyProof.ReprLen
set_option Elab.async false
set_option linter.all false
set_option autoImplicit false
/-! The evaluator: values, own syntax, what it computes. Plain Lean. -/
namespace CT

/-- a dict's key -/
inductive Ky where
  | i (n : Int) | s (t : List Nat)
  deriving DecidableEq, Repr, Inhabited

/-- a value: data by value (lst, dct, obj: never changed again), a mutable object by its place in the store -/
inductive D where
  | non | bl (b : Bool) | int (i : Int) | str (s : List Nat)
  | tup (ds : List D) | lst (ds : List D) | dct (kvs : List (Ky × D)) | obj (c : Nat) (fs : List D)
  | exc (c : Nat) (pl : List D) | fn (f : Nat) | ref (a : Nat)
  deriving Repr, Inhabited

/-- a mutable object -/
inductive O where
  | lst (ds : List D) | dct (kvs : List (Ky × D)) | ins (c : Nat) (fs : List D)
  deriving Repr, Inhabited

mutual
def D.same : D → D → Bool
  | .non, .non => true
  | .bl a, .bl b => a == b
  | .int a, .int b => a == b
  | .str a, .str b => a == b
  | .tup a, .tup b => D.sames a b
  | .lst a, .lst b => D.sames a b
  | .dct a, .dct b => D.samek a b
  | .obj c a, .obj d b => c == d && D.sames a b
  | .exc c a, .exc d b => c == d && D.sames a b
  | .ref a, .ref b => a == b
  | .fn a, .fn b => a == b
  | _, _ => false
def D.sames : List D → List D → Bool
  | [], [] => true
  | x :: xs, y :: ys => D.same x y && D.sames xs ys
  | _, _ => false
def D.samek : List (Ky × D) → List (Ky × D) → Bool
  | [], [] => true
  | (k, x) :: xs, (l, y) :: ys => decide (k = l) && D.same x y && D.samek xs ys
  | _, _ => false
end
mutual
theorem D.same_iff : ∀ a b : D, D.same a b = true ↔ a = b
  | .non, b => by cases b <;> simp [D.same]
  | .bl a, b => by cases b <;> simp [D.same]
  | .int a, b => by cases b <;> simp [D.same]
  | .str a, b => by cases b <;> simp [D.same]
  | .tup a, b => by cases b <;> simp [D.same, D.sames_iff]
  | .lst a, b => by cases b <;> simp [D.same, D.sames_iff]
  | .dct a, b => by cases b <;> simp [D.same, D.samek_iff]
  | .obj c a, b => by cases b <;> simp [D.same, D.sames_iff]
  | .exc c a, b => by cases b <;> simp [D.same, D.sames_iff]
  | .ref a, b => by cases b <;> simp [D.same]
  | .fn a, b => by cases b <;> simp [D.same]
theorem D.sames_iff : ∀ a b : List D, D.sames a b = true ↔ a = b
  | [], b => by cases b <;> simp [D.sames]
  | x :: xs, b => by cases b <;> simp [D.sames, D.same_iff, D.sames_iff]
theorem D.samek_iff : ∀ a b : List (Ky × D), D.samek a b = true ↔ a = b
  | [], b => by cases b <;> simp [D.samek]
  | (k, x) :: xs, b => by
    cases b with
    | nil => simp [D.samek]
    | cons y ys => obtain ⟨l, y⟩ := y; simp [D.samek, D.same_iff, D.samek_iff, and_assoc]
end
instance : DecidableEq D := fun a b => decidable_of_iff _ (D.same_iff a b)
def O.same : O → O → Bool
  | .lst a, .lst b => D.sames a b
  | .dct a, .dct b => D.samek a b
  | .ins c a, .ins d b => c == d && D.sames a b
  | _, _ => false
theorem O.same_iff : ∀ a b : O, O.same a b = true ↔ a = b
  | .lst a, b => by cases b <;> simp [O.same, D.sames_iff]
  | .dct a, b => by cases b <;> simp [O.same, D.samek_iff]
  | .ins c a, b => by cases b <;> simp [O.same, D.sames_iff]
instance : DecidableEq O := fun a b => decidable_of_iff _ (O.same_iff a b)

abbrev Store := List O
abbrev Env := List (Option D)
/-- the greatest size of lists and texts -/
abbrev LIM : Nat := 16777216

mutual
/-- no place of the store in it -/
def D.pure : D → Bool
  | .non => true | .bl _ => true | .int _ => true | .str _ => true | .fn _ => true
  | .tup ds => D.pures ds | .lst ds => D.pures ds | .dct kvs => D.purek kvs | .obj _ fs => D.pures fs | .exc _ pl => D.pures pl
  | .ref _ => false
def D.pures : List D → Bool
  | [] => true
  | d :: ds => d.pure && D.pures ds
def D.purek : List (Ky × D) → Bool
  | [] => true
  | (_, d) :: ds => d.pure && D.purek ds
end
def O.pure : O → Bool
  | .lst ds => D.pures ds
  | .dct kvs => D.purek kvs
  | .ins _ fs => D.pures fs

mutual
/-- None, truths, numbers, texts, lists and tuples of these, at most so deep -/
def D.plain : Nat → D → Bool
  | _, .non => true | _, .bl _ => true | _, .int _ => true | _, .str _ => true
  | n + 1, .tup ds => D.plains n ds
  | n + 1, .lst ds => D.plains n ds
  | _, _ => false
def D.plains : Nat → List D → Bool
  | _, [] => true
  | n, d :: ds => D.plain n d && D.plains n ds
end

mutual
/-- Python's == of plain data -/
def D.eqv : D → D → Bool
  | .non, .non => true
  | .bl a, .bl b => a == b
  | .bl a, .int b => (if a then 1 else 0) == b
  | .int a, .bl b => a == (if b then 1 else 0)
  | .int a, .int b => a == b
  | .str a, .str b => a == b
  | .tup a, .tup b => D.eqvs a b
  | .lst a, .lst b => D.eqvs a b
  | _, _ => false
def D.eqvs : List D → List D → Bool
  | [], [] => true
  | x :: xs, y :: ys => D.eqv x y && D.eqvs xs ys
  | _, _ => false
end

/-! ### results -/
inductive R (α : Type) where
  | ok (a : α) (st : Store) | ex (c : Nat) (pl : List D) (st : Store) | bad
  deriving Repr
def R.bind {α β : Type} (r : R α) (f : α → Store → R β) : R β := match r with
  | .ok a st => f a st
  | .ex c pl st => .ex c pl st
  | .bad => .bad
def R.of {α : Type} (o : Option α) (st : Store) : R α := match o with
  | some a => .ok a st
  | none => .bad
/-- what a statement comes to -/
inductive SR where
  | nx (σ : Env) (st : Store) | rt (d : D) (st : Store) | ex (c : Nat) (pl : List D) (σ : Env) (st : Store) | bad
  deriving Repr
def SR.of {α : Type} (r : R α) (σ : Env) (f : α → Store → SR) : SR := match r with
  | .ok a st => f a st
  | .ex c pl st => .ex c pl σ st
  | .bad => .bad
def SR.seq (r : SR) (f : Env → Store → SR) : SR := match r with
  | .nx σ st => f σ st
  | r => r

/-! ### the syntax -/
inductive Bop | add | sub | mul | fdiv | mod | pow deriving DecidableEq, Repr
inductive Cop | eq | ne | lt | le | gt | ge | isin | notin deriving DecidableEq, Repr
inductive Ty | int | str | tup | lst | bool | dct | base | exc (c : Nat) deriving DecidableEq, Repr
inductive Bi | len | max2 | min2 | max1 | min1 | sum | all | any | abs | int | str | repr | sorted | tuple | list | dict | lenset | zip deriving DecidableEq, Repr
inductive Bm | join | get | get2 | append | reverse | pop | clear | update | setdef | index | replace | split deriving DecidableEq, Repr
/-- the built-ins that the proofs cover -/
def biS : Bi → Bool
  | .lenset => false | .zip => false | _ => true
/-- a target: a name, a tuple of targets -/
inductive G | nm (i : Nat) | tp (gs : List G)
  deriving Repr
mutual
inductive E
  | no | var (i : Nat) | non | bl (b : Bool) | int (i : Int) | str (s : List Nat)
  | tup (es : Es) | lst (m : Bool) (es : Es) | dct (m : Bool) (kvs : Kv)
  | bin (m : Bool) (o : Bop) (a b : E) | rpl (m : Bool) (es : Es) (n : E) | neg (a : E) | nt (a : E)
  | cmp (o : Cop) (a b : E) | chn (o p : Cop) (a b c : E) | isn (y : Bool) (a : E) | isb (y c : Bool) (a : E)
  | andE (a b : E) | orE (a b : E) | ife (c a b : E)
  | idx (a b : E) | slc (m : Bool) (a lo hi : E) | stp (m : Bool) (a : E) (k : Int)
  | atr (a : E) (f : Nat)
  | call (f : Nat) (es : Es) | mth (a : E) (n : Nat) (es : Es) | mk (z : Bool) (c : Nat) (es : Es)
  | bi (m : Bool) (b : Bi) (es : Es) | bm (m : Bool) (b : Bm) (a : E) (es : Es)
  | isi (a : E) (t : Ty)
  | lc (m : Bool) (el : E) (tg : G) (it : I) (c : E)
  | glb (g : Nat) | fnv (f : Nat) | clv (i : Nat) (es : Es)
inductive Es | nil | cons (e : E) (r : Es)
inductive Kv | nil | cons (k v : E) (r : Kv)
/-- what is walked -/
inductive I | seq (e : E) | rng1 (a : E) | rng2 (a b : E) | rng3 (a b c : E) | zip (a b : E) | enm (a : E) | rev (a : E) | itm (a : E) | vls (a : E)
end
def E.isNo : E → Bool
  | .no => true
  | _ => false
/-- a target of an assignment -/
inductive Tg | g (g : G) | sub (a i : E) | fld (a : E) (f : Nat)
mutual
inductive S
  | asg (t : Tg) (e : E) | par (i j : Nat) (a b : E) | exp (e : E) | ret (e : E) | iff (c : E) (a b : Ss)
  | fr (g : G) (it : I) (b : Ss) | whl (c : E) (b : Ss) | rse (c : Nat) (es : Es) | tr (b : Ss) (hs : Hs) | pss
inductive Ss | nil | cons (s : S) (r : Ss)
inductive Hs | nil | cons (c : Nat) (i : Option Nat) (b : Ss) (r : Hs)
end

/-! ### operations -/
/-- an object at a place is looked at as data -/
def look (st : Store) : D → D
  | .ref a => match st[a]? with
    | some (.lst ds) => .lst ds
    | some (.dct kvs) => .dct kvs
    | some (.ins c fs) => .obj c fs
    | none => .ref a
  | d => d
def allSome {α : Type} : List (Option α) → Option (List α)
  | [] => some []
  | none :: _ => none
  | some a :: r => (allSome r).map (a :: ·)
def fzO (f : D → Option D) : O → Option D
  | .lst ds => (allSome (ds.map f)).map .lst
  | .dct kvs => (allSome (kvs.map fun p => (f p.2).map fun d => (p.1, d))).map .dct
  | .ins c fs => (allSome (fs.map f)).map (.obj c)
def fz (b : Nat) (st : Store) : Nat → D → Option D
  | 0, d => if d.pure then some d else none
  | n + 1, d => if d.pure then some d else match d with
    | .ref a => if a < b then none else (st[a]?).bind fun o => if o.pure then (match o with
        | .lst ds => some (.lst ds)
        | .dct kvs => some (.dct kvs)
        | .ins c fs => some (.obj c fs)) else fzO (fz b st n) o
    | .tup ds => (allSome (ds.map (fz b st n))).map .tup
    | _ => none

/-- .. with all that hangs on it, to be compared -/
def dlook (st : Store) : D → D
  | .ref a => (fz 0 st 4 (.ref a)).getD (.ref a)
  | d => d
def mulOk (i j : Int) : Bool := decide (i.natAbs < 2 ^ 64) || decide (j.natAbs < 2 ^ 64) || (decide (i.natAbs < 2 ^ 100000) && decide (j.natAbs < 2 ^ 100000))
def rep {α : Type} (xs : List α) (n : Int) : List α := (List.replicate n.toNat xs).flatten
def binD : Bop → D → D → Option D
  | .add, .int i, .int j => some (.int (i + j))
  | .add, .str a, .str b => if a.length + b.length ≤ LIM then some (.str (a ++ b)) else none
  | .add, .lst a, .lst b => if a.length + b.length ≤ LIM then some (.lst (a ++ b)) else none
  | .add, .tup a, .tup b => if a.length + b.length ≤ LIM then some (.tup (a ++ b)) else none
  | .sub, .int i, .int j => some (.int (i - j))
  | .mul, .int i, .int j => if mulOk i j then some (.int (i * j)) else none
  | .mul, .str a, .int n => if n < 2 ^ 62 ∧ -(2 ^ 62) < n ∧ a.length * n.toNat ≤ LIM then some (.str (rep a n)) else none
  | .mul, .lst a, .int n => if n < 2 ^ 62 ∧ -(2 ^ 62) < n ∧ a.length * n.toNat ≤ LIM then some (.lst (rep a n)) else none
  | .fdiv, .int i, .int j => if 0 < j ∧ j.natAbs < 2 ^ 9000 then some (.int (i / j)) else none
  | .mod, .int i, .int j => if 0 < j then some (.int (i % j)) else none
  | .pow, .int i, .int j => if 0 ≤ j ∧ j ≤ 1000 ∧ i.natAbs < 2 ^ 64 then some (.int (i ^ j.toNat)) else none
  | _, _, _ => none
def ltS (a b : List Nat) : Bool := decide (a < b)
def keyD : D → Option Ky
  | .int i => some (.i i)
  | .str s => some (.s s)
  | _ => none
def kvGet (k : Ky) : List (Ky × D) → Option D
  | [] => none
  | (l, d) :: r => if l = k then some d else kvGet k r
def kvPut (k : Ky) (d : D) (kvs : List (Ky × D)) : List (Ky × D) := if (kvs.any fun p => decide (p.1 = k)) = true then kvs.map (fun p => if p.1 = k then (p.1, d) else p) else kvs ++ [(k, d)]
def inD (x : D) (xs : List D) : Bool := xs.any fun y => D.eqv y x
def isIn : D → D → Option Bool
  | .str [c], .str t => some (decide (c ∈ t))
  | x, .lst ys => if D.plain 8 x && D.plains 8 ys then some (inD x ys) else none
  | x, .tup ys => if D.plain 8 x && D.plains 8 ys then some (inD x ys) else none
  | x, .dct kvs => (keyD x).map fun k => (kvGet k kvs).isSome
  | _, _ => none
def cmpD : Cop → D → D → Option Bool
  | .eq, a, b => if D.plain 8 a && D.plain 8 b then some (D.eqv a b) else none
  | .ne, a, b => if D.plain 8 a && D.plain 8 b then some (!D.eqv a b) else none
  | .lt, .int i, .int j => some (decide (i < j))
  | .le, .int i, .int j => some (decide (i ≤ j))
  | .gt, .int i, .int j => some (decide (j < i))
  | .ge, .int i, .int j => some (decide (j ≤ i))
  | .isin, a, b => isIn a b
  | .notin, a, b => (isIn a b).map not
  | _, _, _ => none
def cmpE (st : Store) (o : Cop) (a b : D) : Option Bool := match o with
  | .eq => cmpD .eq (dlook st a) (dlook st b)
  | .ne => cmpD .ne (dlook st a) (dlook st b)
  | o => cmpD o (look st a) (look st b)
/-- an item by its place, from behind for negative ones -/
def ixD {α : Type} (xs : List α) (i : Int) : Option α := if 0 ≤ i then xs[i.toNat]? else if -(xs.length : Int) ≤ i then xs[(i + xs.length).toNat]? else none
def ixN (n : Nat) (i : Int) : Option Nat := if 0 ≤ i then (if i < n then some i.toNat else none) else if -(n : Int) ≤ i then some (i + n).toNat else none
def idxD : D → D → Option D
  | .lst xs, .int i => ixD xs i
  | .tup xs, .int i => ixD xs i
  | .str s, .int i => (ixD s i).map fun c => .str [c]
  | .dct kvs, k => (keyD k).bind fun k => kvGet k kvs
  | _, _ => none
/-- a slice's bound -/
def sx (n d : Nat) : Option Int → Nat
  | none => d
  | some v => if v < 0 then (v + (n : Int)).toNat else min v.toNat n
def cut {α : Type} (xs : List α) (lo hi : Option Int) : List α := (xs.drop (sx xs.length 0 lo)).take (sx xs.length xs.length hi - sx xs.length 0 lo)
def slcD (d : D) (l h : Option Int) : Option D := match d with
  | .lst xs => some (.lst (cut xs l h))
  | .tup xs => some (.tup (cut xs l h))
  | .str s => some (.str (cut s l h))
  | _ => none
def evens {α : Type} : List α → List α
  | [] => []
  | [x] => [x]
  | x :: _ :: r => x :: evens r
def stpD (d : D) (k : Int) : Option D := match d with
  | .tup xs => if k = 2 then some (.tup (evens xs)) else none
  | .lst xs => if k = -1 then some (.lst xs.reverse) else none
  | _ => none
def insS (x : List Nat) : List (List Nat) → List (List Nat)
  | [] => [x]
  | y :: r => if x < y then x :: y :: r else y :: insS x r
def sortS : List (List Nat) → List (List Nat)
  | [] => []
  | x :: r => insS x (sortS r)
def insI (x : Int) : List Int → List Int
  | [] => [x]
  | y :: r => if x < y then x :: y :: r else y :: insI x r
def sortI : List Int → List Int
  | [] => []
  | x :: r => insI x (sortI r)
def strsOf : List D → Option (List (List Nat))
  | [] => some []
  | .str s :: r => (strsOf r).map (s :: ·)
  | _ => none
def intsOf : List D → Option (List Int)
  | [] => some []
  | .int i :: r => (intsOf r).map (i :: ·)
  | _ => none
def blsOf : List D → Option (List Bool)
  | [] => some []
  | .bl i :: r => (blsOf r).map (i :: ·)
  | _ => none
def maxL : List Int → Int
  | [] => 0
  | [x] => x
  | x :: r => let m := maxL r; if m > x then m else x
def minL : List Int → Int
  | [] => 0
  | [x] => x
  | x :: r => let m := minL r; if m < x then m else x
def dig (n : Nat) : List Nat := (Nat.toDigits 10 n).map Char.toNat
def itxt (i : Int) : List Nat := if i < 0 then 45 :: dig i.natAbs else dig i.natAbs
/-- a text of figures alone as a number -/
def numOf (s : List Nat) : Nat := s.foldl (fun a c => 10 * a + (c - 48)) 0
def joinL (sep : List Nat) : List (List Nat) → List Nat
  | [] => []
  | [x] => x
  | x :: r => x ++ sep ++ joinL sep r
def pairsOf : List D → Option (List (Ky × D))
  | [] => some []
  | .tup [k, d] :: r => (keyD k).bind fun k => (pairsOf r).map ((k, d) :: ·)
  | _ => none
def dictOf (ps : List (Ky × D)) : List (Ky × D) := ps.foldl (fun acc p => kvPut p.1 p.2 acc) []
def kyD : Ky → D
  | .i n => .int n
  | .s t => .str t
def dedup : List D → List D
  | [] => []
  | x :: r => if inD x r then dedup r else x :: dedup r
def zipD : List D → List D → List D
  | a :: as, b :: bs => .tup [a, b] :: zipD as bs
  | _, _ => []
def seqOf : D → Option (List D)
  | .lst xs => some xs
  | .tup xs => some xs
  | _ => none
def allStr : List D → Bool
  | [] => true
  | .str _ :: r => allStr r
  | _ => false
def allInt : List D → Bool
  | [] => true
  | .int _ :: r => allInt r
  | _ => false
def biD (rp : D → Option (List Nat)) : Bi → List D → Option D
  | .len, [.lst xs] => some (.int xs.length)
  | .len, [.tup xs] => some (.int xs.length)
  | .len, [.str s] => some (.int s.length)
  | .len, [.dct s] => some (.int s.length)
  | .max2, [.int i, .int j] => some (.int (if j > i then j else i))
  | .min2, [.int i, .int j] => some (.int (if j < i then j else i))
  | .min2, [.str i, .str j] => some (.str (if j < i then j else i))
  | .max1, [d] => (seqOf d).bind fun xs => (intsOf xs).bind fun ns => if ns = [] then none else some (.int (maxL ns))
  | .min1, [d] => (seqOf d).bind fun xs => (intsOf xs).bind fun ns => if ns = [] then none else some (.int (minL ns))
  | .sum, [.lst xs] => (intsOf xs).map fun ns => .int ns.sum
  | .all, [.lst xs] => (blsOf xs).map fun bs => .bl (bs.all id)
  | .any, [.lst xs] => (blsOf xs).map fun bs => .bl (bs.any id)
  | .abs, [.int i] => some (.int (if i < 0 then -i else i))
  | .int, [.int i] => some (.int i)
  | .int, [.bl b] => some (.int (if b then 1 else 0))
  | .int, [.str s] => if s ≠ [] ∧ s.length ≤ 600 ∧ s.all (fun c => decide (48 ≤ c ∧ c ≤ 57)) then some (.int (numOf s)) else none
  | .str, [.int i] => if i.natAbs < 2 ^ 1900 then some (.str (itxt i)) else none
  | .repr, [d] => (rp d).map .str
  | .sorted, [.lst xs] => match strsOf xs with
    | some ss => if ss.length < 64 then some (.lst ((sortS ss).map .str)) else none
    | none => (intsOf xs).bind fun ns => if ns.length < 64 then some (.lst ((sortI ns).map .int)) else none
  | .sorted, [.dct kvs] => (strsOf (kvs.map fun p => kyD p.1)).bind fun ss => if ss.length < 64 then some (.lst ((sortS ss).map .str)) else none
  | .tuple, [d] => (seqOf d).map .tup
  | .list, [.dct kvs] => some (.lst (kvs.map fun p => kyD p.1))
  | .list, [d] => (seqOf d).bind fun xs => if xs.length ≤ LIM then some (.lst xs) else none
  | .dict, [.dct kvs] => some (.dct kvs)
  | .dict, [.lst xs] => (pairsOf xs).map fun ps => .dct (dictOf ps)
  | .lenset, [d] => (seqOf d).bind fun xs => if allStr xs || allInt xs then some (.int (dedup xs).length) else none
  | .zip, [a, b] => (seqOf a).bind fun xs => (seqOf b).map fun ys => .lst (zipD xs ys)
  | _, _ => none
/-- methods of data that change nothing -/
def bmD : Bm → D → List D → Option D
  | .join, .str a, [d] => (seqOf d).bind fun xs => (strsOf xs).bind fun ss => if (ss.map List.length).sum + ss.length * a.length ≤ LIM then some (.str (joinL a ss)) else none
  | .get, .dct kvs, [k] => (keyD k).map fun k => (kvGet k kvs).getD .non
  | .get2, .dct kvs, [k, x] => (keyD k).map fun k => (kvGet k kvs).getD x
  | .index, .lst xs, [x] => if D.plain 8 x && D.plains 8 xs then (xs.findIdx? fun y => D.eqv y x).map fun i => .int i else none
  | _, _, _ => none
/-- methods that change the object at a place: what comes back, the object behind -/
def bmO : Bm → O → List D → Option (D × O)
  | .append, .lst xs, [d] => if xs.length < LIM then some (.non, .lst (xs ++ [d])) else none
  | .reverse, .lst xs, [] => some (.non, .lst xs.reverse)
  | .clear, .lst _, [] => some (.non, .lst [])
  | .pop, .lst xs, [] => xs.getLast?.map fun d => (d, .lst xs.dropLast)
  | .pop, .lst xs, [.int i] => if 0 ≤ i ∧ i < 2 ^ 62 then (xs[i.toNat]?).map fun d => (d, .lst (xs.eraseIdx i.toNat)) else none
  | .update, .dct kvs, [.dct more] => if kvs.length + more.length < LIM then some (.non, .dct (more.foldl (fun acc p => kvPut p.1 p.2 acc) kvs)) else none
  | .setdef, .dct kvs, [k, x] => (keyD k).bind fun k => if kvs.length < LIM then (match kvGet k kvs with
    | some d => some (d, .dct kvs)
    | none => some (x, .dct (kvPut k x kvs))) else none
  | _, _, _ => none
/-- whether it has that method -/
def bmT : Bm → D → Bool
  | .join, .str _ => true | .replace, .str _ => true | .split, .str _ => true
  | .get, .dct _ => true | .get2, .dct _ => true | .update, .dct _ => true | .setdef, .dct _ => true
  | .append, .lst _ => true | .reverse, .lst _ => true | .pop, .lst _ => true | .clear, .lst _ => true | .index, .lst _ => true
  | _, _ => false
/-- the methods that the proofs cover -/
def bmS : Bool → Bm → Bool
  | _, .update => false | _, .index => false | _, .replace => false | _, .split => false | true, .get => false | true, .get2 => false | _, _ => true
def Bm.muts : Bm → Bool
  | .append => true | .reverse => true | .clear => true | .pop => true | .update => true | .setdef => true
  | _ => false
def isTy (sub : Nat → Nat → Bool) : Ty → D → Option Bool
  | .exc k, .exc c _ => if sub c c && sub k k then some (sub c k) else none
  | .base, .exc c _ => if sub c c then some true else none
  | .exc _, _ => none
  | .base, _ => none
  | _, .exc _ _ => none
  | _, .obj _ _ => none
  | _, .fn _ => none
  | _, .ref _ => none
  | .int, .int _ => some true
  | .int, .bl _ => some true
  | .str, .str _ => some true
  | .tup, .tup _ => some true
  | .lst, .lst _ => some true
  | .bool, .bl _ => some true
  | .dct, .dct _ => some true
  | _, _ => some false

mutual
/-- a target takes a value -/
def bindG : G → D → Env → Option Env
  | .nm i, d, σ => some (σ.set i (some d))
  | .tp gs, .tup ds, σ => bindGs gs ds σ
  | .tp gs, .lst ds, σ => bindGs gs ds σ
  | _, _, _ => none
def bindGs : List G → List D → Env → Option Env
  | [], [], σ => some σ
  | g :: gs, d :: ds, σ => (bindG g d σ).bind fun σ' => bindGs gs ds σ'
  | _, _, _ => none
end

/-- a new object, if it is to be mutable -/
def fin (m : Bool) (d : D) (st : Store) : R D := if m then (match d with
  | .lst ds => .ok (.ref st.length) (st ++ [.lst ds])
  | .dct kvs => .ok (.ref st.length) (st ++ [.dct kvs])
  | _ => .bad) else .ok d st

/-- the store of the caller behind a call: what is new is dropped; what changed must hold data alone -/
def truncOk (st st' : Store) : Bool := decide (st.length ≤ st'.length) && (List.range st.length).all fun a => decide (st'[a]? = st[a]?) || (match st'[a]? with
  | some o => o.pure
  | none => false)
def trunc (st st' : Store) : Option Store := if truncOk st st' then some (st'.take st.length) else none

/-- what a def hands back: data; its own object; as it is -/
inductive Mode | fz | own | raw deriving DecidableEq, Repr
def leave (m : Mode) (st : Store) (d : D) (st' : Store) : R D := match m with
  | .raw => .ok d st'
  | .fz => match d with
    | .ref a => if a < st.length then (match trunc st st' with
          | some s => .ok (.ref a) s
          | none => .bad)
        else (match fz st.length st' 4 (.ref a), trunc st st' with
          | some d', some s => .ok d' s
          | _, _ => .bad)
    | d => match fz st.length st' 4 d, trunc st st' with
      | some d', some s => .ok d' s
      | _, _ => .bad
  | .own => match d with
    | .ref a => match st'[a]?, trunc st st' with
      | some o, some s => if st.length ≤ a && o.pure then .ok (.ref s.length) (s ++ [o]) else .bad
      | _, _ => .bad
    | _ => .bad

structure Fn where
  np : Nat
  dfl : List D
  nsl : Nat
  body : Ss
  mode : Mode
structure Cl where
  fields : List Nat
  init : Nat
  meths : List (Nat × Nat)
structure Pg where
  fn : Nat → Option Fn
  cl : Nat → Option Cl
  /-- exceptions: whether the one is the other or beneath it; the field -/
  sub : Nat → Nat → Bool
  xf : Nat → Option Nat
  glb : Nat → Option D
  rp : D → Option (List Nat)

def methOf (P : Pg) (c n : Nat) : Option Nat := (P.cl c).bind fun k => k.meths.lookup n
def fldIx (P : Pg) (c f : Nat) : Option Nat := (P.cl c).bind fun k => k.fields.findIdx? (· == f)
def atrD (P : Pg) (f : Nat) : D → Option D
  | .obj c fs => (fldIx P c f).bind fun i => fs[i]?
  | .exc c pl => if P.xf c = some f then pl.head? else none
  | _ => none
/-- o.f = v: a new field or one that is there -/
def setF (fs : List D) (i : Nat) (v : D) : Option (List D) := if i < fs.length then some (fs.set i v) else if i = fs.length then some (fs ++ [v]) else none

abbrev CallF := Nat → List D → Store → R D

/-- a while loop -/
def whileL (c : Env → Store → R Bool) (b : Env → Store → SR) (σ : Env) (st : Store) : Option SR :=
  match c σ st with
  | .ok true st1 => match b σ st1 with
    | .nx σ2 st2 => whileL c b σ2 st2
    | r => some r
  | .ok false st1 => some (.nx σ st1)
  | .ex k pl st1 => some (.ex k pl σ st1)
  | .bad => some .bad
partial_fixpoint
/-- what is walked stays as it is -/
def srcB (st : Store) : Option (Nat × O) → Bool
  | none => true
  | some (a, o) => decide (st[a]? = some o)
/-- a for loop over items; where they lie in the store they must stay -/
def forL (b : Env → Store → SR) (g : G) (src : Option (Nat × O)) : List D → Env → Store → SR
  | [], σ, st => .nx σ st
  | d :: ds, σ, st => match bindG g d σ with
    | none => .bad
    | some σ1 => match b σ1 st with
      | .nx σ2 st2 => if srcB st2 src then forL b g src ds σ2 st2 else .bad
      | r => r
/-- a target's slots -/
def slotsG : G → List Nat
  | .nm i => [i]
  | .tp gs => slotsGs gs
where slotsGs : List G → List Nat
  | [] => []
  | g :: gs => slotsG g ++ slotsGs gs
def wipeE (σ : Env) : List Nat → Env
  | [] => σ
  | v :: vs => (wipeE σ vs).set v none
/-- a list comprehension's loop (σ: the own slots are empty) -/
def lcL (el : Env → Store → R D) (c : Env → Store → R Bool) (g : G) (src : Option (Nat × O)) (σ : Env) : List D → Store → R (List D)
  | [], st => .ok [] st
  | d :: ds, st => match bindG g d σ with
    | none => .bad
    | some σ1 => match c σ1 st with
      | .ok true st1 => (match el σ1 st1 with
        | .ok v st2 => if srcB st2 src then
          (lcL el c g src σ ds st2).bind fun vs st3 => .ok (v :: vs) st3 else .bad
        | _ => .bad)
      | .ok false st1 => if srcB st1 src then lcL el c g src σ ds st1 else .bad
      | _ => .bad
def boolD (r : R D) : R Bool := r.bind fun d st => match d with
  | .bl b => .ok b st
  | _ => .bad
/-- a slice's bound -/
def bndI (d : D) (st : Store) : R (Option Int) := match d with
  | .int i => .ok (some i) st
  | _ => .bad
/-- items walked, and where they lie -/
abbrev Wk := List D × Option (Nat × O)
def srcOf (st : Store) : D → Option (Nat × O)
  | .ref a => (st[a]?).map fun o => (a, o)
  | _ => none
def rngL (lo : Int) (n : Nat) (k : Int) : List D := (List.range n).map fun (i : Nat) => .int (lo + (i : Int) * k)
def seqI (st : Store) (d : D) : Option Wk := match look st d with
  | .lst xs => some (xs, srcOf st d)
  | .tup xs => some (xs, none)
  | .str s => some (s.map fun c => .str [c], none)
  | _ => none
def smallI (i : Int) : Bool := decide (i.natAbs < 1099511627776)
/-- how many there are in range(a, b, k), k > 0 -/
def rngN (a b k : Int) : Nat := ((b - a + k - 1) / k).toNat

section
variable (P : Pg) (cf : CallF)
mutual
def evE (σ : Env) : E → Store → R D
  | .no, st => .ok .non st
  | .var i, st => R.of ((σ[i]?).getD none) st
  | .non, st => .ok .non st
  | .bl b, st => .ok (.bl b) st
  | .int i, st => .ok (.int i) st
  | .str s, st => .ok (.str s) st
  | .tup es, st => (evEs σ es st).bind fun ds st => .ok (.tup ds) st
  | .lst m es, st => (evEs σ es st).bind fun ds st => fin m (.lst ds) st
  | .dct m kvs, st => (evKv σ kvs st).bind fun ps st => match pairsOf ps with
    | some ps => fin m (.dct (dictOf ps)) st
    | none => .bad
  | .bin m o a b, st => (evE σ a st).bind fun x st => (evE σ b st).bind fun y st => match binD o (look st x) (look st y) with
    | some d => fin m d st
    | none => .bad
  | .rpl m es n, st => (evEs σ es st).bind fun ds st => (evE σ n st).bind fun y st => match y with
    | .int n => if n < 2 ^ 62 ∧ -(2 ^ 62) < n ∧ ds.length * n.toNat ≤ LIM then fin m (.lst (rep ds n)) st else .bad
    | _ => .bad
  | .neg a, st => (evE σ a st).bind fun x st => match x with
    | .int i => .ok (.int (-i)) st
    | _ => .bad
  | .nt a, st => (boolD (evE σ a st)).bind fun b st => .ok (.bl (!b)) st
  | .cmp o a b, st => (evE σ a st).bind fun x st => (evE σ b st).bind fun y st => (R.of (cmpE st o x y) st).bind fun b st => .ok (.bl b) st
  | .chn o p a b c, st => (evE σ a st).bind fun x st => (evE σ b st).bind fun y st => match cmpE st o x y with
    | some true => (evE σ c st).bind fun z st => (R.of (cmpE st p y z) st).bind fun b st => .ok (.bl b) st
    | some false => .ok (.bl false) st
    | none => .bad
  | .isn y a, st => (evE σ a st).bind fun x st => .ok (.bl (decide (x = .non) == y)) st
  | .isb y c a, st => (evE σ a st).bind fun x st => match x with
    | .bl b => .ok (.bl ((b == c) == y)) st
    | _ => .bad
  | .andE a b, st => (boolD (evE σ a st)).bind fun x st => if x then (boolD (evE σ b st)).bind fun y st => .ok (.bl y) st else .ok (.bl false) st
  | .orE a b, st => (boolD (evE σ a st)).bind fun x st => if x then .ok (.bl true) st else (boolD (evE σ b st)).bind fun y st => .ok (.bl y) st
  | .ife c a b, st => (boolD (evE σ c st)).bind fun x st => if x then evE σ a st else evE σ b st
  | .idx a b, st => (evE σ a st).bind fun x st => (evE σ b st).bind fun y st => R.of (idxD (look st x) y) st
  | .slc m a lo hi, st => (evE σ a st).bind fun x st => (if lo.isNo then R.ok none st else (evE σ lo st).bind bndI).bind fun l st => (if hi.isNo then R.ok none st else (evE σ hi st).bind bndI).bind fun h st => match slcD (look st x) l h with
    | some d => fin m d st
    | none => .bad
  | .stp m a k, st => (evE σ a st).bind fun x st => match stpD (look st x) k with
    | some d => fin m d st
    | none => .bad
  | .atr a f, st => (evE σ a st).bind fun x st => R.of (atrD P f (look st x)) st
  | .call f es, st => (evEs σ es st).bind fun ds st => cf f ds st
  | .mth a n es, st => (evE σ a st).bind fun x st => match look st x with
    | .obj c _ => match methOf P c n with
      | some f => (evEs σ es st).bind fun ds st => cf f (x :: ds) st
      | none => .bad
    | _ => .bad
  | .mk z c es, st => match P.cl c with
    | some k => (evEs σ es st).bind fun ds st => match cf k.init (.ref st.length :: ds) (st ++ [.ins c []]) with
      | .ok d st' => if d = .non then (if z then (match fz st.length st' 4 (.ref st.length), trunc st st' with
          | some d', some s => .ok d' s
          | _, _ => .bad) else .ok (.ref st.length) st') else .bad
      | .ex k pl st' => if D.pures pl then (match trunc st st' with
          | some s => .ex k pl s
          | none => .bad) else .bad
      | .bad => .bad
    | none => .bad
  | .bi m b es, st => (evEs σ es st).bind fun ds st => match biD P.rp b (ds.map (look st)) with
    | some d => fin m d st
    | none => .bad
  | .bm m b a es, st => (evE σ a st).bind fun x st => if bmT b (look st x) then (evEs σ es st).bind fun ds st => (if b.muts then (match x with
      | .ref a => match st[a]? with
        | some o => match bmO b o (if b = .update then ds.map (look st) else ds) with
          | some (d, o') => .ok d (st.set a o')
          | none => .bad
        | none => .bad
      | _ => .bad) else (match bmD b (look st x) (if b = .join then ds.map (look st) else ds) with
      | some d => fin m d st
      | none => .bad)) else .bad
  | .isi a t, st => (evE σ a st).bind fun x st => (R.of (isTy P.sub t (look st x)) st).bind fun b st => .ok (.bl b) st
  | .lc m el tg it c, st => (evI σ it st).bind fun w st => (lcL (fun σ st => evE σ el st) (fun σ st => if c.isNo then .ok true st else boolD (evE σ c st)) tg w.2 (wipeE σ (slotsG tg)) w.1 st).bind fun ds st => if ds.length ≤ LIM then fin m (.lst ds) st else .bad
  | .glb g, st => R.of (P.glb g) st
  | .fnv f, st => .ok (.fn f) st
  | .clv i es, st => match (σ[i]?).getD none with
    | some (.fn f) => if (P.fn f).isSome then (evEs σ es st).bind fun ds st => cf f ds st else .bad
    | _ => .bad
def evEs (σ : Env) : Es → Store → R (List D)
  | .nil, st => .ok [] st
  | .cons e r, st => (evE σ e st).bind fun d st => (evEs σ r st).bind fun ds st => .ok (d :: ds) st
/-- a dict's pairs -/
def evKv (σ : Env) : Kv → Store → R (List D)
  | .nil, st => .ok [] st
  | .cons k v r, st => (evE σ k st).bind fun x st => (evE σ v st).bind fun y st => (evKv σ r st).bind fun r st => .ok (.tup [x, y] :: r) st
def evI (σ : Env) : I → Store → R Wk
  | .seq e, st => (evE σ e st).bind fun d st => R.of (seqI st d) st
  | .rng1 a, st => (evE σ a st).bind fun d st => match d with
    | .int n => if smallI n then .ok (rngL 0 n.toNat 1, none) st else .bad
    | _ => .bad
  | .rng2 a b, st => (evE σ a st).bind fun d st => (evE σ b st).bind fun e st => match d, e with
    | .int i, .int n => if smallI i && smallI n then .ok (rngL i (n - i).toNat 1, none) st else .bad
    | _, _ => .bad
  | .rng3 a b c, st => (evE σ a st).bind fun d st => (evE σ b st).bind fun e st => (evE σ c st).bind fun f st => match d, e, f with
    | .int i, .int n, .int k => if smallI i && smallI n && decide (0 < k) && decide (k < 2 ^ 20) then .ok (rngL i (rngN i n k) k, none) st else .bad
    | _, _, _ => .bad
  | .zip a b, st => (evE σ a st).bind fun d st => (evE σ b st).bind fun e st => match d, e with
    | .lst xs, .lst ys => .ok (zipD xs ys, none) st
    | .tup xs, .tup ys => .ok (zipD xs ys, none) st
    | .lst xs, .tup ys => .ok (zipD xs ys, none) st
    | .tup xs, .lst ys => .ok (zipD xs ys, none) st
    | _, _ => .bad
  | .enm a, st => (evE σ a st).bind fun d st => match look st d with
    | .lst xs => .ok (zipD (rngL 0 xs.length 1) xs, srcOf st d) st
    | .tup xs => .ok (zipD (rngL 0 xs.length 1) xs, none) st
    | _ => .bad
  | .rev a, st => (evE σ a st).bind fun d st => match look st d with
    | .lst xs => .ok (xs.reverse, srcOf st d) st
    | _ => .bad
  | .itm a, st => (evE σ a st).bind fun d st => match look st d with
    | .dct kvs => .ok (kvs.map (fun p => .tup [kyD p.1, p.2]), srcOf st d) st
    | _ => .bad
  | .vls a, st => (evE σ a st).bind fun d st => match look st d with
    | .dct kvs => .ok (kvs.map (fun p => p.2), srcOf st d) st
    | _ => .bad
end
def evT (σ : Env) (e : E) (st : Store) : R Bool := boolD (evE P cf σ e st)
/-- o[i] = v -/
def subO (o : O) (i v : D) : Option O := match o with
  | .lst xs => match i with
    | .int k => (ixN xs.length k).map fun j => .lst (xs.set j v)
    | _ => none
  | .dct kvs => (keyD i).bind fun k => if kvs.length < LIM then some (.dct (kvPut k v kvs)) else none
  | _ => none
def putT (σ : Env) (t : Tg) (d : D) (st : Store) : SR := match t with
  | .g g => match bindG g (look st d) σ with
    | some σ' => .nx (match g with | .nm i => σ.set i (some d) | _ => σ') st
    | none => .bad
  | .sub a i => SR.of (evE P cf σ a st) σ fun x st => SR.of (evE P cf σ i st) σ fun y st => match x with
    | .ref a => match st[a]? with
      | some o => match subO o y d with
        | some o' => .nx σ (st.set a o')
        | none => .bad
      | none => .bad
    | _ => .bad
  | .fld a f => SR.of (evE P cf σ a st) σ fun x st => match x with
    | .ref a => match st[a]? with
      | some (.ins c fs) => match (fldIx P c f).bind fun i => setF fs i d with
        | some fs' => .nx σ (st.set a (.ins c fs'))
        | none => .bad
      | _ => .bad
    | _ => .bad
mutual
def evS (σ : Env) : S → Store → SR
  | .asg t e, st => SR.of (evE P cf σ e st) σ fun d st => putT P cf σ t d st
  | .par i j a b, st => SR.of (evE P cf σ a st) σ fun d st => SR.of (evE P cf σ b st) σ fun e st => .nx ((σ.set i (some d)).set j (some e)) st
  | .exp e, st => SR.of (evE P cf σ e st) σ fun _ st => .nx σ st
  | .ret e, st => SR.of (evE P cf σ e st) σ fun d st => .rt d st
  | .iff c a b, st => SR.of (evT P cf σ c st) σ fun x st => if x then evSs σ a st else evSs σ b st
  | .fr g it b, st => SR.of (evI P cf σ it st) σ fun w st => forL (fun σ st => evSs σ b st) g w.2 w.1 σ st
  | .whl c b, st => (whileL (fun σ st => evT P cf σ c st) (fun σ st => evSs σ b st) σ st).getD .bad
  | .rse c es, st => if P.sub c c then SR.of (evEs P cf σ es st) σ fun ds st => .ex c (if (P.xf c).isSome then ds else []) σ st else .bad
  | .tr b hs, st => match evSs σ b st with
    | .ex c pl σ1 st1 => evHs σ1 hs c pl st1
    | r => r
  | .pss, st => .nx σ st
def evSs (σ : Env) : Ss → Store → SR
  | .nil, st => .nx σ st
  | .cons s r, st => SR.seq (evS σ s st) fun σ st => evSs σ r st
def evHs (σ : Env) : Hs → Nat → List D → Store → SR
  | .nil, c, pl, st => .ex c pl σ st
  | .cons k i b r, c, pl, st => if P.sub c c && P.sub k k then (if P.sub c k then (match i with
      | none => match evSs σ b st with
        | .ex _ _ _ _ => .bad
        | r => r
      | some i => match evSs (σ.set i (some (.exc c pl))) b st with
        | .nx σ2 st2 => .nx (σ2.set i none) st2
        | .rt d st2 => .rt d st2
        | _ => .bad) else evHs σ r c pl st) else .bad
end
end

def startE (n : Nat) (ds : List D) : Env := ds.map some ++ List.replicate (n - ds.length) none
/-- a def called, by levels -/
def runF (P : Pg) : Nat → CallF
  | 0, _, _, _ => .bad
  | k + 1, f, ds, st => match P.fn f with
    | none => .bad
    | some F =>
      let args := ds ++ F.dfl.drop (F.dfl.length - (F.np - ds.length))
      if args.length ≠ F.np then .bad else
      match evSs P (runF P k) (startE F.nsl args) F.body st with
      | .nx _ st' => leave F.mode st .non st'
      | .rt d st' => leave F.mode st d st'
      | .ex c pl _ st' => if D.pures pl then (match trunc st st' with
        | some s => .ex c pl s
        | none => .bad) else .bad
      | .bad => .bad

/-! ### what repr is known of -/
mutual
/-- room enough for its text -/
def msr : D → Nat
  | .int _ => 80 | .str s => 10 * s.length + 2 | .tup ds => msrs ds + 4 | .lst ds => msrs ds + 4 | _ => 5
def msrs : List D → Nat
  | [] => 0
  | d :: ds => msr d + 2 + msrs ds
end
mutual
/-- numbers and signs that are small -/
def smD : D → Bool
  | .int i => decide (i.natAbs < 18446744073709551616) | .str s => s.all fun c => decide (c < 4294967296) | .tup ds => smDs ds | .lst ds => smDs ds | _ => true
def smDs : List D → Bool
  | [] => true
  | d :: ds => smD d && smDs ds
end
def dispD : D → Bool
  | .lst _ => true | .tup _ => true | _ => false
/-- a repr that tells each such data its text -/
def RpOk (rp : D → Option (List Nat)) : Prop := ∀ d, dispD d = true → D.plain 8 d = true → smD d = true → msr d ≤ 16000000 → ∃ t, rp d = some t
end CT

set_option maxRecDepth 100000
/-! The evaluator's values beside the layer's. -/
namespace CT
open PySem L2

/-- a text by its codes -/
abbrev tx (s : List Nat) : Str := ⟨s.toArray⟩
/-- what the program's text is beside the evaluator's tables -/
structure TT where
  pp : Program
  w : World
  K : PySem.W.Frag
  mg : Str → Option Value
  base : Heap
  P : Pg
  /-- defs, classes, exceptions by their places -/
  fa : Nat → Addr
  ca : Nat → Addr
  xa : Nat → Addr
  /-- names of fields, of methods -/
  fnm : Nat → Str
  mnm : Nat → Str
  gnm : Nat → Str
  /-- what the evaluator does not know of: lists that are being made -/
  hid : List Addr
/-- the same, other things hidden -/
def TT.hide (T : TT) (hs : List Addr) : TT := { T with hid := hs }
/-- no mutable object's place, and not hidden -/
def TT.no (T : TT) (ms : List Addr) (p : Addr) : Prop := p ∉ ms ∧ p ∉ T.hid

/-- a list that is data: tracked beside the mutable ones, or written -/
def FL (T : TT) (ms : List Addr) (H : Hp) (p : Addr) (vs : List V) : Prop :=
  (T.no ms p ∧ Rd H p (.lst vs)) ∨ ∃ (o : Obj) (its : Array Value) (n : Nat), T.K.lookup p = some o ∧ o.cls = .type "list" ∧ o.dict = none ∧ o.data = .seq its n ∧ its.size ≤ sizeLine ∧ Vals vs its.toList
def FT (T : TT) (ms : List Addr) (H : Hp) (p : Addr) (vs : List V) : Prop :=
  (T.no ms p ∧ Rd H p (.tup vs)) ∨ ∃ (o : Obj) (its : Array Value) (n : Nat), T.K.lookup p = some o ∧ o.cls = .type "tuple" ∧ o.data = .seq its n ∧ its.size ≤ sizeLine ∧ Vals vs its.toList
theorem FL.sq {T : TT} {ms H p vs} (h : FL T ms H p vs) : SqL T.K H p vs := h.elim (fun x => Or.inl x.2) Or.inr
theorem FT.sq {T : TT} {ms H p vs} (h : FT T ms H p vs) : SqT T.K H p vs := h.elim (fun x => Or.inl x.2) Or.inr

/-- a key -/
def kyK : Ky → Key
  | .i n => .inl n
  | .s t => .inr (tx t)
/-- the object of a caught exception -/
def exH (cls : Value) (dd : Option Addr) (a : Addr) : HO := .ext fun h => ∃ (oe : Obj) (vs : Array Value), h.get? a = some oe ∧ Zc cls dd oe ∧ oe.data = .fields vs

mutual
inductive RD (T : TT) (ms : List Addr) (H : Hp) : D → V → Prop
  | non : RD T ms H .non .non
  | bl (b : Bool) : RD T ms H (.bl b) (.bl b)
  | int (i : Int) : RD T ms H (.int i) (.int i)
  | str (s : List Nat) : s.length ≤ LIM → RD T ms H (.str s) (.str (tx s))
  | tup {p vs ds} : FT T ms H p vs → RDs T ms H ds vs → RD T ms H (.tup ds) (.ref p)
  | lst {p vs ds} : FL T ms H p vs → RDs T ms H ds vs → ds.length ≤ LIM → RD T ms H (.lst ds) (.ref p)
  | dct {p kvs ds} : T.no ms p → H p = some (.dK kvs) → RDk T ms H ds kvs → ds.length ≤ LIM → RD T ms H (.dct ds) (.ref p)
  | obj {p dx c C fs ds} : T.no ms p → H p = some (.ins C dx fs) → T.ca c = C → RDs T ms H ds (fs.map (·.2)) → (∃ k, T.P.cl c = some k ∧ fs.map (·.1) = (k.fields.take ds.length).map T.fnm) → RD T ms H (.obj c ds) (.ref p)
  | exc {p c dd} {pl : List D} : T.no ms p → H p = some (exH (.ref (T.xa c)) dd p) → RX T ms H c pl dd → RD T ms H (.exc c pl) (.ref p)
  | fn (f : Nat) : RD T ms H (.fn f) (.ref (T.fa f))
  | ref {a p} : ms[a]? = some p → RD T ms H (.ref a) (.ref p)
inductive RDs (T : TT) (ms : List Addr) (H : Hp) : List D → List V → Prop
  | nil : RDs T ms H [] []
  | cons {d v ds vs} : RD T ms H d v → RDs T ms H ds vs → RDs T ms H (d :: ds) (v :: vs)
inductive RDk (T : TT) (ms : List Addr) (H : Hp) : List (Ky × D) → List (Key × V) → Prop
  | nil : RDk T ms H [] []
  | cons {k d v ds vs} : (∀ t, k = .s t → t.length ≤ LIM) → RD T ms H d v → RDk T ms H ds vs → RDk T ms H ((k, d) :: ds) ((kyK k, v) :: vs)
/-- an exception's field, on its own dict -/
inductive RX (T : TT) (ms : List Addr) (H : Hp) : Nat → List D → Option Addr → Prop
  | no {c} : T.P.xf c = none → RX T ms H c [] none
  | one {c f d v q} : T.P.xf c = some f → T.no ms q → H q = some (.xd [(T.fnm f, v)]) → RD T ms H d v → RX T ms H c [d] (some q)
end
section
variable {T : TT} {ms ms' ms2 : List Addr} {H H' H2 : Hp}
/-- what was no mutable object stays as it is, and none; the mutable ones keep their places -/
structure Evo (ms : List Addr) (H : Hp) (ms' : List Addr) (H' : Hp) : Prop where
  pre : ms <+: ms'
  keep : ∀ p o, H p = some o → p ∉ ms → H' p = some o ∧ p ∉ ms'
theorem Evo.refl : Evo ms H ms H := ⟨List.prefix_refl _, fun p o h n => ⟨h, n⟩⟩
theorem Evo.trans (a : Evo ms H ms' H') (b : Evo ms' H' ms2 H2) : Evo ms H ms2 H2 :=
  ⟨a.pre.trans b.pre, fun p o h n => let ⟨h1, n1⟩ := a.keep p o h n; b.keep p o h1 n1⟩
theorem Evo.at (e : Evo ms H ms' H') {a : Nat} {p : Addr} (h : ms[a]? = some p) : ms'[a]? = some p := by
  obtain ⟨t, rfl⟩ := e.pre
  obtain ⟨hl, he⟩ := List.getElem?_eq_some_iff.mp h
  rw [List.getElem?_append_left hl]; exact h
theorem Evo.rd (e : Evo ms H ms' H') {p : Addr} {u : HO} (h : Rd H p u) (n : p ∉ ms) : p ∉ ms' ∧ Rd H' p u := by
  rcases h with h | ⟨o, h⟩
  · obtain ⟨a, b⟩ := e.keep _ _ h n
    exact ⟨b, .inl a⟩
  · obtain ⟨a, b⟩ := e.keep _ _ h n
    exact ⟨b, .inr ⟨o, a⟩⟩
theorem FL.mono {p vs} (e : Evo ms H ms' H') (h : FL T ms H p vs) : FL T ms' H' p vs := by
  rcases h with ⟨n, h⟩ | h
  · exact .inl ⟨⟨(e.rd h n.1).1, n.2⟩, (e.rd h n.1).2⟩
  · exact .inr h
theorem FT.mono {p vs} (e : Evo ms H ms' H') (h : FT T ms H p vs) : FT T ms' H' p vs := by
  rcases h with ⟨n, h⟩ | h
  · exact .inl ⟨⟨(e.rd h n.1).1, n.2⟩, (e.rd h n.1).2⟩
  · exact .inr h
mutual
theorem RD.mono (e : Evo ms H ms' H') : ∀ {d : D} {v : V}, RD T ms H d v → RD T ms' H' d v
  | _, _, .non => .non
  | _, _, .bl b => .bl b
  | _, _, .int i => .int i
  | _, _, .str s h => .str s h
  | _, _, .tup h r => .tup (h.mono e) (RDs.mono e r)
  | _, _, .lst h r z => .lst (h.mono e) (RDs.mono e r) z
  | _, _, .dct n h r z => .dct ⟨(e.keep _ _ h n.1).2, n.2⟩ (e.keep _ _ h n.1).1 (RDk.mono e r) z
  | _, _, .obj n h c r k => .obj ⟨(e.keep _ _ h n.1).2, n.2⟩ (e.keep _ _ h n.1).1 c (RDs.mono e r) k
  | _, _, .exc n h r => .exc ⟨(e.keep _ _ h n.1).2, n.2⟩ (e.keep _ _ h n.1).1 (RX.mono e r)
  | _, _, .fn f => .fn f
  | _, _, .ref h => .ref (e.at h)
theorem RDs.mono (e : Evo ms H ms' H') : ∀ {d : List D} {v : List V}, RDs T ms H d v → RDs T ms' H' d v
  | _, _, .nil => .nil
  | _, _, .cons r s => .cons (RD.mono e r) (RDs.mono e s)
theorem RDk.mono (e : Evo ms H ms' H') : ∀ {d : List (Ky × D)} {v : List (Key × V)}, RDk T ms H d v → RDk T ms' H' d v
  | _, _, .nil => .nil
  | _, _, .cons kb r s => .cons kb (RD.mono e r) (RDk.mono e s)
theorem RX.mono (e : Evo ms H ms' H') : ∀ {c : Nat} {pl : List D} {dd : Option Addr}, RX T ms H c pl dd → RX T ms' H' c pl dd
  | _, _, _, .no h => .no h
  | _, _, _, .one h n hq r => .one h ⟨(e.keep _ _ hq n.1).2, n.2⟩ (e.keep _ _ hq n.1).1 (RD.mono e r)
end
theorem RDs.length : ∀ {ds : List D} {vs : List V}, RDs T ms H ds vs → ds.length = vs.length
  | _, _, .nil => rfl
  | _, _, .cons _ s => congrArg (· + 1) s.length
theorem RDs.get : ∀ {ds : List D} {vs : List V} {i : Nat} {d : D}, RDs T ms H ds vs → ds[i]? = some d → ∃ v, vs[i]? = some v ∧ RD T ms H d v
  | _, _, _, _, .nil, e => by simp at e
  | _, _, 0, _, .cons r _, e => by simp at e; subst e; exact ⟨_, rfl, r⟩
  | _, _, i + 1, d, .cons _ s, e => by
    obtain ⟨v, h1, h2⟩ := s.get (i := i) (d := d) (by simpa using e)
    exact ⟨v, by simpa using h1, h2⟩
theorem RDs.append : ∀ {ds es : List D} {vs ws : List V}, RDs T ms H ds vs → RDs T ms H es ws → RDs T ms H (ds ++ es) (vs ++ ws)
  | _, _, _, _, .nil, s => s
  | _, _, _, _, .cons r t, s => .cons r (t.append s)
theorem RDs.take : ∀ (n : Nat) {ds : List D} {vs : List V}, RDs T ms H ds vs → RDs T ms H (ds.take n) (vs.take n)
  | 0, _, _, _ => .nil
  | _ + 1, _, _, .nil => .nil
  | n + 1, _, _, .cons r s => .cons r (s.take n)
theorem RDs.drop : ∀ (n : Nat) {ds : List D} {vs : List V}, RDs T ms H ds vs → RDs T ms H (ds.drop n) (vs.drop n)
  | 0, _, _, s => s
  | _ + 1, _, _, .nil => .nil
  | n + 1, _, _, .cons _ s => s.drop n
theorem RDs.set {d : D} {v : V} (r : RD T ms H d v) : ∀ {ds : List D} {vs : List V} (i : Nat), RDs T ms H ds vs → RDs T ms H (ds.set i d) (vs.set i v)
  | _, _, _, .nil => .nil
  | _, _, 0, .cons _ s => .cons r s
  | _, _, i + 1, .cons q s => .cons q (s.set r i)
theorem RDs.reverse : ∀ {ds : List D} {vs : List V}, RDs T ms H ds vs → RDs T ms H ds.reverse vs.reverse
  | _, _, .nil => .nil
  | _, _, .cons r s => by
    rw [List.reverse_cons, List.reverse_cons]
    exact s.reverse.append (.cons r .nil)
theorem RDs.eraseIdx : ∀ {ds : List D} {vs : List V} (i : Nat), RDs T ms H ds vs → RDs T ms H (ds.eraseIdx i) (vs.eraseIdx i)
  | _, _, _, .nil => .nil
  | _, _, 0, .cons _ s => s
  | _, _, i + 1, .cons q s => .cons q (s.eraseIdx i)
theorem RDk.length : ∀ {ds : List (Ky × D)} {vs : List (Key × V)}, RDk T ms H ds vs → ds.length = vs.length
  | _, _, .nil => rfl
  | _, _, .cons _ _ s => congrArg (· + 1) s.length
/-- a mutable object -/
inductive RO (T : TT) (ms : List Addr) (H : Hp) (p : Addr) : O → Prop
  | lst {vs ds} : H p = some (.lst vs) → RDs T ms H ds vs → ds.length ≤ LIM → RO T ms H p (.lst ds)
  | dct {kvs ds} : H p = some (.dK kvs) → RDk T ms H ds kvs → ds.length ≤ LIM → RO T ms H p (.dct ds)
  | ins {dx c C fs ds} : H p = some (.ins C dx fs) → T.ca c = C → RDs T ms H ds (fs.map (·.2)) → (∃ k, T.P.cl c = some k ∧ fs.map (·.1) = (k.fields.take ds.length).map T.fnm) → RO T ms H p (.ins c ds)
theorem RO.there {p o} (h : RO T ms H p o) : H p ≠ none := by
  cases h with
  | lst h _ _ => rw [h]; simp
  | dct h _ _ => rw [h]; simp
  | ins h _ _ _ => rw [h]; simp
/-- the store -/
structure AH (T : TT) (ms : List Addr) (st : Store) (H : Hp) : Prop where
  len : ms.length = st.length
  nd : ms.Nodup
  hd : ∀ p ∈ T.hid, H p ≠ none ∧ p ∉ ms
  at_ : ∀ (i : Nat) (p : Addr) (o : O), ms[i]? = some p → st[i]? = some o → RO T ms H p o
/-- the slots -/
structure AS (T : TT) (ms : List Addr) (H : Hp) (σ : Env) (τ : St) : Prop where
  len : σ.length = τ.length
  at_ : ∀ (i : Nat) (d : D), σ[i]? = some (some d) → ∃ v, τ[i]? = some (some v) ∧ RD T ms H d v
theorem AS.mono {σ τ} (e : Evo ms H ms' H') (a : AS T ms H σ τ) : AS T ms' H' σ τ := ⟨a.len, fun i d h => let ⟨v, h1, h2⟩ := a.at_ i d h; ⟨v, h1, h2.mono e⟩⟩
theorem AS.set {σ τ d v} (a : AS T ms H σ τ) (r : RD T ms H d v) (i : Nat) : AS T ms H (σ.set i (some d)) (τ.set i (some v)) := by
  refine ⟨by simp [a.len], fun j e h => ?_⟩
  by_cases hj : i = j
  · subst hj
    by_cases hl : i < σ.length
    · rw [List.getElem?_set_self hl] at h
      cases h
      exact ⟨v, by rw [List.getElem?_set_self (a.len ▸ hl)], r⟩
    · rw [List.getElem?_eq_none (by simpa using hl)] at h; cases h
  · rw [List.getElem?_set_ne hj] at h
    rw [List.getElem?_set_ne hj]
    exact a.at_ j e h
theorem AS.unset {σ τ} (a : AS T ms H σ τ) (i : Nat) : AS T ms H (σ.set i none) (τ.set i none) := by
  refine ⟨by simp [a.len], fun j e h => ?_⟩
  by_cases hj : i = j
  · subst hj
    by_cases hl : i < σ.length
    · rw [List.getElem?_set_self hl] at h; cases h
    · rw [List.getElem?_eq_none (by simpa using hl)] at h; cases h
  · rw [List.getElem?_set_ne hj] at h
    rw [List.getElem?_set_ne hj]
    exact a.at_ j e h
/-- a place of the store -/
theorem AH.get {st : Store} {a : Nat} {o : O} (A : AH T ms st H) (h : st[a]? = some o) : ∃ p, ms[a]? = some p ∧ RO T ms H p o := by
  obtain ⟨hl, _⟩ := List.getElem?_eq_some_iff.mp h
  have hl' : a < ms.length := by rw [A.len]; exact hl
  exact ⟨ms[a], List.getElem?_eq_getElem hl', A.at_ a _ o (List.getElem?_eq_getElem hl') h⟩
theorem mem_at {a : Nat} {p : Addr} (h : ms[a]? = some p) : p ∈ ms := List.mem_of_getElem? h
/-- all in the store is tracked -/
theorem AH.tr {st : Store} (A : AH T ms st H) {p : Addr} (h : p ∈ ms) : H p ≠ none := by
  obtain ⟨i, hi, e⟩ := List.mem_iff_getElem.mp h
  have hs : i < st.length := by rw [← A.len]; exact hi
  exact (A.at_ i p _ (by rw [← e]; exact List.getElem?_eq_getElem hi) (List.getElem?_eq_getElem hs)).there
theorem AH.fresh1 {st : Store} (A : AH T ms st H) {p : Addr} (h : H p = none) : p ∉ ms := fun m => A.tr m h
theorem AH.fresh {st : Store} (A : AH T ms st H) {p : Addr} (h : H p = none) : T.no ms p := ⟨A.fresh1 h, fun m => (A.hd p m).1 h⟩
theorem upd_some {p q : Addr} {o : HO} (h : H q ≠ none) : upd H p o q ≠ none := by
  unfold upd
  split
  · simp
  · exact h
/-- something new is laid, as data -/
theorem Evo.new {st : Store} (A : AH T ms st H) {p : Addr} {o : HO} (h : H p = none) : Evo ms H ms (upd H p o) :=
  ⟨List.prefix_refl _, fun q u hq n => ⟨by rw [upd_ne (ne_of_none hq h)]; exact hq, n⟩⟩
/-- a mutable object is changed -/
theorem Evo.wr {p : Addr} {o : HO} (h : p ∈ ms) : Evo ms H ms (upd H p o) :=
  ⟨List.prefix_refl _, fun q u hq n => ⟨by rw [upd_ne (show q ≠ p from fun z => n (z.symm ▸ h))]; exact hq, n⟩⟩
/-- something new is laid, to be mutable -/
theorem Evo.newM {st : Store} (A : AH T ms st H) {p : Addr} {o : HO} (h : H p = none) : Evo ms H (ms ++ [p]) (upd H p o) :=
  ⟨List.prefix_append _ _, fun q u hq n => ⟨by rw [upd_ne (ne_of_none hq h)]; exact hq, by
    have hne := ne_of_none hq h
    simp [n, hne]⟩⟩
theorem RO.mono {p o} (e : Evo ms H ms' H') (hp : H' p = H p) (h : RO T ms H p o) : RO T ms' H' p o := by
  cases h with
  | lst h r z => exact .lst (hp ▸ h) (r.mono e) z
  | dct h r z => exact .dct (hp ▸ h) (r.mono e) z
  | ins h c r k => exact .ins (hp ▸ h) c (r.mono e) k
theorem AH.new {st : Store} (A : AH T ms st H) {p : Addr} {o : HO} (h : H p = none) : AH T ms st (upd H p o) :=
  ⟨A.len, A.nd, fun q hq => ⟨upd_some (A.hd q hq).1, (A.hd q hq).2⟩, fun i q u hq hu => (A.at_ i q u hq hu).mono (Evo.new A h) (upd_ne fun z => A.fresh1 h (z ▸ mem_at hq))⟩
theorem AH.newM {st : Store} (A : AH T ms st H) {p : Addr} {o : HO} {u : O} (h : H p = none) (r : RO T (ms ++ [p]) (upd H p o) p u) : AH T (ms ++ [p]) (st ++ [u]) (upd H p o) := by
  have hf := A.fresh1 h
  refine ⟨by simp [A.len], by
    rw [List.nodup_append]
    exact ⟨A.nd, List.nodup_cons.mpr ⟨by simp, List.nodup_nil⟩, fun a ha b hb => by
      have e : b = p := by simpa using hb
      subst e; exact fun z => hf (z ▸ ha)⟩, fun q hq => ⟨upd_some (A.hd q hq).1, fun z => by
    rcases List.mem_append.mp z with z | z
    · exact (A.hd q hq).2 z
    · have e : q = p := by simpa using z
      subst e; exact (A.hd q hq).1 h⟩, fun i q x hq hx => ?_⟩
  by_cases hi : i < ms.length
  · rw [List.getElem?_append_left hi] at hq
    rw [List.getElem?_append_left (A.len ▸ hi)] at hx
    exact (A.at_ i q x hq hx).mono (Evo.newM A h) (upd_ne fun z => hf (z ▸ mem_at hq))
  · have hl := A.len
    have hi' : i < (ms ++ [p]).length := (List.getElem?_eq_some_iff.mp hq).1
    rw [List.length_append, List.length_singleton] at hi'
    have e : i = ms.length := by omega
    subst e
    rw [List.getElem?_append_right (Nat.le_refl _)] at hq
    rw [List.getElem?_append_right (by omega)] at hx
    simp at hq
    rw [hl] at hx
    simp at hx
    subst hq; subst hx
    exact r
theorem AH.wr {st : Store} (A : AH T ms st H) {a : Nat} {p : Addr} {o : HO} {u : O} (h : ms[a]? = some p) (r : RO T ms (upd H p o) p u) : AH T ms (st.set a u) (upd H p o) := by
  refine ⟨by simp [A.len], A.nd, fun q hq => ⟨upd_some (A.hd q hq).1, (A.hd q hq).2⟩, fun i q x hq hx => ?_⟩
  by_cases hi : a = i
  · subst hi
    rw [h] at hq; cases hq
    have hl : a < st.length := by rw [← A.len]; exact (List.getElem?_eq_some_iff.mp h).1
    rw [List.getElem?_set_self hl] at hx; cases hx
    exact r
  · rw [List.getElem?_set_ne hi] at hx
    have hne : q ≠ p := fun z => by
      subst z
      exact hi ((List.getElem_inj A.nd).mp ((List.getElem?_eq_some_iff.mp h).2.trans (List.getElem?_eq_some_iff.mp hq).2.symm))
    exact (A.at_ i q x hq hx).mono (Evo.wr (mem_at h)) (upd_ne hne)
end
end CT

set_option maxRecDepth 100000
/-! The own syntax beside the text's, and what an expression's reading is. -/
namespace CT
open PySem L2

mutual
def toPy : D → PyData
  | .non => .none | .bl b => .bool b | .int i => .int i | .str s => .str (tx s)
  | .tup ds => .tuple (toPys ds) | .lst ds => .list (toPys ds)
  | _ => .none
def toPys : List D → List PyData
  | [] => []
  | d :: ds => toPy d :: toPys ds
end
/-- repr, as the language has it -/
def rpD (d : D) : Option (List Nat) := if (dispD d && D.plain 8 d && (toPy d).showable && decide ((toPy d).shown.length ≤ LIM)) = true then some (toPy d).shown.cps.toList else none
/-- names by the tables' numbers -/
structure Nm where
  fn : Nat → Str
  cl : Nat → Str
  xc : Nat → Str
  gl : Nat → Str
  fd : Nat → Str
  mt : Nat → Str
/-- where a piece of syntax stands: slots' names, the scope, the names that may be stored, not within an except suite -/
structure MC where
  nm : Nm
  N : List Str
  sc : Scope
  stor : List Str
  cm : Bool

def visB (sc : Scope) (x : Str) : Bool := match sc.names.lookup x with
  | some .local => true
  | some .cell => true
  | some .free => true
  | _ => false
def locB (sc : Scope) (x : Str) : Bool := match sc.names.lookup x with
  | some .local => true
  | some .cell => true
  | _ => false
theorem vis_of {sc x} (h : visB sc x = true) : Vis sc x := by
  unfold visB at h
  split at h
  · exact .inl (by assumption)
  · exact .inr (.inl (by assumption))
  · exact .inr (.inr (by assumption))
  · cases h
theorem loc_of {sc x} (h : locB sc x = true) : Loc sc x := by
  unfold locB at h
  split at h
  · exact .inl (by assumption)
  · exact .inr (by assumption)
  · cases h
/-- a global name: the built-ins' and the module's own -/
def glbB (c : MC) (x : Str) : Bool := decide (c.sc.names.lookup x = some .globalImplicit) && !(x == ("__debug__" : Str)) && !(x == ("__name__" : Str))
/-- no bare call without arguments: its attributes are plain -/
def noSup : Expr → Bool
  | .Call _ [] [] _ => false
  | _ => true
theorem noSup_ok {o : Expr} (h : noSup o = true) (f : Str) (env : PySem.Env) (w : Sem Value) : attributeBase o f env w = w := by
  unfold attributeBase
  split
  · simp [noSup] at h
  · rfl
def noStar : Expr → Bool
  | .Starred _ _ => false
  | _ => true
theorem star_cons {e : Expr} (es : List Expr) (env : PySem.Env) (h : noStar e = true) : starEach (e :: es) env = (false, eval e env) :: starEach es env := by
  cases e <;> first | rfl | (simp [noStar] at h)
/-- what isTrue does not take apart -/
def plainT : Expr → Bool
  | .UnaryOp .Not _ _ => false
  | .BoolOp _ _ _ => false
  | .IfExp _ _ _ _ => false
  | .Compare _ _ _ _ => false
  | _ => true
theorem plainT_ok {e : Expr} (h : plainT e = true) (env : PySem.Env) (whole : Sem Value) : PySem.isTrue e env whole = (do let v ← whole; standAt e.pos; holding [v] (truthy v)) := by
  cases e with
  | UnaryOp op _ _ => cases op <;> first | rfl | (simp [plainT] at h)
  | _ => first | rfl | (simp [plainT] at h)
/-- what is stored as it is -/
def plainV : Expr → Bool
  | .ListComp _ _ _ _ => false
  | .SetComp _ _ _ _ => false
  | .DictComp _ _ _ _ _ => false
  | _ => true
theorem swaps_no {v : Expr} (h : plainV v = true) (t : Option Expr) (l : Nat) (env : PySem.Env) : swapsWith v t l env = pure false := by
  unfold swapsWith
  split
  · split at * <;> simp_all [plainV]
  · rfl
def noSet : Expr → Bool
  | .Set _ _ _ => false
  | _ => true
theorem noSet_ok {e : Expr} (h : noSet e = true) (env : PySem.Env) (x : Value) : foldedSetIterable e env x = pure x := by
  unfold foldedSetIterable
  split
  · simp [noSet] at h
  · rfl
theorem noMark {e : Expr} (h : noSet e = true) (op : CmpOp) : behindInMarks op e = false := by
  unfold behindInMarks
  split
  · simp [noSet] at h
  · rfl
end CT

set_option maxRecDepth 100000
/-! What the readings say; the first expressions. -/
namespace CT
open PySem L2

/-- a result beside what the text does: a from the evaluator, b the layer's -/
def Pst {α β : Type} (T : TT) (W : WX) (τ : St) (ms : List Addr) (H : Hp) (r : R α) (rel : List Addr → Hp → α → β → Prop) (Q : β → Hp → Prop) : Prop := match r with
  | .ok a st' => ∀ b ms' H', Evo ms H ms' H' → AH T ms' st' H' → rel ms' H' a b → Q b H'
  | .ex c pl st' => ∀ dd ms' H', Evo ms H ms' H' → AH T ms' st' H' → RX T ms' H' c pl dd → W (.ref (T.xa c)) dd τ H'
  | .bad => False
section
variable {T : TT} {W : WX} {τ : St} {ms ms' : List Addr} {H H' : Hp} {α β γ δ : Type}
theorem Pst.mono {r : R α} {rel : List Addr → Hp → α → β → Prop} {Q : β → Hp → Prop} (e : Evo ms H ms' H') (h : Pst T W τ ms H r rel Q) : Pst T W τ ms' H' r rel Q := by
  cases r with
  | ok a st => exact fun b ms2 H2 e2 => h b ms2 H2 (e.trans e2)
  | ex c pl st => exact fun dd ms2 H2 e2 => h dd ms2 H2 (e.trans e2)
  | bad => exact h
/-- the first part, with what follows kept -/
theorem Pst.bind {r : R α} {f : α → Store → R γ} {rel : List Addr → Hp → α → β → Prop} {rel2 : List Addr → Hp → γ → δ → Prop} {Q : β → Hp → Prop} {Q2 : δ → Hp → Prop}
    (h : Pst T W τ ms H (r.bind f) rel2 Q2)
    (k : ∀ a st1 b ms1 H1, r = .ok a st1 → Evo ms H ms1 H1 → AH T ms1 st1 H1 → rel ms1 H1 a b → Pst T W τ ms1 H1 (f a st1) rel2 Q2 → Q b H1) : Pst T W τ ms H r rel Q := by
  cases r with
  | ok a st => exact fun b ms1 H1 e A hr => k a st b ms1 H1 rfl e A hr (Pst.mono e h)
  | ex c pl st => exact h
  | bad => exact h
theorem Pst.ok {a : α} {st : Store} {b : β} {rel : List Addr → Hp → α → β → Prop} {Q : β → Hp → Prop} (h : Pst T W τ ms H (.ok a st) rel Q) (A : AH T ms st H) (r : rel ms H a b) : Q b H := h b ms H .refl A r
end

/-- what holds at an expression's start -/
structure At (T : TT) (σ : Env) (st : Store) (ms : List Addr) (τ : St) (H : Hp) : Prop where
  ah : AH T ms st H
  as : AS T ms H σ τ
theorem At.go {T σ st st' ms ms' τ H H'} (a : At T σ st ms τ H) (e : Evo ms H ms' H') (A : AH T ms' st' H') : At T σ st' ms' τ H' := ⟨A, a.as.mono e⟩

def relE (T : TT) (ms : List Addr) (H : Hp) (d : D) (v : V) : Prop := RD T ms H d v
def relB (ms : List Addr) (H : Hp) (a b : Bool) : Prop := a = b
/-- an expression's reading -/
def tE (T : TT) (k : Nat) (W : WX) (e : E) : TE := fun τ H Q => ∃ ms σ st, At T σ st ms τ H ∧ Pst T W τ ms H (evE T.P (runF T.P k) σ e st) (RD T) Q
def tT (T : TT) (k : Nat) (W : WX) (e : E) : L2.TT := fun τ H Q => ∃ ms σ st, At T σ st ms τ H ∧ Pst T W τ ms H (evT T.P (runF T.P k) σ e st) relB Q
def tA (T : TT) (k : Nat) (W : WX) (es : Es) : TA := fun τ H Q => ∃ ms σ st, At T σ st ms τ H ∧ Pst T W τ ms H (evEs T.P (runF T.P k) σ es st) (RDs T) Q

/-! ### calls -/
def PstX (T : TT) (ms : List Addr) (H : Hp) (r : R D) (Q : VK) (E : XK) : Prop := Pst T (fun c d _ H => E c d H) [] ms H r (RD T) Q
/-- a def keeps what the evaluator says of it, at a level -/
def CallOk (T : TT) (k : Nat) (f : Nat) : Prop := ∀ (A : Around) (outer : List PySem.Env) (s : Shared) (H : Hp) (us : List Value) (vs : List V) (Q : VK) (E : XK),
  Room (2 * k + 2) A → A.guards = some [] → Env0 T.pp T.w T.K T.mg T.base A outer s H → Vals vs us →
  (∃ ms st ds, AH T ms st H ∧ RDs T ms H ds vs ∧ PstX T ms H (runF T.P k f ds st) Q E) →
  codeAny (model T.pp T.w) A (.call (.ref (T.fa f)) ⟨us, []⟩) (CR (CX T.pp T.w) outer T.pp T.w H s Q E) s

/-- built-ins' names -/
def biN : Bi → Str
  | .len => "len" | .max2 => "max" | .min2 => "min" | .max1 => "max" | .min1 => "min" | .sum => "sum" | .all => "all" | .any => "any" | .abs => "abs"
  | .int => "int" | .str => "str" | .repr => "repr" | .sorted => "sorted" | .tuple => "tuple" | .list => "list" | .dict => "dict" | .lenset => "len" | .zip => "list"
def bmN : Bm → Str
  | .join => "join" | .get => "get" | .get2 => "get" | .append => "append" | .reverse => "reverse" | .pop => "pop" | .clear => "clear" | .update => "update" | .setdef => "setdefault" | .index => "index"
  | .replace => "replace" | .split => "split"
def tyN : Ty → Str
  | .int => "int" | .str => "str" | .tup => "tuple" | .lst => "list" | .bool => "bool" | .dct => "dict" | .base => "ValueError" | .exc _ => ""
def tyOkB : Ty → Bool
  | .exc _ => false | _ => true
/-- the name of what isinstance asks for -/
def tyNB (nm : Nm) (t : Ty) (z : Str) : Bool := match t with
  | .exc k => decide (z = nm.xc k) && !(z == ("" : Str))
  | t => decide (z = tyN t)
def bopB : Bop → Operator → Bool
  | .add, .Add => true | .sub, .Sub => true | .mul, .Mult => true | .fdiv, .FloorDiv => true | .mod, .Mod => true | .pow, .Pow => true
  | _, _ => false
def copB : Cop → CmpOp → Bool
  | .eq, .Eq => true | .ne, .NotEq => true | .lt, .Lt => true | .le, .LtE => true | .gt, .Gt => true | .ge, .GtE => true | .isin, .In => true | .notin, .NotIn => true
  | _, _ => false
def isB : Bool → CmpOp → Bool
  | true, .Is => true | false, .IsNot => true
  | _, _ => false
def noSlice : Expr → Bool
  | .Slice _ _ _ _ => false
  | _ => true
/-- the rest of an and, an or -/
def oneB (op : PySem.BoolOp) (l : List Expr) (pos : Pos) : Expr := match l with
  | [y] => y
  | l => .BoolOp op l pos
def ownG (N : List Str) : G → List (Str × Nat)
  | .nm i => [((N[i]?).getD "", i)]
  | .tp gs => ownGs N gs
where ownGs (N : List Str) : List G → List (Str × Nat)
  | [] => []
  | g :: gs => ownG N g ++ ownGs N gs
mutual
/-- a target -/
def mG (c : MC) : G → Expr → Bool
  | .nm i, .Name x _ => decide (c.N[i]? = some x) && locB c.sc x && decide (x ∈ c.stor)
  | .tp gs, .Tuple xs _ _ => c.cm && mGs c gs xs && decide (xs.length ≤ 40)
  | _, _ => false
def mGs (c : MC) : List G → List Expr → Bool
  | [], [] => true
  | g :: gs, x :: xs => mG c g x && noStar x && mGs c gs xs
  | _, _ => false
end
/-- the block of a comprehension -/
def MC.blk (c : MC) (scope : Scope) (own : List (Str × Nat)) : MC := { c with sc := relS scope c.sc, stor := own.map (·.1) }
/-- the block's own names may be stored there -/
def ownB (scope sc : Scope) (own : List (Str × Nat)) : Bool := own.all fun p => decide (scope.names.lookup p.1 = some .cell) || decide ((relS scope sc).names.lookup p.1 = some .local)
def isTup : Expr → Bool
  | .Tuple _ _ _ => true
  | _ => false
mutual
/-- the own syntax is the text's -/
def mE (c : MC) : E → Expr → Bool
  | .var i, x0 => match x0 with
    | .Name x _ => decide (c.N[i]? = some x) && visB c.sc x && !(x == ("__debug__" : Str)) && !(x == ("__classdict__" : Str))
    | _ => false
  | .non, x0 => match x0 with
    | .Constant .none _ _ => true
    | _ => false
  | .bl b, x0 => match x0 with
    | .Constant (.bool k) _ _ => b == k
    | _ => false
  | .int i, x0 => match x0 with
    | .Constant (.int k) _ _ => i == k
    | _ => false
  | .str s, x0 => match x0 with
    | .Constant (.str x) _ _ => decide (x.cps.toList = s) && decide (s.length ≤ LIM)
    | _ => false
  | .tup es, x0 => match x0 with
    | .Tuple xs _ _ => mEs c es xs && decide (xs.length ≤ 1000)
    | _ => false
  | .lst _ es, x0 => match x0 with
    | .List xs _ => mEs c es xs && decide (xs.length ≤ 1000)
    | _ => false
  | .dct _ kvs, x0 => match x0 with
    | .Dict ks vs _ => mKv c kvs ks vs && decide (ks.length ≤ 15)
    | _ => false
  | .bin _ o a b, x0 => match x0 with
    | .BinOp x op y _ => bopB o op && mE c a x && mE c b y
    | _ => false
  | .rpl _ es n, x0 => match x0 with
    | .BinOp (.List xs _) .Mult y _ => mEs c es xs && decide (xs.length ≤ 1000) && mE c n y
    | _ => false
  | .neg a, x0 => match x0 with
    | .UnaryOp .USub x _ => mE c a x
    | _ => false
  | .nt a, x0 => match x0 with
    | .UnaryOp .Not x _ => mE c a x
    | _ => false
  | .cmp o a b, x0 => match x0 with
    | .Compare x [op] [y] _ => copB o op && mE c a x && mE c b y && noSet y
    | _ => false
  | .chn o p a b d, x0 => match x0 with
    | .Compare x [op, op2] [y, z] _ => copB o op && copB p op2 && mE c a x && mE c b y && mE c d z && noSet y && noSet z
    | _ => false
  | .isn y a, x0 => match x0 with
    | .Compare x [op] [.Constant .none _ _] _ => isB y op && mE c a x
    | _ => false
  | .isb y k a, x0 => match x0 with
    | .Compare x [op] [.Constant (.bool j) _ _] _ => isB y op && (k == j) && mE c a x
    | _ => false
  | .andE a b, x0 => match x0 with
    | .BoolOp .And (x :: y :: r) pos => mE c a x && mE c b (oneB .And (y :: r) pos)
    | _ => false
  | .orE a b, x0 => match x0 with
    | .BoolOp .Or (x :: y :: r) pos => mE c a x && mE c b (oneB .Or (y :: r) pos)
    | _ => false
  | .ife t a b, x0 => match x0 with
    | .IfExp z x y _ => mT c t z && mE c a x && mE c b y
    | _ => false
  | .idx a b, x0 => match x0 with
    | .Subscript x y _ => mE c a x && mE c b y && noSlice y
    | _ => false
  | .slc _ a lo hi, x0 => match x0 with
    | .Subscript x (.Slice l h none _) _ => mE c a x && (match l with | none => lo.isNo | some l => !lo.isNo && mE c lo l) && (match h with | none => hi.isNo | some h => !hi.isNo && mE c hi h)
    | _ => false
  | .atr a f, x0 => match x0 with
    | .Attribute x n _ => mE c a x && decide (n = c.nm.fd f) && noSup x
    | _ => false
  | .stp m a k, x0 => match x0 with
    | .Subscript x (.Slice none none (some (.UnaryOp .USub (.Constant (.int 1) _ _) _)) _) _ => mE c a x && decide (k = -1)
    | .Subscript x (.Slice none none (some (.Constant (.int 2) _ _)) _) _ => mE c a x && decide (k = 2) && !m
    | _ => false
  | .call f es, x0 => match x0 with
    | .Call (.Name x _) xs [] _ => c.cm && decide (x = c.nm.fn f) && !(x == ("" : Str)) && glbB c x && mEs c es xs
    | _ => false
  | .mth a n es, x0 => match x0 with
    | .Call (.Attribute x m ap) xs [] pos => c.cm && mE c a x && decide (m = c.nm.mt n) && noSup x && (ap.endLine == pos.line) && mEs c es xs && decide (xs.length ≤ 20)
    | _ => false
  | .mk _ k es, x0 => match x0 with
    | .Call (.Name x _) xs [] _ => c.cm && decide (x = c.nm.cl k) && glbB c x && mEs c es xs
    | _ => false
  | .bi _ b es, x0 => match x0 with
    | .Call (.Name x _) xs [] _ => c.cm && biS b && decide (x = biN b) && glbB c x && mEs c es xs
    | _ => false
  | .bm m0 b a es, x0 => match x0 with
    | .Call (.Attribute x m ap) xs [] pos => c.cm && bmS m0 b && mE c a x && decide (m = bmN b) && noSup x && (ap.endLine == pos.line) && mEs c es xs && decide (xs.length ≤ 20)
    | _ => false
  | .isi a t, x0 => match x0 with
    | .Call (.Name x _) [y, .Name z _] [] _ => decide (x = ("isinstance" : Str)) && glbB c x && glbB c z && mE c a y && noStar y && tyNB c.nm t z
    | _ => false
  | .lc _ el tg it cnd, x0 => match x0 with
    | .ListComp x [⟨t, i, ifs, 0⟩] scope _ => c.cm && mI c it t i && noSet i && blkC c.N c.sc scope (ownG c.N tg) && ownB scope c.sc (ownG c.N tg) && mG (c.blk scope (ownG c.N tg)) tg t && mE (c.blk scope (ownG c.N tg)) el x &&
          (match ifs with
            | [] => cnd.isNo
            | [z] => !cnd.isNo && mT (c.blk scope (ownG c.N tg)) cnd z
            | _ => false)
    | _ => false
  | .glb g, x0 => match x0 with
    | .Name x _ => decide (x = c.nm.gl g) && glbB c x
    | _ => false
  | .fnv f, x0 => match x0 with
    | .Name x _ => decide (x = c.nm.fn f) && !(x == ("" : Str)) && glbB c x
    | _ => false
  | .clv i es, x0 => match x0 with
    | .Call (.Name x _) xs [] _ => c.cm && decide (c.N[i]? = some x) && visB c.sc x && !(x == ("__debug__" : Str)) && !(x == ("__classdict__" : Str)) && mEs c es xs
    | _ => false
  | _, _ => false
/-- .. as a test -/
def mT (c : MC) : E → Expr → Bool
  | .nt a, x0 => match x0 with
    | .UnaryOp .Not x _ => mT c a x
    | _ => false
  | .andE a b, x0 => match x0 with
    | .BoolOp .And (x :: y :: r) pos => mT c a x && mT c b (oneB .And (y :: r) pos)
    | _ => false
  | .orE a b, x0 => match x0 with
    | .BoolOp .Or (x :: y :: r) pos => mT c a x && mT c b (oneB .Or (y :: r) pos)
    | _ => false
  | .cmp o a b, x0 => match x0 with
    | .Compare x [op] [y] _ => copB o op && mE c a x && mE c b y && noSet y
    | _ => false
  | .chn o p a b d, x0 => match x0 with
    | .Compare x [op, op2] [y, z] _ => copB o op && copB p op2 && mE c a x && mE c b y && mE c d z && noSet y && noSet z
    | _ => false
  | .isn y a, x0 => match x0 with
    | .Compare x [op] [.Constant .none _ _] _ => isB y op && mE c a x
    | _ => false
  | .isb y k a, x0 => match x0 with
    | .Compare x [op] [.Constant (.bool j) _ _] _ => isB y op && (k == j) && mE c a x
    | _ => false
  | .var i, x0 => match x0 with
    | .Name x _ => decide (c.N[i]? = some x) && visB c.sc x && !(x == ("__debug__" : Str)) && !(x == ("__classdict__" : Str))
    | _ => false
  | .bl b, x0 => match x0 with
    | .Constant (.bool k) _ _ => b == k
    | _ => false
  | .idx a b, x0 => match x0 with
    | .Subscript x y _ => mE c a x && mE c b y && noSlice y
    | _ => false
  | .atr a f, x0 => match x0 with
    | .Attribute x n _ => mE c a x && decide (n = c.nm.fd f) && noSup x
    | _ => false
  | .call f es, x0 => match x0 with
    | .Call (.Name x _) xs [] _ => c.cm && decide (x = c.nm.fn f) && !(x == ("" : Str)) && glbB c x && mEs c es xs
    | _ => false
  | .bi _ b es, x0 => match x0 with
    | .Call (.Name x _) xs [] _ => c.cm && biS b && decide (x = biN b) && glbB c x && mEs c es xs
    | _ => false
  | .isi a t, x0 => match x0 with
    | .Call (.Name x _) [y, .Name z _] [] _ => decide (x = ("isinstance" : Str)) && glbB c x && glbB c z && mE c a y && noStar y && tyNB c.nm t z
    | _ => false
  | _, _ => false
def mEs (c : MC) : Es → List Expr → Bool
  | .nil, [] => true
  | .cons e r, x :: xs => mE c e x && noStar x && mEs c r xs
  | _, _ => false
def mKv (c : MC) : Kv → List (Option Expr) → List Expr → Bool
  | .nil, [], [] => true
  | .cons k v r, some x :: xs, y :: ys => mE c k x && mE c v y && mKv c r xs ys
  | _, _, _ => false
/-- what is walked, beside its target -/
def mI (c : MC) : I → Expr → Expr → Bool
  | .seq e, _, x => mE c e x
  | .rng1 a, _, x0 => match x0 with
    | .Call (.Name f _) [x] [] _ => decide (f = ("range" : Str)) && glbB c f && mE c a x && noStar x
    | _ => false
  | .rng2 a b, _, x0 => match x0 with
    | .Call (.Name f _) [x, y] [] _ => decide (f = ("range" : Str)) && glbB c f && mE c a x && noStar x && mE c b y && noStar y
    | _ => false
  | .rng3 a b d, _, x0 => match x0 with
    | .Call (.Name f _) [x, y, z] [] _ => decide (f = ("range" : Str)) && glbB c f && mE c a x && noStar x && mE c b y && noStar y && mE c d z && noStar z
    | _ => false
  | .zip a b, t, x0 => match x0 with
    | .Call (.Name f _) [x, y] [] _ => isTup t && decide (f = ("zip" : Str)) && glbB c f && mE c a x && noStar x && mE c b y && noStar y
    | _ => false
  | .enm a, t, x0 => match x0 with
    | .Call (.Name f _) [x] [] _ => isTup t && decide (f = ("enumerate" : Str)) && glbB c f && mE c a x && noStar x
    | _ => false
  | .rev a, _, x0 => match x0 with
    | .Call (.Name f _) [x] [] _ => decide (f = ("reversed" : Str)) && glbB c f && mE c a x && noStar x
    | _ => false
  | _, _, _ => false
end

/-- an own exception class without a field, made of a text -/
structure XNo (K : PySem.W.Frag) (C : Addr) : Prop where
  base : ∃ (B newId initId : String) (bmB : List Value), ExcBaseFacts B newId initId bmB ∧ PySem.W.excIn K C bmB newId = true
  kC : PySem.W.keepIn K (.ref C) = true
  exC : PySem.W.subIn K (.ref C) (.type "BaseException") = some true
  tyC : PySem.W.typeIn K (.ref C) = some (.type "type")
/-- one with a field, that its own __init__ stores -/
structure XIni (K : PySem.W.Frag) (C : Addr) (f : Str) : Prop where
  oex : OexC K C
  nof : PySem.W.findIn K (.ref C) f = some none
  ini : ∃ (fI : Addr) (name qual n1 n2 : Str) (params : Arguments) (scope : Scope) (kV doc pm cdv ct oc : Value) (an od : Option Addr) (osl : Array (Option Value)) (p1 p2 p3 p4 : Pos),
    PySem.W.findIn K (.ref C) "__init__" = some (some (.ref fI)) ∧ PySem.W.typeIn K (.ref fI) = some (.type "function") ∧
    K.lookup fI = some ⟨oc, od, .func (PySem.W.fnOf name qual params [.Assign [.Attribute (.Name n1 p1) f p2] (.Name n2 p3) p4] scope .none kV doc pm an cdv ct), osl⟩ ∧ PySem.W.codeIn K cdv qual = true ∧ FnScope [n1, n2] [n1, n2] scope ∧
    (n1 == ("__debug__" : Str)) = false ∧ (n1 == ("__classdict__" : Str)) = false ∧ (n2 == ("__debug__" : Str)) = false ∧ (n2 == ("__classdict__" : Str)) = false ∧
    ∀ u1 u2 : Value, bindArgs (PySem.W.fnOf name qual params [.Assign [.Attribute (.Name n1 p1) f p2] (.Name n2 p3) p4] scope .none kV doc pm an cdv ct) ⟨[u1, u2], []⟩ = pure ([n1, n2].zip [u1, u2])
/-- the tables beside the written part -/
structure TOk (T : TT) (nm : Nm) : Prop where
  fn : ∀ f, nm.fn f ≠ "" → T.mg (nm.fn f) = some (.ref (T.fa f)) ∧ PySem.W.keepIn T.K (.ref (T.fa f)) = true
  cl : ∀ c k, T.P.cl c = some k → T.mg (nm.cl c) = some (.ref (T.ca c)) ∧ Mk T.K (T.ca c) (T.fa k.init) ∧ Cls T.K (T.ca c)
  fd : nm.fd = T.fnm
  na : ∀ c k f, T.P.cl c = some k → f ∈ k.fields → NoAttr T.K (T.ca c) (T.fnm f)
  mt : ∀ c k n f, T.P.cl c = some k → k.meths.lookup n = some f → Meth T.K (T.ca c) (nm.mt n) (T.fa f)
  nmt : ∀ n f, T.fnm f ≠ nm.mt n
  cinj : ∀ c d, (T.P.cl c).isSome → (T.P.cl d).isSome → T.ca c = T.ca d → c = d
  finj : ∀ f g, T.fnm f = T.fnm g → f = g
  gl : ∀ g d, T.P.glb g = some d → ∃ v u, T.mg (nm.gl g) = some u ∧ RelV v u ∧ ∀ hs ms H, RD (T.hide hs) ms H d v
  kp : ∀ f, (T.P.fn f).isSome = true → PySem.W.keepIn T.K (.ref (T.fa f)) = true
  flen : ∀ c k, T.P.cl c = some k → k.fields.length < 1000
  xf : ∀ c f, T.P.xf c = some f → XfC T.K (T.xa c) ∧ PySem.W.findIn T.K (.ref (T.xa c)) (T.fnm f) = some none
  xg : ∀ c, nm.xc c ≠ "" → T.mg (nm.xc c) = some (.ref (T.xa c)) ∧ T.P.sub c c = true
  xno : ∀ c, T.P.xf c = none → T.P.sub c c = true → XNo T.K (T.xa c)
  xin : ∀ c f, T.P.xf c = some f → T.P.sub c c = true → XIni T.K (T.xa c) (T.fnm f)
  xs : ∀ c k, T.P.sub c c = true → T.P.sub k k = true → PySem.W.exmOne T.K (.ref (T.xa c)) (.ref (T.xa k)) = some (T.P.sub c k)
  xc : ∀ c, T.P.sub c c = true → ExcC T.K (T.xa c)
  xk : ∀ c k, T.P.sub c c = true → T.P.sub k k = true → PySem.W.kitOne T.K (.ref (T.xa c)) (.ref (T.xa k)) = some (T.P.sub c k)
  xb : ∀ c, T.P.sub c c = true → PySem.W.kitOne T.K (.ref (T.xa c)) (.type "ValueError") = some true
  blt : ∀ x ∈ (["len", "max", "min", "sum", "all", "any", "abs", "int", "str", "repr", "sorted", "tuple", "list", "dict", "range", "zip", "enumerate", "reversed", "isinstance", "bool", "set", "ValueError"] : List Str), T.mg x = none
  rp : ∀ d t, T.P.rp d = some t → rpD d = some t

theorem ix_mem {l : List Nat} {f i : Nat} (h : l.findIdx? (· == f) = some i) : f ∈ l := by
  have z : (l.findIdx? (· == f)).isSome = true := by rw [h]; rfl
  rw [List.findIdx?_isSome] at z
  obtain ⟨x, hx, e⟩ := List.any_eq_true.mp z
  exact (beq_iff_eq.mp e) ▸ hx
/-- where an expression stands -/
structure Good (T : TT) (k : Nat) (W : WX) (c : MC) (X : Cx) : Prop where
  pp : X.prog = T.pp
  w : X.w = T.w
  K : X.K = T.K
  mg : X.mg = T.mg
  base : X.base = T.base
  N : X.N = c.N
  nd : c.N.Nodup
  sc : X.env.scope = c.sc
  stor : ∀ x ∈ c.stor, X.fn x = true ∨ X.env.scope.names.lookup x = some .local
  calm : c.cm = true → X.calm = true
  room : c.cm = true → Room (2 * k + 3) X.A
  units : X.A.units + 100 < cLine
  grd : X.A.guards = some []
  tk : Takes X W
  tok : TOk T c.nm
  fns : c.cm = true → ∀ hs f, CallOk (T.hide hs) k f
theorem Good.hu {T k W c X} (g : Good T k W c X) : X.A.units + 1 < cLine := by have := g.units; omega
theorem Good.gl {T k W c X} (g : Good T k W c X) {x : Str} (h : glbB c x = true) : Gl X x ∧ (x == ("__debug__" : Str)) = false ∧ x ≠ "__name__" := by
  unfold glbB at h
  simp only [Bool.and_eq_true, decide_eq_true_eq, Bool.not_eq_true'] at h
  refine ⟨?_, h.1.2, by simpa using h.2⟩
  show X.env.scope.names.lookup x = _
  rw [g.sc]; exact h.1.1

/-- an expression's promise -/
structure SE (T : TT) (k : Nat) (e : E) : Prop where
  pe : ∀ (W : WX) (c : MC) (X : Cx) (x : Expr), Good T k W c X → mE c e x = true → PE X x (tE T k W e)
  pt : ∀ (W : WX) (c : MC) (X : Cx) (x : Expr), Good T k W c X → mT c e x = true → PT X x (tT T k W e)
theorem PE.imp {X : Cx} {e : Expr} {t t' : TE} (h : PE X e t) (i : ∀ σ H Q, t' σ H Q → t σ H Q) : PE X e t' := ⟨fun pins s σ H Q I hq => h.run pins s σ H Q I (i _ _ _ hq)⟩
theorem PT.imp {X : Cx} {e : Expr} {t t' : L2.TT} (h : PT X e t) (i : ∀ σ H Q, t' σ H Q → t σ H Q) : PT X e t' := ⟨fun pins s σ H Q I hq => h.run pins s σ H Q I (i _ _ _ hq)⟩
theorem PA.imp {X : Cx} {e : List Expr} {t t' : TA} (h : PA X e t) (i : ∀ σ H Q, t' σ H Q → t σ H Q) : PA X e t' := ⟨fun pos pins s σ H Q I hq => h.run pos pins s σ H Q I (i _ _ _ hq)⟩
/-- a test that is a value's truth -/
theorem pt_of {T : TT} {k : Nat} {W : WX} {e : E} {X : Cx} {x : Expr} (h : PE X x (tE T k W e)) (hp : plainT x = true) : PT X x (tT T k W e) := by
  refine PT.imp (pt_val h fun whole => plainT_ok hp _ whole) ?_
  rintro τ H Q ⟨ms, σ, st, A, h⟩
  refine ⟨ms, σ, st, A, Pst.bind h fun d st1 v ms1 H1 _ ev ah rd h1 => ?_⟩
  cases d with
  | bl b => cases rd; exact ⟨b, rfl, Pst.ok h1 ah rfl⟩
  | _ => exact h1.elim
end CT

set_option maxRecDepth 100000
/-! Expressions, one by one. -/
namespace CT
open PySem L2
variable {T : TT} {k : Nat}

theorem sim : sizeLine = LIM := sizeLine_eq

theorem se_var (i : Nat) : SE T k (.var i) := by
  have pe : ∀ (W : WX) (c : MC) (X : Cx) (x : Expr), Good T k W c X → mE c (.var i) x = true → PE X x (tE T k W (.var i)) := by
    intro W c X x g h
    (simp only [mE] at h; split at h <;> first | (cases h; done) | skip); (simp only [Bool.and_eq_true, decide_eq_true_eq, Bool.not_eq_true', beq_iff_eq, bne_iff_ne, ne_eq] at h)
    refine PE.imp (pe_var (i := i) (by rw [g.N]; exact h.1.1.1) (by rw [g.sc]; exact vis_of h.1.1.2) (by simpa using h.1.2) (by simpa using h.2)) ?_
    rintro τ H Q ⟨ms, σ, st, A, p⟩
    cases e : (σ[i]?).getD none with
    | none => simp only [evE, e, R.of] at p; exact p.elim
    | some d =>
      simp only [evE, e, R.of] at p
      have e2 : σ[i]? = some (some d) := by
        cases h : σ[i]? with
        | none => rw [h] at e; cases e
        | some o => rw [h] at e; exact congrArg some e
      obtain ⟨v, h1, h2⟩ := A.as.at_ i d e2
      exact ⟨v, h1, Pst.ok p A.ah h2⟩
  refine ⟨pe, fun W c X x g h => ?_⟩
  have h2 : mE c (.var i) x = true := h
  refine pt_of (pe W c X x g h2) ?_
  (simp only [mT] at h; split at h <;> first | (cases h; done) | skip); (try simp only [Bool.and_eq_true, decide_eq_true_eq, Bool.not_eq_true', beq_iff_eq, bne_iff_ne, ne_eq] at h)
  rfl

theorem pst_c {W : WX} {e : E} {d : D} {v : V} (he : ∀ σ st, evE T.P (runF T.P k) σ e st = .ok d st) (r : ∀ ms H, RD T ms H d v) : ∀ τ H Q, tE T k W e τ H Q → tC v τ H Q := by
  rintro τ H Q ⟨ms, σ, st, A, p⟩
  rw [he] at p
  exact Pst.ok p A.ah (r _ _)
theorem no_pt {e : E} (h : ∀ c x, mT c e x = false) : ∀ (W : WX) (c : MC) (X : Cx) (x : Expr), Good T k W c X → mT c e x = true → PT X x (tT T k W e) := fun W c X x g q => by
  rw [h] at q; cases q
theorem se_non : SE T k .non := by
  refine ⟨fun W c X x g h => ?_, no_pt fun c x => by simp only [mT]⟩
  simp only [mE] at h
  split at h <;> first | (cases h; done) | skip
  exact PE.imp pe_non (pst_c (fun _ _ => rfl) fun _ _ => .non)
theorem se_bl (b : Bool) : SE T k (.bl b) := by
  have pe : ∀ (W : WX) (c : MC) (X : Cx) (x : Expr), Good T k W c X → mE c (.bl b) x = true → PE X x (tE T k W (.bl b)) := by
    intro W c X x g h
    (simp only [mE] at h; split at h <;> first | (cases h; done) | skip); (simp only [Bool.and_eq_true, decide_eq_true_eq, Bool.not_eq_true', beq_iff_eq, bne_iff_ne, ne_eq] at h)
    subst h
    exact PE.imp pe_bl (pst_c (fun _ _ => rfl) fun _ _ => .bl _)
  refine ⟨pe, fun W c X x g h => ?_⟩
  have h2 : mE c (.bl b) x = true := h
  refine pt_of (pe W c X x g h2) ?_
  (simp only [mT] at h; split at h <;> first | (cases h; done) | skip); (try simp only [Bool.and_eq_true, decide_eq_true_eq, Bool.not_eq_true', beq_iff_eq, bne_iff_ne, ne_eq] at h)
  rfl
theorem se_int (i : Int) : SE T k (.int i) := by
  refine ⟨fun W c X x g h => ?_, no_pt fun c x => by simp only [mT]⟩
  (simp only [mE] at h; split at h <;> first | (cases h; done) | skip); (simp only [Bool.and_eq_true, decide_eq_true_eq, Bool.not_eq_true', beq_iff_eq, bne_iff_ne, ne_eq] at h)
  subst h
  exact PE.imp pe_int (pst_c (fun _ _ => rfl) fun _ _ => .int _)
theorem tx_of {x : Str} {s : List Nat} (h : x.cps.toList = s) : x = tx s := by
  subst h; cases x; rfl
theorem se_str (s : List Nat) : SE T k (.str s) := by
  refine ⟨fun W c X x g h => ?_, no_pt fun c x => by simp only [mT]⟩
  (simp only [mE] at h; split at h <;> first | (cases h; done) | skip); (simp only [Bool.and_eq_true, decide_eq_true_eq, Bool.not_eq_true', beq_iff_eq, bne_iff_ne, ne_eq] at h)
  rw [tx_of h.1]
  exact PE.imp pe_str (pst_c (fun _ _ => rfl) fun _ _ => .str _ h.2)

/-! ### argument lists -/
structure SA (T : TT) (k : Nat) (es : Es) : Prop where
  pa : ∀ (W : WX) (c : MC) (X : Cx) (xs : List Expr), Good T k W c X → mEs c es xs = true → PA X xs (tA T k W es)
theorem sa_nil : SA T k .nil := ⟨fun W c X xs g h => by
  cases xs with
  | cons => simp only [mEs, Bool.false_eq_true] at h
  | nil =>
    refine PA.imp pa_nil ?_
    rintro τ H Q ⟨ms, σ, st, A, p⟩
    simp only [evEs] at p
    exact Pst.ok p A.ah .nil⟩
theorem sa_cons {e : E} {r : Es} (he : SE T k e) (hr : SA T k r) : SA T k (.cons e r) := ⟨fun W c X xs g h => by
  cases xs with
  | nil => simp only [mEs, Bool.false_eq_true] at h
  | cons x xs =>
    simp only [mEs] at h
    simp only [Bool.and_eq_true, decide_eq_true_eq, Bool.not_eq_true', beq_iff_eq, bne_iff_ne, ne_eq] at h
    refine PA.imp (pa_cons (he.pe W c X x g h.1.1) (hr.pa W c X xs g h.2) (star_cons _ _ h.1.2)) ?_
    rintro τ H Q ⟨ms, σ, st, A, p⟩
    simp only [evEs] at p
    refine ⟨ms, σ, st, A, Pst.bind p fun d st1 v ms1 H1 _ ev ah rd p1 => ?_⟩
    refine ⟨ms1, σ, st1, A.go ev ah, Pst.bind p1 fun ds st2 vs ms2 H2 _ ev2 ah2 rds p2 => ?_⟩
    exact Pst.ok p2 ah2 (.cons (rd.mono ev2) rds)⟩
theorem sa_len {c : MC} : ∀ {es : Es} {xs : List Expr} {σ : Env} {st st' : Store} {ds : List D}, mEs c es xs = true → evEs T.P (runF T.P k) σ es st = .ok ds st' → ds.length = xs.length
  | .nil, xs, σ, st, st', ds, h, e => by
    cases xs with
    | cons => simp only [mEs, Bool.false_eq_true] at h
    | nil => simp only [evEs] at e; cases e; rfl
  | .cons a r, xs, σ, st, st', ds, h, e => by
    cases xs with
    | nil => simp only [mEs, Bool.false_eq_true] at h
    | cons x xs =>
      simp only [mEs] at h
      simp only [Bool.and_eq_true, decide_eq_true_eq, Bool.not_eq_true', beq_iff_eq, bne_iff_ne, ne_eq] at h
      simp only [evEs] at e
      cases h1 : evE T.P (runF T.P k) σ a st with
      | ok d st1 =>
        simp only [h1, R.bind] at e
        cases h2 : evEs T.P (runF T.P k) σ r st1 with
        | ok ds2 st2 =>
          simp only [h2, R.bind] at e
          cases e
          exact congrArg (· + 1) (sa_len h.2 h2)
        | ex => simp only [h2, R.bind] at e; cases e
        | bad => simp only [h2, R.bind] at e; cases e
      | ex => simp only [h1, R.bind] at e; cases e
      | bad => simp only [h1, R.bind] at e; cases e

/-- a new tuple, a new list: what comes back -/
theorem pst_tup {W : WX} {τ ms H ds st vs} {Q : VK} {p : Addr} (h : Pst T W τ ms H (R.ok (D.tup ds) st) (RD T) Q) (A : AH T ms st H) (r : RDs T ms H ds vs) (hp : H p = none) : Q (.ref p) (upd H p (.tup vs)) := by
  have e := Evo.new (o := .tup vs) A hp
  exact h _ _ _ e (A.new hp) (.tup (.inl ⟨A.fresh hp, .inl upd_same⟩) (r.mono e))
theorem pst_lst {W : WX} {τ ms H ds st vs} {Q : VK} {p : Addr} {m : Bool} (h : Pst T W τ ms H (fin m (D.lst ds) st) (RD T) Q) (A : AH T ms st H) (r : RDs T ms H ds vs) (z : ds.length ≤ LIM) (hp : H p = none) : Q (.ref p) (upd H p (.lst vs)) := by
  cases m with
  | false =>
    have e := Evo.new (o := .lst vs) A hp
    exact h _ _ _ e (A.new hp) (.lst (.inl ⟨A.fresh hp, .inl upd_same⟩) (r.mono e) z)
  | true =>
    have e := Evo.newM (o := .lst vs) A hp
    have A2 := A.newM (o := .lst vs) (u := .lst ds) hp (.lst upd_same (r.mono e) z)
    refine h (.ref p) _ _ e A2 (.ref ?_)
    rw [← A.len, List.getElem?_append_right (Nat.le_refl _)]
    simp
theorem pst_dct {W : WX} {τ ms H ds st vs} {Q : VK} {p : Addr} {m : Bool} (h : Pst T W τ ms H (fin m (D.dct ds) st) (RD T) Q) (A : AH T ms st H) (r : RDk T ms H ds vs) (z : ds.length ≤ LIM) (hp : H p = none) : Q (.ref p) (upd H p (.dK vs)) := by
  cases m with
  | false =>
    have e := Evo.new (o := .dK vs) A hp
    exact h _ _ _ e (A.new hp) (.dct (A.fresh hp) upd_same (r.mono e) z)
  | true =>
    have e := Evo.newM (o := .dK vs) A hp
    have A2 := A.newM (o := .dK vs) (u := .dct ds) hp (.dct upd_same (r.mono e) z)
    refine h (.ref p) _ _ e A2 (.ref ?_)
    rw [← A.len, List.getElem?_append_right (Nat.le_refl _)]
    simp
theorem se_tup {es : Es} (ha : SA T k es) : SE T k (.tup es) := by
  refine ⟨fun W c X x g h => ?_, no_pt fun c x => by simp only [mT]⟩
  (simp only [mE] at h; split at h <;> first | (cases h; done) | skip); (simp only [Bool.and_eq_true, decide_eq_true_eq, Bool.not_eq_true', beq_iff_eq, bne_iff_ne, ne_eq] at h)
  refine PE.imp (pe_tup (ha.pa W c X _ g h.1)) ?_
  rintro τ H Q ⟨ms, σ, st, A, p⟩
  simp only [evE] at p
  refine ⟨ms, σ, st, A, Pst.bind p fun ds st1 vs ms1 H1 he ev ah rd p1 => ⟨?_, fun q hq => pst_tup p1 ah rd hq⟩⟩
  rw [← rd.length, sa_len h.1 he, sim]
  exact Nat.le_trans h.2 (by decide)
theorem se_lst {m : Bool} {es : Es} (ha : SA T k es) : SE T k (.lst m es) := by
  refine ⟨fun W c X x g h => ?_, no_pt fun c x => by simp only [mT]⟩
  (simp only [mE] at h; split at h <;> first | (cases h; done) | skip); (simp only [Bool.and_eq_true, decide_eq_true_eq, Bool.not_eq_true', beq_iff_eq, bne_iff_ne, ne_eq] at h)
  refine PE.imp (pe_lst (ha.pa W c X _ g h.1)) ?_
  rintro τ H Q ⟨ms, σ, st, A, p⟩
  simp only [evE] at p
  refine ⟨ms, σ, st, A, Pst.bind p fun ds st1 vs ms1 H1 he ev ah rd p1 => ?_⟩
  have hl : ds.length ≤ LIM := by rw [sa_len h.1 he]; exact Nat.le_trans h.2 (by decide)
  exact ⟨by rw [← rd.length, sim]; exact hl, fun q hq => pst_lst p1 ah rd hl hq⟩
end CT

set_option maxRecDepth 100000
/-! Operators. -/
namespace CT
open PySem L2 PyProof.Rows
variable {T : TT} {k : Nat}

/-! ### what is looked at -/
section
variable {ms : List Addr} {H : Hp} {st : Store} {d : D} {v : V}
theorem vw_ref {a : Nat} {p : Addr} {o : O} (A : AH T ms st H) (h : ms[a]? = some p) (ho : st[a]? = some o) : RO T ms H p o := A.at_ a p o h ho
theorem vw_lst {xs : List D} (A : AH T ms st H) (r : RD T ms H d v) (h : look st d = .lst xs) : ∃ p vs, v = .ref p ∧ SqL T.K H p vs ∧ RDs T ms H xs vs ∧ xs.length ≤ LIM := by
  cases r with
  | lst f s z => cases h; exact ⟨_, _, rfl, f.sq, s, z⟩
  | ref hp =>
    rename_i a p
    simp only [look] at h
    cases e : st[a]? with
    | none => rw [e] at h; cases h
    | some o =>
      rw [e] at h
      cases o with
      | lst ds => cases h; cases vw_ref A hp e with | lst h1 h2 h3 => exact ⟨p, _, rfl, .of h1, h2, h3⟩
      | dct _ => cases h
      | ins _ _ => cases h
  | _ => cases h
theorem vw_tup {xs : List D} (A : AH T ms st H) (r : RD T ms H d v) (h : look st d = .tup xs) : ∃ p vs, v = .ref p ∧ FT T ms H p vs ∧ RDs T ms H xs vs := by
  cases r with
  | tup f s => cases h; exact ⟨_, _, rfl, f, s⟩
  | ref hp =>
    rename_i a p
    simp only [look] at h
    cases e : st[a]? with
    | none => rw [e] at h; cases h
    | some o => rw [e] at h; cases o <;> cases h
  | _ => cases h
theorem vw_int {i : Int} (r : RD T ms H d v) (h : look st d = .int i) : v = .int i := by
  cases r with
  | int j => cases h; rfl
  | ref hp =>
    rename_i a p
    simp only [look] at h
    cases e : st[a]? with
    | none => rw [e] at h; cases h
    | some o => rw [e] at h; cases o <;> cases h
  | _ => cases h
theorem vw_bl {i : Bool} (r : RD T ms H d v) (h : look st d = .bl i) : v = .bl i := by
  cases r with
  | bl j => cases h; rfl
  | ref hp =>
    rename_i a p
    simp only [look] at h
    cases e : st[a]? with
    | none => rw [e] at h; cases h
    | some o => rw [e] at h; cases o <;> cases h
  | _ => cases h
theorem vw_str {s : List Nat} (r : RD T ms H d v) (h : look st d = .str s) : v = .str (tx s) ∧ s.length ≤ LIM := by
  cases r with
  | str j z => cases h; exact ⟨rfl, z⟩
  | ref hp =>
    rename_i a p
    simp only [look] at h
    cases e : st[a]? with
    | none => rw [e] at h; cases h
    | some o => rw [e] at h; cases o <;> cases h
  | _ => cases h
theorem vw_dct {kvs : List (Ky × D)} (A : AH T ms st H) (r : RD T ms H d v) (h : look st d = .dct kvs) : ∃ p ks, v = .ref p ∧ H p = some (.dK ks) ∧ RDk T ms H kvs ks ∧ kvs.length ≤ LIM := by
  cases r with
  | dct n hp s z => cases h; exact ⟨_, _, rfl, hp, s, z⟩
  | ref hp =>
    rename_i a p
    simp only [look] at h
    cases e : st[a]? with
    | none => rw [e] at h; cases h
    | some o =>
      rw [e] at h
      cases o with
      | lst ds => cases h
      | dct ds => cases h; cases vw_ref A hp e with | dct h1 h2 h3 => exact ⟨p, _, rfl, h1, h2, h3⟩
      | ins _ _ => cases h
  | _ => cases h
theorem vw_obj {c : Nat} {ds : List D} (A : AH T ms st H) (r : RD T ms H d v) (h : look st d = .obj c ds) : ∃ p dx fs, v = .ref p ∧ H p = some (.ins (T.ca c) dx fs) ∧ RDs T ms H ds (fs.map (·.2)) ∧
    ∃ k, T.P.cl c = some k ∧ fs.map (·.1) = (k.fields.take ds.length).map T.fnm := by
  cases r with
  | obj n hp e s q => cases h; subst e; exact ⟨_, _, _, rfl, hp, s, q⟩
  | ref hp =>
    rename_i a p
    simp only [look] at h
    cases e : st[a]? with
    | none => rw [e] at h; cases h
    | some o =>
      rw [e] at h
      cases o with
      | lst ds => cases h
      | dct ds => cases h
      | ins _ _ => cases h; cases vw_ref A hp e with | ins h1 h2 h3 h4 => subst h2; exact ⟨p, _, _, rfl, h1, h3, h4⟩
  | _ => cases h
end

/-! ### list + list, whatever is read -/
def rCatS (K : PySem.W.Frag) : R2 := fun x y H Q => ∃ a b xs ys, x = V.ref a ∧ y = V.ref b ∧ SqL K H a xs ∧ SqL K H b ys ∧ xs.length + ys.length ≤ sizeLine ∧ ∀ p, H p = none → Q (.ref p) (upd H p (.lst (xs ++ ys)))
theorem op_catS {X : Cx} : OpR X (binaryOp .Add) (rCatS X.K) := by
  intro pins s σ H x y v u Q I rx ry hw
  obtain ⟨a, b, xs, ys, rfl, rfl, qa, qb, hz, q⟩ := hw
  cases rx
  cases ry
  obtain ⟨ia, ra, pa, _⟩ := I.list qa
  obtain ⟨ib, rb, pb, _⟩ := I.list qb
  obtain ⟨⟨c1, d1, t1, l1⟩, n1, g1, e1, f1, k1⟩ := pa
  obtain ⟨⟨c2, d2, t2, l2⟩, n2, g2, e2, f2, k2⟩ := pb
  simp only at e1 f1 k1 e2 f2 k2
  subst e1 f1 k1 e2 f2 k2
  have hsz : ia.toArray.size + ib.toArray.size ≤ sizeLine := by rw [List.size_toArray, List.size_toArray, ← ra.length, ← rb.length]; exact hz
  have ea : ia.toArray ++ ib.toArray = (ia ++ ib).toArray := by simp
  refine PySem.concat_meets ⟨_, g1, rfl⟩ ⟨_, g2, rfl⟩ noFill_list_add seq_list_add PySem.F.slot_list_add PySem.F.entry_list_add (PySem.F.args_list_add_2 _ _)
    (list_addW a b ia.toArray ib.toArray n1 n2 _ _ _ _ hsz) ⟨g1, g2, ?_⟩
  rw [ea]
  exact ⟨.ref _, _, I.lnew (t' := s.toks) (ra.append rb) (by rw [List.length_append]; exact hz), rfl, q _ I.fresh⟩
/-- text * int -/
def rMulS : R2 := fun x y H Q => ∃ (a : List Nat) (n : Int), x = V.str (tx a) ∧ y = V.int n ∧ -(2 ^ 62) < n ∧ n < 2 ^ 62 ∧ a.length * n.toNat ≤ sizeLine ∧ Q (.str (tx (rep a n))) H
theorem ofLe {a b : Nat} (h : a ≤ LIM) (e : b = a) : b ≤ sizeLine := by rw [e, sim]; exact h

theorem op_add_all {X : Cx} : OpR X (binaryOp .Add) (fun x y H Q => (∃ i j, x = V.int i ∧ y = V.int j ∧ Q (.int (i + j)) H) ∨ (∃ i j, x = V.str i ∧ y = V.str j ∧ i.length + j.length ≤ sizeLine ∧ Q (.str (i ++ j)) H) ∨ rCatS X.K x y H Q ∨ rCatA X.K x y H Q) :=
  op_add.or (op_add_str.or (op_catS.or op_catA))

def isSc : D → Bool
  | .lst _ => false
  | .dct _ => false
  | _ => true
theorem pst_sc {W : WX} {τ ms H d st} {Q : VK} {m : Bool} {v : V} (hd : isSc d = true) (h : Pst T W τ ms H (fin m d st) (RD T) Q) (A : AH T ms st H) (r : RD T ms H d v) : Q v H := by
  cases m with
  | false => exact Pst.ok h A r
  | true =>
    unfold fin at h
    cases d with
    | lst ds => cases hd
    | dct ds => cases hd
    | _ => exact h.elim
/-- what a two-place operation is asked -/
def rBin (T : TT) (m : Bool) (o : Bop) : R2 := fun x y H Q => ∃ (W : WX) (τ : L2.St) (ms : List Addr) (st : Store) (d e : D), AH T ms st H ∧ RD T ms H d x ∧ RD T ms H e y ∧
  Pst T W τ ms H (match binD o (look st d) (look st e) with | some d => fin m d st | none => .bad) (RD T) Q
theorem or_l {X : Cx} {f : Value → Value → Sem Value} {r r' : R2} (h : OpR X f r) (i : ∀ x y H Q, r' x y H Q → r x y H Q) : OpR X f r' := fun pins s σ H x y v u Q I rx ry hw => h pins s σ H x y v u Q I rx ry (i _ _ _ _ hw)
theorem tx_app (a b : List Nat) : (tx a ++ tx b : Str) = tx (a ++ b) := by
  show (⟨a.toArray ++ b.toArray⟩ : Str) = ⟨(a ++ b).toArray⟩
  simp
theorem tx_len (a : List Nat) : (tx a).length = a.length := rfl
theorem foldl_arr (l : List (Array Nat)) : ∀ acc : Array Nat, (l.foldl (· ++ ·) acc).toList = acc.toList ++ (l.map Array.toList).flatten := by
  induction l with
  | nil => intro acc; simp
  | cons a r ih => intro acc; rw [List.foldl_cons, ih]; simp
theorem rep_tx (a : List Nat) (n : Int) : (⟨(List.replicate n.toNat (tx a).cps).foldl (· ++ ·) #[]⟩ : Str) = tx (rep a n) := by
  have h : ((List.replicate n.toNat (tx a).cps).foldl (· ++ ·) #[]).toList = rep a n := by
    rw [foldl_arr]; simp [rep]
  show (⟨_⟩ : Str) = ⟨_⟩
  rw [← h]
theorem op_mulStr {X : Cx} : OpR X (binaryOp .Mult) rMulS := by
  intro pins s σ H x y v u Q I rx ry hw
  obtain ⟨a, n, rfl, rfl, h1, h2, hz, q⟩ := hw
  obtain ⟨t1, rfl⟩ := rx
  obtain ⟨t2, rfl⟩ := ry
  by_cases hn : n < 1
  · refine PySem.P.mul_str_none hn (by omega) ⟨.str (tx (rep a n)), H, I.tok _, ⟨s.toks, ?_⟩, q⟩
    have e : n.toNat = 0 := by omega
    have e2 : rep a n = [] := by simp [rep, e]
    rw [e2]
    rfl
  · have hlen : (tx a).length = a.length := rfl
    refine PySem.P.mul_str (by simp; omega) (fun _ _ => ?_) (fun _ _ => ?_) ?_
    · rw [hlen]
      have h3 : (a.length : Int) * n ≤ 2 ^ 63 - 1 := by
        have e : n = (n.toNat : Int) := by omega
        rw [e, ← Int.natCast_mul]
        have hz' : a.length * n.toNat ≤ 16777216 := by rw [sim] at hz; exact hz
        omega
      have h4 := Int.le_ediv_of_mul_le (show 0 < n by omega) h3
      omega
    · rw [hlen]
      show decide (a.length * n.toNat > sizeLine) = false
      exact decide_eq_false (by omega)
    · rw [if_neg hn]
      split
      · rename_i hc
        refine ⟨.str (tx (rep a n)), H, I, ⟨t1, ?_⟩, q⟩
        have e2 : rep a n = a := by
          simp only [Bool.or_eq_true, beq_iff_eq] at hc
          rcases hc with h | h
          · subst h; simp [rep]
          · have : a = [] := List.length_eq_zero_iff.mp h
            subst this; simp [rep]
        rw [e2]
      · rw [rep_tx]
        refine ⟨?_, .str _, H, I.tok _, ⟨_, rfl⟩, q⟩
        show (rep a n).length ≤ sizeLine
        unfold rep
        rw [List.length_flatten]
        simp [Nat.mul_comm] at hz ⊢
        exact hz
/-- list * int -/
def rMulL (K : PySem.W.Frag) : R2 := fun x y H Q => ∃ a xs n, x = V.ref a ∧ y = V.int n ∧ SqL K H a xs ∧ -(2 ^ 62) < n ∧ n < 2 ^ 62 ∧ xs.length * n.toNat ≤ sizeLine ∧ ∀ p, H p = none → Q (.ref p) (upd H p (.lst (rep xs n)))
theorem rep_len {α : Type} (xs : List α) (n : Int) : (rep xs n).length = xs.length * n.toNat := by
  unfold rep
  rw [List.length_flatten]
  simp [Nat.mul_comm]
theorem op_mulLst {X : Cx} : OpR X (binaryOp .Mult) (rMulL X.K) := by
  intro pins s σ H x y v u Q I rx ry hw
  obtain ⟨a, xs, n, rfl, rfl, hs, h1, h2, hz, q⟩ := hw
  obtain rfl : v = Value.ref a := rx
  obtain ⟨tk, rfl⟩ := ry
  obtain ⟨its, rv, ⟨⟨cls, dd, data, sl⟩, k, ho, hc, hdn, hd⟩, hlen⟩ := I.list hs
  have hc1 : cls = Value.type "list" := hc
  have hd1 : data = Data.seq its.toArray k := hd
  subst hc1 hd1
  have hm : its.toArray.size * n.toNat ≤ 16777216 := by rw [List.size_toArray, ← rv.length]; rw [sim] at hz; exact hz
  refine wpAny_binaryOp_repeat_ref (T := "list") (U := "int") (by decide) ⟨_, ho, rfl⟩ (fun s' => typeIs_int s' n tk) noFill_list_mul F.fills_int_mul F.slot_int_rmul repeat_list F.slot_int_index.lookup
    (call_meets F.slot_int_rmul (typeIs_int s n tk) F.entry_int_rmul (F.args_int_rmul_2 _ _) (lm_int_rmul_list_any n tk a its.toArray k dd sl)
      ⟨ho, rfl, ⟨_, ho, rfl⟩, call_meets F.slot_list_mul ⟨_, ho, rfl⟩ F.entry_list_mul (F.args_list_mul_2 _ _)
        (lm_list_mul_any a its.toArray k dd sl n tk (by simp [Builtin.List.listFitsIndex]; omega) (by omega) (by simp only [Builtin.List.listTooLong, decide_eq_true_eq]; rw [sim]; show ¬ _ > 16777216; omega))
        ⟨ho, ?_⟩⟩)
  rw [listMul_foldl_if]
  refine ⟨.ref s.heap.objs.size, upd H s.heap.objs.size (.lst (rep xs n)), I.laid (t' := s.toks) (fun b o e => Heap.get?_push_of_some _ e) (Nat.le_refl _) ⟨?_, _, 0, ?_, Heap.get?_push_size _ rfl⟩, rfl, q _ (I.hok.fresh (Nat.le_refl _))⟩
  · show (rep xs n).length ≤ sizeLine
    rw [rep_len]; exact hz
  · have e : ∀ j : Nat, Vals (List.replicate j xs).flatten (List.replicate j its).flatten := fun j => by
      induction j with
      | zero => exact .nil
      | succ j ih => rw [List.replicate_succ, List.replicate_succ, List.flatten_cons, List.flatten_cons]; exact rv.append ih
    exact e n.toNat
theorem ob_add {X : Cx} {m : Bool} (hK : X.K = T.K) : OpR X (binaryOp .Add) (rBin T m .add) := by
  refine or_l op_add_all ?_
  rintro x y H Q ⟨W, τ, ms, st, d, e, A, rd, re, p⟩
  rw [hK]
  generalize hd : look st d = ld at p
  generalize he : look st e = le at p
  cases ld <;> cases le <;> simp only [binD] at p <;> first | exact p.elim | skip
  case int.int i j => exact .inl ⟨i, j, vw_int rd hd, vw_int re he, pst_sc rfl p A (.int _)⟩
  case str.str a b =>
    split at p
    · rename_i d1 hz
      split at hz
      · cases hz
        rename_i hl
        obtain ⟨e1, _⟩ := vw_str rd hd
        obtain ⟨e2, _⟩ := vw_str re he
        refine .inr (.inl ⟨_, _, e1, e2, by rw [sim]; exact hl, ?_⟩)
        rw [tx_app]
        exact pst_sc rfl p A (.str _ (by rw [List.length_append]; exact hl))
      · cases hz
    · exact p.elim
  case lst.lst a b =>
    split at p
    · rename_i d1 hz
      split at hz
      · cases hz
        rename_i hl
        obtain ⟨p1, v1, rfl, q1, r1, z1⟩ := vw_lst A rd hd
        obtain ⟨p2, v2, rfl, q2, r2, z2⟩ := vw_lst A re he
        exact .inr (.inr (.inl ⟨_, _, _, _, rfl, rfl, q1, q2, by rw [sim, ← r1.length, ← r2.length]; exact hl, fun q hq => pst_lst p A (r1.append r2) (by rw [List.length_append]; exact hl) hq⟩))
      · cases hz
    · exact p.elim
  case tup.tup a b =>
    split at p
    · rename_i d1 hz
      split at hz
      · cases hz
        rename_i hl
        obtain ⟨p1, v1, rfl, q1, r1⟩ := vw_tup A rd hd
        obtain ⟨p2, v2, rfl, q2, r2⟩ := vw_tup A re he
        refine .inr (.inr (.inr ⟨_, _, _, _, rfl, rfl, q1.sq, q2.sq, by rw [sim, ← r1.length, ← r2.length]; exact hl, fun h0 => ?_, fun h0 h1 => ?_, fun h0 h1 q hq => ?_⟩))
        · subst h0
          cases r1
          exact pst_sc rfl p A (.tup q2 r2)
        · subst h1
          cases r2
          rw [List.append_nil] at p
          exact pst_sc rfl p A (.tup q1 r1)
        · cases m with
          | false => exact pst_tup p A (r1.append r2) hq
          | true => exact p.elim
      · cases hz
    · exact p.elim
theorem ob_sub {X : Cx} {m : Bool} : OpR X (binaryOp .Sub) (rBin T m .sub) := by
  refine or_l op_sub ?_
  rintro x y H Q ⟨W, τ, ms, st, d, e, A, rd, re, p⟩
  generalize hd : look st d = ld at p
  generalize he : look st e = le at p
  cases ld <;> cases le <;> simp only [binD] at p <;> first | exact p.elim | skip
  case int.int i j => exact ⟨i, j, vw_int rd hd, vw_int re he, pst_sc rfl p A (.int _)⟩
theorem RDs.rep {ms : List Addr} {H : Hp} {ds : List D} {vs : List V} (r : RDs T ms H ds vs) (n : Int) : RDs T ms H (CT.rep ds n) (CT.rep vs n) := by
  unfold CT.rep
  induction n.toNat with
  | zero => exact .nil
  | succ j ih => rw [List.replicate_succ, List.replicate_succ, List.flatten_cons, List.flatten_cons]; exact r.append ih
theorem ob_mul {X : Cx} {m : Bool} (hK : X.K = T.K) : OpR X (binaryOp .Mult) (rBin T m .mul) := by
  refine or_l (op_mul.or (op_mulW.or (op_mulStr.or op_mulLst))) ?_
  rintro x y H Q ⟨W, τ, ms, st, d, e, A, rd, re, p⟩
  rw [hK]
  generalize hd : look st d = ld at p
  generalize he : look st e = le at p
  cases ld <;> cases le <;> simp only [binD] at p <;> first | exact p.elim | skip
  case int.int i j =>
    split at p
    · rename_i d1 hz
      split at hz
      · cases hz
        rename_i hl
        have q := pst_sc rfl p A (.int (i * j))
        unfold mulOk at hl
        simp only [Bool.or_eq_true, Bool.and_eq_true, decide_eq_true_eq] at hl
        have b64 : ∀ {n : Int}, n.natAbs < 2 ^ 64 → -(2 ^ 64) < n ∧ n < 2 ^ 64 := fun {n} h => by
          have h2 : n.natAbs < 18446744073709551616 := h
          constructor
          · show (-18446744073709551616 : Int) < n; omega
          · show n < (18446744073709551616 : Int); omega
        rcases hl with (h1 | h1) | ⟨h1, h2⟩
        · exact .inl ⟨i, j, vw_int rd hd, vw_int re he, .inl (b64 h1), q⟩
        · exact .inl ⟨i, j, vw_int rd hd, vw_int re he, .inr (b64 h1), q⟩
        · exact .inr (.inl ⟨i, j, vw_int rd hd, vw_int re he, wide_mul h1 h2 (by decide) (by decide) (by decide), q⟩)
      · cases hz
    · exact p.elim
  case str.int a n =>
    split at p
    · rename_i d1 hz
      split at hz
      · cases hz
        rename_i hl
        obtain ⟨h1, h2, h3⟩ := hl
        have hlen : (rep a n).length ≤ LIM := by
          unfold rep
          rw [List.length_flatten]
          simp [Nat.mul_comm] at h3 ⊢
          exact h3
        exact .inr (.inr (.inl ⟨a, n, (vw_str rd hd).1, vw_int re he, h2, h1, by rw [sim]; exact h3, pst_sc rfl p A (.str _ hlen)⟩))
      · cases hz
    · exact p.elim
  case lst.int xs n =>
    split at p
    · rename_i d1 hz
      split at hz
      · cases hz
        rename_i hl
        obtain ⟨h1, h2, h3⟩ := hl
        obtain ⟨p1, v1, rfl, q1, r1, z1⟩ := vw_lst A rd hd
        exact .inr (.inr (.inr ⟨_, _, n, rfl, vw_int re he, q1, h2, h1, by rw [sim, ← r1.length]; exact h3, fun q hq => pst_lst p A (r1.rep n) (by rw [rep_len]; exact h3) hq⟩))
      · cases hz
    · exact p.elim
theorem ob_fdiv {X : Cx} {m : Bool} : OpR X (binaryOp .FloorDiv) (rBin T m .fdiv) := by
  refine or_l op_fdivW ?_
  rintro x y H Q ⟨W, τ, ms, st, d, e, A, rd, re, p⟩
  generalize hd : look st d = ld at p
  generalize he : look st e = le at p
  cases ld <;> cases le <;> simp only [binD] at p <;> first | exact p.elim | skip
  case int.int i j =>
    split at p
    · rename_i d1 hz
      split at hz
      · cases hz
        rename_i hl
        exact ⟨i, j, vw_int rd hd, vw_int re he, wide_div hl.1 hl.2 (by decide) (by decide), pst_sc rfl p A (.int _)⟩
      · cases hz
    · exact p.elim
theorem ob_mod {X : Cx} {m : Bool} : OpR X (binaryOp .Mod) (rBin T m .mod) := by
  refine or_l op_mod ?_
  rintro x y H Q ⟨W, τ, ms, st, d, e, A, rd, re, p⟩
  generalize hd : look st d = ld at p
  generalize he : look st e = le at p
  cases ld <;> cases le <;> simp only [binD] at p <;> first | exact p.elim | skip
  case int.int i j =>
    split at p
    · rename_i d1 hz
      split at hz
      · cases hz
        rename_i hl
        exact ⟨i, j, vw_int rd hd, vw_int re he, hl, pst_sc rfl p A (.int _)⟩
      · cases hz
    · exact p.elim
theorem ob_pow {X : Cx} {m : Bool} : OpR X (binaryOp .Pow) (rBin T m .pow) := by
  refine or_l op_pow ?_
  rintro x y H Q ⟨W, τ, ms, st, d, e, A, rd, re, p⟩
  generalize hd : look st d = ld at p
  generalize he : look st e = le at p
  cases ld <;> cases le <;> simp only [binD] at p <;> first | exact p.elim | skip
  case int.int i j =>
    split at p
    · rename_i d1 hz
      split at hz
      · cases hz
        rename_i hl
        exact ⟨i, j, vw_int rd hd, vw_int re he, ⟨hl.1, by omega, hl.2.2⟩, pst_sc rfl p A (.int _)⟩
      · cases hz
    · exact p.elim
theorem se_bin {m : Bool} {o : Bop} {a b : E} (ha : SE T k a) (hb : SE T k b) : SE T k (.bin m o a b) := by
  refine ⟨fun W c X x g h => ?_, no_pt fun c x => by simp only [mT]⟩
  (simp only [mE] at h; split at h <;> first | (cases h; done) | skip); (simp only [Bool.and_eq_true, decide_eq_true_eq, Bool.not_eq_true', beq_iff_eq, bne_iff_ne, ne_eq] at h)
  obtain ⟨⟨ho, h1⟩, h2⟩ := h
  have key : ∀ {op : Operator}, bopB o op = true → OpR X (binaryOp op) (rBin T m o) := fun {op} h => by
    cases o <;> cases op <;> first | (cases h; done) | exact ob_add g.K | exact ob_sub | exact ob_mul g.K | exact ob_fdiv | exact ob_mod | exact ob_pow
  refine PE.imp (pe_op (key ho) (ha.pe W c X _ g h1) (hb.pe W c X _ g h2)) ?_
  rintro τ H Q ⟨ms, σ, st, A, p⟩
  simp only [evE] at p
  refine ⟨ms, σ, st, A, Pst.bind p fun d st1 v ms1 H1 _ ev ah rd p1 => ?_⟩
  refine ⟨ms1, σ, st1, A.go ev ah, Pst.bind p1 fun e st2 w ms2 H2 _ ev2 ah2 re p2 => ?_⟩
  exact ⟨W, τ, ms2, st2, d, e, ah2, rd.mono ev2, re, p2⟩
end CT

set_option maxRecDepth 100000
/-! Comparisons. -/
namespace CT
open PySem L2 PyProof.Rows
variable {T : TT} {k : Nat}

mutual
theorem toPy_plain : ∀ (n : Nat) (d : D), D.plain n d = true → (toPy d).plain = true ∧ (toPy d).depth ≤ n
  | _, .non, _ => by simp [toPy, PyData.plain, PyData.depth]
  | _, .bl _, _ => by simp [toPy, PyData.plain, PyData.depth]
  | _, .int _, _ => by simp [toPy, PyData.plain, PyData.depth]
  | _, .str _, _ => by simp [toPy, PyData.plain, PyData.depth]
  | 0, .tup ds, h => by simp [D.plain] at h
  | 0, .lst ds, h => by simp [D.plain] at h
  | n + 1, .tup ds, h => by
    have q := toPys_plain n ds (by simpa [D.plain] using h)
    simp only [toPy, PyData.plain, PyData.depth]
    exact ⟨q.1, by omega⟩
  | n + 1, .lst ds, h => by
    have q := toPys_plain n ds (by simpa [D.plain] using h)
    simp only [toPy, PyData.plain, PyData.depth]
    exact ⟨q.1, by omega⟩
  | n, .dct _, h => by cases n <;> simp [D.plain] at h
  | n, .obj _ _, h => by cases n <;> simp [D.plain] at h
  | n, .exc _ _, h => by cases n <;> simp [D.plain] at h
  | n, .fn _, h => by cases n <;> simp [D.plain] at h
  | n, .ref _, h => by cases n <;> simp [D.plain] at h
theorem toPys_plain : ∀ (n : Nat) (ds : List D), D.plains n ds = true → PyData.plainAll (toPys ds) = true ∧ PyData.depthAll (toPys ds) ≤ n
  | _, [], _ => by simp [toPys, PyData.plainAll, PyData.depthAll]
  | n, d :: ds, h => by
    simp only [D.plains, Bool.and_eq_true] at h
    have q1 := toPy_plain n d h.1
    have q2 := toPys_plain n ds h.2
    simp only [toPys, PyData.plainAll, PyData.depthAll, Bool.and_eq_true]
    exact ⟨⟨q1.1, q2.1⟩, by omega⟩
end
theorem tx_beq (a b : List Nat) : (tx a == tx b) = (a == b) := by
  by_cases h : a = b
  · subst h; rw [beq_self_eq_true, beq_self_eq_true]
  · have h2 : tx a ≠ tx b := fun z => h (by have := congrArg (fun s => s.cps.toList) z; simpa using this)
    rw [beq_eq_false_iff_ne.mpr h2, beq_eq_false_iff_ne.mpr h]
mutual
theorem toPy_eqv : ∀ (n m : Nat) (a b : D), D.plain n a = true → D.plain m b = true → PyData.eqv (toPy a) (toPy b) = D.eqv a b
  | n, m, .non, b, h1, h2 => by cases b <;> first | (cases m <;> simp [D.plain] at h2; done) | simp [toPy, PyData.eqv, D.eqv]
  | n, m, .bl _, b, h1, h2 => by cases b <;> first | (cases m <;> simp [D.plain] at h2; done) | simp [toPy, PyData.eqv, D.eqv]
  | n, m, .int _, b, h1, h2 => by cases b <;> first | (cases m <;> simp [D.plain] at h2; done) | simp [toPy, PyData.eqv, D.eqv]
  | n, m, .str _, b, h1, h2 => by
    cases b <;> first | (cases m <;> simp [D.plain] at h2; done) | (simp only [toPy, PyData.eqv, D.eqv, tx_beq])
  | 0, m, .tup ds, b, h, h2 => by simp [D.plain] at h
  | 0, m, .lst ds, b, h, h2 => by simp [D.plain] at h
  | n + 1, m, .tup ds, b, h1, h2 => by
    cases b with
    | tup es =>
      cases m with
      | zero => simp [D.plain] at h2
      | succ m => simp only [toPy, PyData.eqv, D.eqv]; exact toPys_eqv n m ds es (by simpa [D.plain] using h1) (by simpa [D.plain] using h2)
    | _ => first | (cases m <;> simp [D.plain] at h2; done) | simp [toPy, PyData.eqv, D.eqv]
  | n + 1, m, .lst ds, b, h1, h2 => by
    cases b with
    | lst es =>
      cases m with
      | zero => simp [D.plain] at h2
      | succ m => simp only [toPy, PyData.eqv, D.eqv]; exact toPys_eqv n m ds es (by simpa [D.plain] using h1) (by simpa [D.plain] using h2)
    | _ => first | (cases m <;> simp [D.plain] at h2; done) | simp [toPy, PyData.eqv, D.eqv]
  | n, _, .dct _, _, h, _ => by cases n <;> simp [D.plain] at h
  | n, _, .obj _ _, _, h, _ => by cases n <;> simp [D.plain] at h
  | n, _, .exc _ _, _, h, _ => by cases n <;> simp [D.plain] at h
  | n, _, .fn _, _, h, _ => by cases n <;> simp [D.plain] at h
  | n, _, .ref _, _, h, _ => by cases n <;> simp [D.plain] at h
theorem toPys_eqv : ∀ (n m : Nat) (a b : List D), D.plains n a = true → D.plains m b = true → PyData.eqvAll (toPys a) (toPys b) = D.eqvs a b
  | n, m, [], b, h1, h2 => by cases b <;> simp [toPys, PyData.eqvAll, D.eqvs]
  | n, m, x :: xs, b, h1, h2 => by
    cases b with
    | nil => simp [toPys, PyData.eqvAll, D.eqvs]
    | cons y ys =>
      simp only [D.plains, Bool.and_eq_true] at h1 h2
      simp only [toPys, PyData.eqvAll, D.eqvs, toPy_eqv n m x y h1.1 h2.1, toPys_eqv n m xs ys h1.2 h2.2]
end
theorem inD_eqv {x : D} (hx : D.plain 8 x = true) : ∀ {ys : List D}, D.plains 8 ys = true → ((toPys ys).any fun z => PyData.eqv z (toPy x)) = inD x ys
  | [], _ => rfl
  | y :: ys, h => by
    simp only [D.plains, Bool.and_eq_true] at h
    have := inD_eqv hx h.2
    simp only [toPys, List.any_cons, inD, toPy_eqv 8 8 y x h.1 hx] at this ⊢
    rw [this]
section
variable {ms : List Addr} {H : Hp} {st : Store}
mutual
theorem dp_of : ∀ (n : Nat) {d : D} {v : V}, D.plain n d = true → RD T ms H d v → Dp T.K H v (toPy d)
  | _, .non, _, _, r => by cases r; exact .non
  | _, .bl _, _, _, r => by cases r; exact .bl _
  | _, .int _, _, _, r => by cases r; exact .int _
  | _, .str _, _, _, r => by cases r; exact .str _
  | 0, .tup _, _, h, _ => by simp [D.plain] at h
  | 0, .lst _, _, h, _ => by simp [D.plain] at h
  | n + 1, .tup ds, _, h, r => by
    cases r with
    | tup f s => simp only [toPy]; exact .tup f.sq (dps_of n (by simpa [D.plain] using h) s)
  | n + 1, .lst ds, _, h, r => by
    cases r with
    | lst f s _ => simp only [toPy]; exact .lst f.sq (dps_of n (by simpa [D.plain] using h) s)
  | n, .dct _, _, h, _ => by cases n <;> simp [D.plain] at h
  | n, .obj _ _, _, h, _ => by cases n <;> simp [D.plain] at h
  | n, .exc _ _, _, h, _ => by cases n <;> simp [D.plain] at h
  | n, .fn _, _, h, _ => by cases n <;> simp [D.plain] at h
  | n, .ref _, _, h, _ => by cases n <;> simp [D.plain] at h
theorem dps_of : ∀ (n : Nat) {ds : List D} {vs : List V}, D.plains n ds = true → RDs T ms H ds vs → DpAll T.K H vs (toPys ds)
  | _, [], _, _, r => by cases r; exact .nil
  | n, d :: ds, _, h, r => by
    cases r with
    | cons r s =>
      simp only [D.plains, Bool.and_eq_true] at h
      simp only [toPys]
      exact .cons (dp_of n h.1 r) (dps_of n h.2 s)
end
/-- an object with what hangs on it, read as data -/
theorem dps_fz {f : D → Option D} (m : Nat) (hf : ∀ d e v, f d = some e → D.plain m e = true → RD T ms H d v → Dp T.K H v (toPy e)) : ∀ {ds es : List D} {vs : List V}, allSome (ds.map f) = some es → D.plains m es = true → RDs T ms H ds vs → DpAll T.K H vs (toPys es)
  | [], es, _, h, _, r => by cases r; cases h; exact .nil
  | d :: ds, es, _, h, hp, r => by
    cases r with
    | cons r s =>
      simp only [List.map_cons] at h
      cases e : f d with
      | none => rw [e] at h; cases h
      | some a =>
        rw [e] at h
        simp only [allSome] at h
        cases e2 : allSome (ds.map f) with
        | none => rw [e2] at h; cases h
        | some es2 =>
          rw [e2] at h
          cases h
          simp only [D.plains, Bool.and_eq_true] at hp
          simp only [toPys]
          exact .cons (hf d a _ e hp.1 r) (dps_fz m hf e2 hp.2 s)
theorem dp_fz (A : AH T ms st H) : ∀ (n : Nat) (d e : D) (v : V) (m : Nat), fz 0 st n d = some e → D.plain m e = true → RD T ms H d v → Dp T.K H v (toPy e)
  | 0, d, e, v, m, h, hp, r => by
    simp only [fz] at h
    split at h
    · cases h; exact dp_of m hp r
    · cases h
  | n + 1, d, e, v, m, h, hp, r => by
    by_cases hpu : d.pure = true
    · have h' : some d = some e := by simpa only [fz, hpu, if_true] using h
      cases h'
      exact dp_of m hp r
    · cases d with
      | ref a =>
        simp only [fz, if_neg hpu] at h
        cases r with
        | ref hr =>
          rename_i p
          cases ho : st[a]? with
          | none => rw [ho] at h; cases h
          | some o =>
            have ro := A.at_ a p o hr ho
            simp only [Nat.not_lt_zero, if_false, ho, Option.bind_some] at h
            split at h
            · cases o with
              | lst ds =>
                cases h
                cases ro with
                | lst h1 h2 h3 =>
                  cases m with
                  | zero => simp [D.plain] at hp
                  | succ m => simp only [toPy]; exact .lst (.of h1) (dps_of m (by simpa [D.plain] using hp) h2)
              | dct ds => cases h; cases m <;> simp [D.plain] at hp
              | ins c fs => cases h; cases m <;> simp [D.plain] at hp
            · cases o with
              | lst ds =>
                simp only [fzO] at h
                cases e2 : allSome (ds.map (fz 0 st n)) with
                | none => rw [e2] at h; cases h
                | some es =>
                  rw [e2] at h
                  cases h
                  cases ro with
                  | lst h1 h2 h3 =>
                    cases m with
                    | zero => simp [D.plain] at hp
                    | succ m =>
                      simp only [toPy]
                      exact .lst (.of h1) (dps_fz m (fun d e v a b c => dp_fz A n d e v m a b c) e2 (by simpa [D.plain] using hp) h2)
              | dct ds =>
                simp only [fzO] at h
                cases e2 : allSome (ds.map fun p => (fz 0 st n p.2).map fun d => (p.1, d)) with
                | none => rw [e2] at h; cases h
                | some es => rw [e2] at h; cases h; cases m <;> simp [D.plain] at hp
              | ins c fs =>
                simp only [fzO] at h
                cases e2 : allSome (fs.map (fz 0 st n)) with
                | none => rw [e2] at h; cases h
                | some es => rw [e2] at h; cases h; cases m <;> simp [D.plain] at hp
      | tup ds =>
        simp only [fz, if_neg hpu] at h
        cases e2 : allSome (ds.map (fz 0 st n)) with
        | none => rw [e2] at h; cases h
        | some es =>
          rw [e2] at h
          cases h
          cases r with
          | tup f s =>
            cases m with
            | zero => simp [D.plain] at hp
            | succ m =>
              simp only [toPy]
              exact .tup f.sq (dps_fz m (fun d e v a b c => dp_fz A n d e v m a b c) e2 (by simpa [D.plain] using hp) s)
      | _ => simp only [fz, if_neg hpu] at h; cases h
theorem dp_look (A : AH T ms st H) {d : D} {v : V} (hp : D.plain 8 (dlook st d) = true) (r : RD T ms H d v) : Dp T.K H v (toPy (dlook st d)) := by
  cases d with
  | ref a =>
    cases e : fz 0 st 4 (.ref a) with
    | none =>
      have e2 : dlook st (.ref a) = .ref a := by simp only [dlook, e, Option.getD_none]
      rw [e2] at hp
      simp [D.plain] at hp
    | some x =>
      have e2 : dlook st (.ref a) = x := by simp only [dlook, e, Option.getD_some]
      rw [e2] at hp ⊢
      exact dp_fz A 4 _ _ _ 8 e hp r
  | _ => exact dp_of 8 hp r
theorem kyK_inj {a b : Ky} (h : kyK a = kyK b) : a = b := by
  cases a <;> cases b <;> simp only [kyK] at h
  · cases h; rfl
  · cases h
  · cases h
  · have := Sum.inr.inj h
    have := congrArg (fun s => s.cps.toList) this
    simp at this
    rw [this]
theorem ky_val {d : D} {v : V} {q : Ky} (h : keyD d = some q) (r : RD T ms H d v) : v = kV (kyK q) := by
  cases r <;> simp only [keyD] at h <;> cases h <;> rfl
theorem kv_get {kvs : List (Ky × D)} {ks : List (Key × V)} (q : Ky) (r : RDk T ms H kvs ks) : (∃ d v, kvGet q kvs = some d ∧ valV ks (kyK q) = some v ∧ RD T ms H d v) ∨ (kvGet q kvs = none ∧ valV ks (kyK q) = none) := by
  induction kvs generalizing ks with
  | nil => cases r; exact .inr ⟨rfl, rfl⟩
  | cons p rest ih =>
    obtain ⟨l, d⟩ := p
    cases r with
    | cons kb rd s =>
      by_cases hl : l = q
      · subst hl
        exact .inl ⟨d, _, by simp [kvGet], valV_pos rfl, rd⟩
      · have hn : ¬ kyK l = kyK q := fun z => hl (kyK_inj z)
        rcases ih s with ⟨d2, v2, h1, h2, h3⟩ | ⟨h1, h2⟩
        · exact .inl ⟨d2, v2, by simp [kvGet, hl, h1], by rw [valV_neg hn]; exact h2, h3⟩
        · exact .inr ⟨by simp [kvGet, hl, h1], by rw [valV_neg hn]; exact h2⟩
end
end CT

set_option maxRecDepth 100000
/-! Comparisons, truths. -/
namespace CT
open PySem L2 PyProof.Rows
variable {T : TT} {k : Nat}
/-- what a comparison is asked -/
def rCmp (T : TT) (o : Cop) : R2 := fun x y H Q => ∃ (W : WX) (τ : L2.St) (ms : List Addr) (st : Store) (d e : D), AH T ms st H ∧ RD T ms H d x ∧ RD T ms H e y ∧
  Pst T W τ ms H (R.of (cmpE st o d e) st) (fun _ _ (a : Bool) (v : V) => v = .bl a) Q
theorem pst_bl {W : WX} {τ ms H b st} {Q : VK} {o : Option Bool} (ho : o = some b) (h : Pst T W τ ms H (R.of o st) (fun _ _ (a : Bool) (v : V) => v = .bl a) Q) (A : AH T ms st H) : Q (.bl b) H := by
  subst ho
  exact Pst.ok h A rfl
/-- equality of data, by the library's plain rules -/
theorem oc_eqp {X : Cx} (hu : X.A.units + 64 < cLine) : OpR X (compareOp .Eq) (fun x y H Q => ∃ d e : PyData, Dp X.K H x d ∧ Dp X.K H y e ∧ d.plain = true ∧ e.plain = true ∧ d.depth ≤ 8 ∧ Q (.bl (PyData.eqv d e)) H) := by
  intro pins s σ H x y v u Q I rx ry hw
  obtain ⟨d, e, hd, he, pd, pe, hz, q⟩ := hw
  obtain ⟨l1, r1⟩ := Dp.reads I d x v hd rx
  obtain ⟨l2, r2⟩ := Dp.reads I e y u he ry
  exact SeqAt.eq_plain r1 r2 pd pe (by omega) ⟨.bl _, H, I, rfl, q⟩
theorem oc_nep {X : Cx} (hu : X.A.units + 64 < cLine) : OpR X (compareOp .NotEq) (fun x y H Q => ∃ d e : PyData, Dp X.K H x d ∧ Dp X.K H y e ∧ d.plain = true ∧ e.plain = true ∧ d.depth ≤ 8 ∧ Q (.bl (!PyData.eqv d e)) H) := by
  intro pins s σ H x y v u Q I rx ry hw
  obtain ⟨d, e, hd, he, pd, pe, hz, q⟩ := hw
  obtain ⟨l1, r1⟩ := Dp.reads I d x v hd rx
  obtain ⟨l2, r2⟩ := Dp.reads I e y u he ry
  exact SeqAt.ne_plain r1 r2 pd pe (by omega) ⟨.bl _, H, I, rfl, q⟩
theorem oc_inp {X : Cx} (hu : X.A.units + 64 < cLine) : OpR X (compareOp .In) (fun x y H Q => ∃ (d : PyData) (ds : List PyData), Dp X.K H x d ∧ (Dp X.K H y (.list ds) ∨ Dp X.K H y (.tuple ds)) ∧ d.plain = true ∧ PyData.plainAll ds = true ∧ d.depth ≤ 8 ∧ Q (.bl (ds.any fun z => PyData.eqv z d)) H) := by
  intro pins s σ H x y v u Q I rx ry hw
  obtain ⟨d, e, hd, he, pd, pe, hz, q⟩ := hw
  obtain ⟨l1, r1⟩ := Dp.reads I d x v hd rx
  rcases he with he | he
  · obtain ⟨l2, r2⟩ := Dp.reads I _ y u he ry
    exact SeqAt.in_list_data r2 r1 pe pd (by omega) ⟨.bl _, H, I, rfl, q⟩
  · obtain ⟨l2, r2⟩ := Dp.reads I _ y u he ry
    exact SeqAt.in_tuple_data r2 r1 pe pd (by omega) ⟨.bl _, H, I, rfl, q⟩
theorem oc_ninp {X : Cx} (hu : X.A.units + 64 < cLine) : OpR X (compareOp .NotIn) (fun x y H Q => ∃ (d : PyData) (ds : List PyData), Dp X.K H x d ∧ (Dp X.K H y (.list ds) ∨ Dp X.K H y (.tuple ds)) ∧ d.plain = true ∧ PyData.plainAll ds = true ∧ d.depth ≤ 8 ∧ Q (.bl (!ds.any fun z => PyData.eqv z d)) H) := by
  intro pins s σ H x y v u Q I rx ry hw
  obtain ⟨d, e, hd, he, pd, pe, hz, q⟩ := hw
  obtain ⟨l1, r1⟩ := Dp.reads I d x v hd rx
  rcases he with he | he
  · obtain ⟨l2, r2⟩ := Dp.reads I _ y u he ry
    exact SeqAt.notIn_list_data r2 r1 pe pd (by omega) ⟨.bl _, H, I, rfl, q⟩
  · obtain ⟨l2, r2⟩ := Dp.reads I _ y u he ry
    exact SeqAt.notIn_tuple_data r2 r1 pe pd (by omega) ⟨.bl _, H, I, rfl, q⟩
theorem oc_ind {X : Cx} (hu : X.A.units + 64 < cLine) : OpR X (compareOp .In) (fun x y H Q => ∃ a o, y = .ref a ∧ DGet H a x o ∧ Q (.bl o.isSome) H) := by
  intro pins s σ H x y v u Q I rx ry hw
  obtain ⟨a, o, rfl, hg, q⟩ := hw
  cases ry
  exact d_in (by omega) I hg rx fun s2 I2 => ⟨.bl o.isSome, H, I2, rfl, q⟩
theorem oc_nind {X : Cx} (hu : X.A.units + 64 < cLine) : OpR X (compareOp .NotIn) (fun x y H Q => ∃ a o, y = .ref a ∧ DGet H a x o ∧ Q (.bl (!o.isSome)) H) := by
  intro pins s σ H x y v u Q I rx ry hw
  obtain ⟨a, o, rfl, hg, q⟩ := hw
  cases ry
  exact d_notIn (by omega) I hg rx fun s2 I2 => ⟨.bl (!o.isSome), H, I2, rfl, q⟩
theorem or2 {a b : Bool} (h : (if (a && b) = true then some true else none : Option Bool) = some true) : a = true ∧ b = true := by
  cases a <;> cases b <;> simp_all
theorem oc_eq {X : Cx} (hK : X.K = T.K) (hu : X.A.units + 64 < cLine) : OpR X (compareOp .Eq) (rCmp T .eq) := by
  refine or_l (oc_eqp hu) ?_
  rintro x y H Q ⟨W, τ, ms, st, d, e, A, rd, re, p⟩
  by_cases hp : (D.plain 8 (dlook st d) && D.plain 8 (dlook st e)) = true
  · have q := pst_bl (b := D.eqv (dlook st d) (dlook st e)) (by simp only [cmpE, cmpD, hp, if_true]) p A
    rw [Bool.and_eq_true] at hp
    rw [hK]
    have p1 := toPy_plain 8 _ hp.1
    have p2 := toPy_plain 8 _ hp.2
    exact ⟨_, _, dp_look A hp.1 rd, dp_look A hp.2 re, p1.1, p2.1, p1.2, by rw [toPy_eqv 8 8 _ _ hp.1 hp.2]; exact q⟩
  · simp only [cmpE, cmpD, if_neg hp, R.of] at p
    exact p.elim
theorem oc_ne {X : Cx} (hK : X.K = T.K) (hu : X.A.units + 64 < cLine) : OpR X (compareOp .NotEq) (rCmp T .ne) := by
  refine or_l (oc_nep hu) ?_
  rintro x y H Q ⟨W, τ, ms, st, d, e, A, rd, re, p⟩
  by_cases hp : (D.plain 8 (dlook st d) && D.plain 8 (dlook st e)) = true
  · have q := pst_bl (b := !D.eqv (dlook st d) (dlook st e)) (by simp only [cmpE, cmpD, hp, if_true]) p A
    rw [Bool.and_eq_true] at hp
    rw [hK]
    have p1 := toPy_plain 8 _ hp.1
    have p2 := toPy_plain 8 _ hp.2
    exact ⟨_, _, dp_look A hp.1 rd, dp_look A hp.2 re, p1.1, p2.1, p1.2, by rw [toPy_eqv 8 8 _ _ hp.1 hp.2]; exact q⟩
  · simp only [cmpE, cmpD, if_neg hp, R.of] at p
    exact p.elim
/-- an order of ints -/
theorem oc_ord {X : Cx} {o : Cop} {op : CmpOp} {f : Int → Int → Bool} (h : OpR X (compareOp op) (rI0 fun i j => .bl (f i j))) (hf : ∀ st d e, cmpE st o d e = cmpD o (look st d) (look st e))
    (hi : ∀ i j, cmpD o (.int i) (.int j) = some (f i j)) (hn : ∀ a b c, cmpD o a b = some c → ∃ i j, a = .int i ∧ b = .int j) : OpR X (compareOp op) (rCmp T o) := by
  refine or_l h ?_
  rintro x y H Q ⟨W, τ, ms, st, d, e, A, rd, re, p⟩
  rw [hf] at p
  cases hc : cmpD o (look st d) (look st e) with
  | none => rw [hc] at p; exact p.elim
  | some c =>
    obtain ⟨i, j, e1, e2⟩ := hn _ _ _ hc
    refine ⟨i, j, vw_int rd e1, vw_int re e2, ?_⟩
    rw [e1, e2, hi] at hc
    cases hc
    exact pst_bl (by rw [e1, e2, hi]) p A
theorem isIn_cases {a b : D} {c : Bool} (h : isIn a b = some c) :
    (∃ q t, a = .str [q] ∧ b = .str t ∧ c = decide (q ∈ t)) ∨ (∃ ys, (b = .lst ys ∨ b = .tup ys) ∧ D.plain 8 a = true ∧ D.plains 8 ys = true ∧ c = inD a ys) ∨ ∃ kvs q, b = .dct kvs ∧ keyD a = some q ∧ c = (kvGet q kvs).isSome := by
  unfold isIn at h
  split at h
  · cases h; exact .inl ⟨_, _, rfl, rfl, rfl⟩
  · split at h
    · rename_i hp; rw [Bool.and_eq_true] at hp; cases h; exact .inr (.inl ⟨_, .inl rfl, hp.1, hp.2, rfl⟩)
    · cases h
  · split at h
    · rename_i hp; rw [Bool.and_eq_true] at hp; cases h; exact .inr (.inl ⟨_, .inr rfl, hp.1, hp.2, rfl⟩)
    · cases h
  · rename_i kvs
    obtain ⟨q, hq, e⟩ := Option.map_eq_some_iff.mp h
    exact .inr (.inr ⟨kvs, q, rfl, hq, e.symm⟩)
  · cases h
theorem look_plain {st : Store} {d : D} (h : D.plain 8 (look st d) = true) {ms : List Addr} {H : Hp} {v : V} (A : AH T ms st H) (r : RD T ms H d v) : Dp T.K H v (toPy (look st d)) := by
  cases d with
  | ref a =>
    cases ho : st[a]? with
    | none => simp only [look, ho] at h; simp [D.plain] at h
    | some o =>
      cases r with
      | ref hr =>
        have ro := A.at_ a _ o hr ho
        cases o with
        | lst ds =>
          simp only [look, ho] at h ⊢
          cases ro with
          | lst h1 h2 h3 =>
            simp only [toPy]
            exact .lst (.of h1) (dps_of 7 (by simpa [D.plain] using h) h2)
        | dct ds => simp only [look, ho] at h; simp [D.plain] at h
        | ins c fs => simp only [look, ho] at h; simp [D.plain] at h
  | _ => exact dp_of 8 h r
theorem seq_plain {st : Store} {d : D} {ys : List D} (hl : look st d = .lst ys ∨ look st d = .tup ys) (h : D.plains 8 ys = true) {ms : List Addr} {H : Hp} {v : V} (A : AH T ms st H) (r : RD T ms H d v) : Dp T.K H v (.list (toPys ys)) ∨ Dp T.K H v (.tuple (toPys ys)) := by
  rcases hl with hl | hl
  · obtain ⟨p, vs, rfl, q, rs, _⟩ := vw_lst A r hl
    exact .inl (.lst q (dps_of 8 h rs))
  · obtain ⟨p, vs, rfl, q, rs⟩ := vw_tup A r hl
    exact .inr (.tup q.sq (dps_of 8 h rs))
theorem oc_in {X : Cx} (hK : X.K = T.K) (hu : X.A.units + 64 < cLine) : OpR X (compareOp .In) (rCmp T .isin) := by
  refine or_l (op_in_sign.or ((oc_inp hu).or (oc_ind hu))) ?_
  rintro x y H Q ⟨W, τ, ms, st, d, e, A, rd, re, p⟩
  simp only [cmpE, cmpD] at p
  rw [hK]
  cases hc : isIn (look st d) (look st e) with
  | none => rw [hc] at p; exact p.elim
  | some c =>
    have q := pst_bl hc p A
    rcases isIn_cases hc with ⟨z, t, e1, e2, rfl⟩ | ⟨ys, hy, pa, pb, rfl⟩ | ⟨kvs, kk, e2, ek, rfl⟩
    · exact .inl ⟨z, tx t, (vw_str rd e1).1, (vw_str re e2).1, by simpa using q⟩
    · have p1 := toPy_plain 8 _ pa
      refine .inr (.inl ⟨_, _, look_plain pa A rd, seq_plain hy pb A re, p1.1, (toPys_plain 8 _ pb).1, p1.2, ?_⟩)
      rw [inD_eqv pa pb]
      exact q
    · obtain ⟨p2, ks, rfl, hp, rk, _⟩ := vw_dct A re e2
      have hd : look st d = d := by cases d <;> first | rfl | (rename_i a; simp only [look] at ek; cases ho : st[a]? with | none => simp only [ho, keyD] at ek; cases ek | some o => cases o <;> simp only [ho, keyD] at ek <;> cases ek)
      rw [hd] at ek
      have ev := ky_val ek rd
      refine .inr (.inr ⟨p2, _, rfl, by rw [ev]; exact DGet.k hp, ?_⟩)
      rcases kv_get kk rk with ⟨_, _, g1, g2, _⟩ | ⟨g1, g2⟩
      · rw [g2]; rw [g1] at q; exact q
      · rw [g2]; rw [g1] at q; exact q
theorem oc_notin {X : Cx} (hK : X.K = T.K) (hu : X.A.units + 64 < cLine) : OpR X (compareOp .NotIn) (rCmp T .notin) := by
  refine or_l (op_notIn_sign.or ((oc_ninp hu).or (oc_nind hu))) ?_
  rintro x y H Q ⟨W, τ, ms, st, d, e, A, rd, re, p⟩
  simp only [cmpE, cmpD] at p
  rw [hK]
  cases hc : isIn (look st d) (look st e) with
  | none => rw [hc] at p; exact p.elim
  | some c =>
    have q := pst_bl (b := !c) (by rw [hc]; rfl) p A
    rcases isIn_cases hc with ⟨z, t, e1, e2, rfl⟩ | ⟨ys, hy, pa, pb, rfl⟩ | ⟨kvs, kk, e2, ek, rfl⟩
    · exact .inl ⟨z, tx t, (vw_str rd e1).1, (vw_str re e2).1, by simpa using q⟩
    · have p1 := toPy_plain 8 _ pa
      refine .inr (.inl ⟨_, _, look_plain pa A rd, seq_plain hy pb A re, p1.1, (toPys_plain 8 _ pb).1, p1.2, ?_⟩)
      rw [inD_eqv pa pb]
      exact q
    · obtain ⟨p2, ks, rfl, hp, rk, _⟩ := vw_dct A re e2
      have hd : look st d = d := by cases d <;> first | rfl | (rename_i a; simp only [look] at ek; cases ho : st[a]? with | none => simp only [ho, keyD] at ek; cases ek | some o => cases o <;> simp only [ho, keyD] at ek <;> cases ek)
      rw [hd] at ek
      have ev := ky_val ek rd
      refine .inr (.inr ⟨p2, _, rfl, by rw [ev]; exact DGet.k hp, ?_⟩)
      rcases kv_get kk rk with ⟨_, _, g1, g2, _⟩ | ⟨g1, g2⟩
      · rw [g2]; rw [g1] at q; exact q
      · rw [g2]; rw [g1] at q; exact q
theorem oc_all {X : Cx} (hK : X.K = T.K) (hu : X.A.units + 64 < cLine) {o : Cop} {op : CmpOp} (h : copB o op = true) : OpR X (compareOp op) (rCmp T o) := by
  cases o <;> cases op <;> first | (cases h; done) | skip
  · exact oc_eq hK hu
  · exact oc_ne hK hu
  · exact oc_ord op_lt (fun _ _ _ => rfl) (fun _ _ => rfl) fun a b c h => by cases a <;> cases b <;> simp only [cmpD] at h <;> first | (cases h; done) | exact ⟨_, _, rfl, rfl⟩
  · exact oc_ord op_le (fun _ _ _ => rfl) (fun _ _ => rfl) fun a b c h => by cases a <;> cases b <;> simp only [cmpD] at h <;> first | (cases h; done) | exact ⟨_, _, rfl, rfl⟩
  · exact oc_ord op_gt (fun _ _ _ => rfl) (fun _ _ => rfl) fun a b c h => by cases a <;> cases b <;> simp only [cmpD] at h <;> first | (cases h; done) | exact ⟨_, _, rfl, rfl⟩
  · exact oc_ord op_ge (fun _ _ _ => rfl) (fun _ _ => rfl) fun a b c h => by cases a <;> cases b <;> simp only [cmpD] at h <;> first | (cases h; done) | exact ⟨_, _, rfl, rfl⟩
  · exact oc_in hK hu
  · exact oc_notin hK hu
end CT

set_option maxRecDepth 100000
/-! Comparisons and truths as expressions and tests; subscripts. -/
namespace CT
open PySem L2 PyProof.Rows
variable {T : TT} {k : Nat}
theorem Good.hu64 {T k W c X} (g : Good T k W c X) : X.A.units + 64 < cLine := by have := g.units; omega
theorem relB_of {W : WX} {τ ms H} {r : R D} {Q : Bool → Hp → Prop} (h : Pst T W τ ms H (boolD r) relB Q) : Pst T W τ ms H r (RD T) (fun v H1 => ∃ b, v = .bl b ∧ Q b H1) := by
  refine Pst.bind h fun d st1 v ms1 H1 _ ev ah rd p1 => ?_
  cases d with
  | bl b => cases rd; exact ⟨b, rfl, Pst.ok p1 ah rfl⟩
  | _ => exact p1.elim
theorem se_cmp {o : Cop} {a b : E} (ha : SE T k a) (hb : SE T k b) : SE T k (.cmp o a b) := by
  have pe : ∀ (W : WX) (c : MC) (X : Cx) (x : Expr), Good T k W c X → mE c (.cmp o a b) x = true → ∀ τ H Q, tE T k W (.cmp o a b) τ H Q → tOp (rCmp T o) (tE T k W a) (tE T k W b) τ H Q := by
    intro W c X x g h
    rintro τ H Q ⟨ms, σ, st, A, p⟩
    simp only [evE] at p
    refine ⟨ms, σ, st, A, Pst.bind p fun d st1 v ms1 H1 _ ev ah rd p1 => ?_⟩
    refine ⟨ms1, σ, st1, A.go ev ah, Pst.bind p1 fun e st2 w ms2 H2 _ ev2 ah2 re p2 => ?_⟩
    refine ⟨W, τ, ms2, st2, d, e, ah2, rd.mono ev2, re, Pst.bind p2 fun y st3 v3 ms3 H3 _ ev3 ah3 rv p3 => ?_⟩
    subst rv
    exact Pst.ok p3 ah3 (.bl y)
  refine ⟨fun W c X x g h => ?_, fun W c X x g h => ?_⟩
  · have h0 := h
    (simp only [mE] at h; split at h <;> first | (cases h; done) | skip); (simp only [Bool.and_eq_true, decide_eq_true_eq, Bool.not_eq_true', beq_iff_eq, bne_iff_ne, ne_eq] at h)
    obtain ⟨⟨⟨ho, h1⟩, h2⟩, h3⟩ := h
    exact PE.imp (pe_cmpR (oc_all g.K g.hu64 ho) (ha.pe W c X _ g h1) (hb.pe W c X _ g h2) (noMark h3 _)) (pe W c X _ g h0)
  · have h0 : mE c (.cmp o a b) x = true := h
    (simp only [mT] at h; split at h <;> first | (cases h; done) | skip); (try simp only [Bool.and_eq_true, decide_eq_true_eq, Bool.not_eq_true', beq_iff_eq, bne_iff_ne, ne_eq] at h)
    obtain ⟨⟨⟨ho, h1⟩, h2⟩, h3⟩ := h
    refine PT.imp (pt_cmpR (oc_all g.K g.hu64 ho) (ha.pe W c X _ g h1) (hb.pe W c X _ g h2) (noMark h3 _)) ?_
    rintro τ H Q ⟨ms, σ, st, A, p⟩
    exact pe W c X _ g h0 τ H _ ⟨ms, σ, st, A, relB_of p⟩
theorem se_chn {o p : Cop} {a b d : E} (ha : SE T k a) (hb : SE T k b) (hd : SE T k d) : SE T k (.chn o p a b d) := by
  have pe : ∀ (W : WX) (c : MC) (X : Cx) (x : Expr), Good T k W c X → mE c (.chn o p a b d) x = true → ∀ τ H Q, tE T k W (.chn o p a b d) τ H Q → tChain (rCmp T o) (rCmp T p) (tE T k W a) (tE T k W b) (tE T k W d) τ H Q := by
    intro W c X x g h
    rintro τ H Q ⟨ms, σ, st, A, q⟩
    simp only [evE] at q
    refine ⟨ms, σ, st, A, Pst.bind q fun d1 st1 v ms1 H1 _ ev ah rd p1 => ?_⟩
    refine ⟨ms1, σ, st1, A.go ev ah, Pst.bind p1 fun e st2 w ms2 H2 _ ev2 ah2 re p2 => ?_⟩
    cases hc : cmpE st2 o d1 e with
    | none => rw [hc] at p2; exact p2.elim
    | some y =>
      refine ⟨W, τ, ms2, st2, d1, e, ah2, rd.mono ev2, re, ?_⟩
      rw [hc] at p2 ⊢
      intro v3 ms3 H3 ev3 ah3 rv
      subst rv
      refine ⟨y, rfl, ?_⟩
      cases y with
      | false => exact Pst.ok (Pst.mono ev3 p2) ah3 (.bl false)
      | true =>
        refine ⟨ms3, σ, st2, (A.go ev ah).go (ev2.trans ev3) ah3, Pst.bind (Pst.mono ev3 p2) fun f st4 u ms4 H4 _ ev4 ah4 rf p4 => ?_⟩
        refine ⟨W, τ, ms4, st4, e, f, ah4, (re.mono ev3).mono ev4, rf, Pst.bind p4 fun y st5 v5 ms5 H5 _ ev5 ah5 rv p5 => ?_⟩
        subst rv
        exact Pst.ok p5 ah5 (.bl y)
  refine ⟨fun W c X x g h => ?_, fun W c X x g h => ?_⟩
  · have h0 := h
    (simp only [mE] at h; split at h <;> first | (cases h; done) | skip); (simp only [Bool.and_eq_true, decide_eq_true_eq, Bool.not_eq_true', beq_iff_eq, bne_iff_ne, ne_eq] at h)
    obtain ⟨⟨⟨⟨⟨⟨ho, hp⟩, h1⟩, h2⟩, h3⟩, h4⟩, h5⟩ := h
    exact PE.imp (pe_chain (oc_all g.K g.hu64 ho) (oc_all g.K g.hu64 hp) (ha.pe W c X _ g h1) (hb.pe W c X _ g h2) (hd.pe W c X _ g h3) (show lastMarks _ _ = false from noMark h5 _)) (pe W c X _ g h0)
  · have h0 : mE c (.chn o p a b d) x = true := h
    (simp only [mT] at h; split at h <;> first | (cases h; done) | skip); (try simp only [Bool.and_eq_true, decide_eq_true_eq, Bool.not_eq_true', beq_iff_eq, bne_iff_ne, ne_eq] at h)
    obtain ⟨⟨⟨⟨⟨⟨ho, hp⟩, h1⟩, h2⟩, h3⟩, h4⟩, h5⟩ := h
    refine PT.imp (pt_chain (oc_all g.K g.hu64 ho) (oc_all g.K g.hu64 hp) (ha.pe W c X _ g h1) (hb.pe W c X _ g h2) (hd.pe W c X _ g h3) (show lastMarks _ _ = false from noMark h5 _)) ?_
    rintro τ H Q ⟨ms, σ, st, A, q⟩
    exact pe W c X _ g h0 τ H _ ⟨ms, σ, st, A, relB_of q⟩
theorem RD.non_iff {ms H d v} (r : RD T ms H d v) : decide (v = V.non) = decide (d = D.non) := by
  cases r <;> simp
theorem se_isn {y : Bool} {a : E} (ha : SE T k a) : SE T k (.isn y a) := by
  have pe : ∀ (W : WX) (c : MC) (X : Cx) (x : Expr), Good T k W c X → mE c (.isn y a) x = true → ∀ τ H Q, tE T k W (.isn y a) τ H Q → tOp (fun x z H Q => z = V.non ∧ Q (.bl (decide (x = .non) == y)) H) (tE T k W a) (tC .non) τ H Q := by
    intro W c X x g h
    rintro τ H Q ⟨ms, σ, st, A, p⟩
    simp only [evE] at p
    refine ⟨ms, σ, st, A, Pst.bind p fun d st1 v ms1 H1 _ ev ah rd p1 => ?_⟩
    refine ⟨rfl, ?_⟩
    rw [rd.non_iff]
    exact Pst.ok p1 ah (.bl _)
  have op : ∀ {X : Cx} {op : CmpOp}, isB y op = true → OpR X (compareOp op) (fun x z H Q => z = V.non ∧ Q (.bl (decide (x = .non) == y)) H) := fun {X op} h => by
    cases y <;> cases op <;> first | (cases h; done) | skip
    · exact or_l op_notN fun x z H Q q => ⟨q.1, by simpa using q.2⟩
    · exact or_l op_isN fun x z H Q q => ⟨q.1, by simpa using q.2⟩
  have nm : ∀ {y : Bool} {op : CmpOp} {j : Nat} {p : Pos}, isB y op = true → behindInMarks op (.Constant .none j p) = false := fun h => by rfl
  refine ⟨fun W c X x g h => ?_, fun W c X x g h => ?_⟩
  · have h0 := h
    (simp only [mE] at h; split at h <;> first | (cases h; done) | skip); (simp only [Bool.and_eq_true, decide_eq_true_eq, Bool.not_eq_true', beq_iff_eq, bne_iff_ne, ne_eq] at h)
    exact PE.imp (pe_cmpR (op h.1) (ha.pe W c X _ g h.2) pe_non (nm h.1)) (pe W c X _ g h0)
  · have h0 : mE c (.isn y a) x = true := h
    (simp only [mT] at h; split at h <;> first | (cases h; done) | skip); (try simp only [Bool.and_eq_true, decide_eq_true_eq, Bool.not_eq_true', beq_iff_eq, bne_iff_ne, ne_eq] at h)
    refine PT.imp (pt_cmpR (op h.1) (ha.pe W c X _ g h.2) pe_non (nm h.1)) ?_
    rintro τ H Q ⟨ms, σ, st, A, q⟩
    exact pe W c X _ g h0 τ H _ ⟨ms, σ, st, A, relB_of q⟩
theorem se_isb {y j : Bool} {a : E} (ha : SE T k a) : SE T k (.isb y j a) := by
  have pe : ∀ (W : WX) (c : MC) (X : Cx) (x : Expr), Good T k W c X → mE c (.isb y j a) x = true → ∀ τ H Q, tE T k W (.isb y j a) τ H Q → tOp (fun x z H Q => ∃ a b : Bool, x = .bl a ∧ z = .bl b ∧ Q (.bl (decide (a = b) == y)) H) (tE T k W a) (tC (.bl j)) τ H Q := by
    intro W c X x g h
    rintro τ H Q ⟨ms, σ, st, A, p⟩
    simp only [evE] at p
    refine ⟨ms, σ, st, A, Pst.bind p fun d st1 v ms1 H1 _ ev ah rd p1 => ?_⟩
    cases d with
    | bl b =>
      cases rd
      refine ⟨b, j, rfl, rfl, ?_⟩
      have e : (decide (b = j) == y) = ((b == j) == y) := by cases b <;> cases j <;> rfl
      rw [e]
      exact Pst.ok p1 ah (.bl _)
    | _ => exact p1.elim
  have op : ∀ {X : Cx} {op : CmpOp}, isB y op = true → OpR X (compareOp op) (fun x z H Q => ∃ a b : Bool, x = .bl a ∧ z = .bl b ∧ Q (.bl (decide (a = b) == y)) H) := fun {X op} h => by
    cases y <;> cases op <;> first | (cases h; done) | skip
    · exact or_l op_notBl fun x z H Q ⟨a, b, e1, e2, q⟩ => ⟨a, b, e1, e2, by simpa using q⟩
    · exact or_l op_isBl fun x z H Q ⟨a, b, e1, e2, q⟩ => ⟨a, b, e1, e2, by simpa using q⟩
  have nm : ∀ {y b : Bool} {op : CmpOp} {j : Nat} {p : Pos}, isB y op = true → behindInMarks op (.Constant (.bool b) j p) = false := fun h => by rfl
  refine ⟨fun W c X x g h => ?_, fun W c X x g h => ?_⟩
  · have h0 := h
    (simp only [mE] at h; split at h <;> first | (cases h; done) | skip); (simp only [Bool.and_eq_true, decide_eq_true_eq, Bool.not_eq_true', beq_iff_eq, bne_iff_ne, ne_eq] at h)
    obtain ⟨⟨h1, h2⟩, h3⟩ := h
    subst h2
    exact PE.imp (pe_cmpR (op h1) (ha.pe W c X _ g h3) pe_bl (nm h1)) (pe W c X _ g h0)
  · have h0 : mE c (.isb y j a) x = true := h
    (simp only [mT] at h; split at h <;> first | (cases h; done) | skip); (try simp only [Bool.and_eq_true, decide_eq_true_eq, Bool.not_eq_true', beq_iff_eq, bne_iff_ne, ne_eq] at h)
    obtain ⟨⟨h1, h2⟩, h3⟩ := h
    subst h2
    refine PT.imp (pt_cmpR (op h1) (ha.pe W c X _ g h3) pe_bl (nm h1)) ?_
    rintro τ H Q ⟨ms, σ, st, A, q⟩
    exact pe W c X _ g h0 τ H _ ⟨ms, σ, st, A, relB_of q⟩
theorem se_neg {a : E} (ha : SE T k a) : SE T k (.neg a) := by
  refine ⟨fun W c X x g h => ?_, no_pt fun c x => by simp only [mT]⟩
  simp only [mE] at h
  split at h <;> first | (cases h; done) | skip
  refine PE.imp (pe_un un_neg (ha.pe W c X _ g h)) ?_
  rintro τ H Q ⟨ms, σ, st, A, p⟩
  simp only [evE] at p
  refine ⟨ms, σ, st, A, Pst.bind p fun d st1 v ms1 H1 _ ev ah rd p1 => ?_⟩
  cases d with
  | int i => cases rd; exact ⟨i, rfl, Pst.ok p1 ah (.int _)⟩
  | _ => exact p1.elim
theorem se_nt {a : E} (ha : SE T k a) : SE T k (.nt a) := by
  refine ⟨fun W c X x g h => ?_, fun W c X x g h => ?_⟩
  · simp only [mE] at h
    split at h <;> first | (cases h; done) | skip
    refine PE.imp (pe_not (ha.pe W c X _ g h)) ?_
    rintro τ H Q ⟨ms, σ, st, A, p⟩
    simp only [evE] at p
    have p2 : Pst T W τ ms H (boolD (evE T.P (runF T.P k) σ a st)) relB (fun b H1 => Q (.bl (!b)) H1) := by
      refine Pst.bind (rel := relB) p fun b st1 b' ms1 H1 _ ev ah rb p1 => ?_
      cases rb
      exact Pst.ok p1 ah (.bl _)
    exact ⟨ms, σ, st, A, relB_of p2⟩
  · simp only [mT] at h
    split at h <;> first | (cases h; done) | skip
    refine PT.imp (pt_not (ha.pt W c X _ g h)) ?_
    rintro τ H Q ⟨ms, σ, st, A, p⟩
    refine ⟨ms, σ, st, A, ?_⟩
    simp only [evT, evE] at p
    have p2 : Pst T W τ ms H ((boolD (evE T.P (runF T.P k) σ a st)).bind fun b st => R.ok (D.bl (!b)) st) (RD T) (fun v H1 => ∃ b, v = .bl b ∧ Q b H1) := relB_of p
    refine Pst.bind (rel := relB) p2 fun b st1 b' ms1 H1 _ ev ah rb p1 => ?_
    cases rb
    obtain ⟨b2, e, q⟩ := Pst.ok p1 ah (.bl _)
    cases e
    exact q

/-- the parts of an and, an or -/
theorem oneB_pe {X : Cx} {op : PySem.BoolOp} {y : Expr} {r : List Expr} {pos : Pos} {t : TE} (h : PE X (oneB op (y :: r) pos) t) : PE X (.BoolOp op (y :: r) pos) t := by
  cases r with
  | nil => exact pe_one h
  | cons z r => exact h
theorem pe_and1 {W : WX} {c : MC} {X : Cx} {a b : E} {x y : Expr} {r : List Expr} {pos : Pos} (ha : PE X x (tE T k W a)) (hb : PE X (oneB .And (y :: r) pos) (tE T k W b)) : PE X (.BoolOp .And (x :: y :: r) pos) (tE T k W (.andE a b)) := by
  refine PE.imp (pe_and ha (oneB_pe hb)) ?_
  rintro τ H Q ⟨ms, σ, st, A, p⟩
  simp only [evE] at p
  have p2 : Pst T W τ ms H (boolD (evE T.P (runF T.P k) σ a st)) relB (fun b' H1 => if b' = true then tE T k W b τ H1 Q else Q (.bl false) H1) := by
    refine Pst.bind (rel := relB) p fun u st1 u' ms1 H1 _ ev ah rb p1 => ?_
    cases rb
    cases u with
    | false => simp only [Bool.false_eq_true, if_false] at p1 ⊢; exact Pst.ok p1 ah (.bl _)
    | true =>
      simp only [if_true] at p1 ⊢
      refine ⟨ms1, σ, st1, A.go ev ah, ?_⟩
      have p3 := relB_of (Q := fun u H2 => Q (.bl u) H2) (Pst.bind (rel := relB) p1 fun u st2 u' ms2 H2 _ ev2 ah2 rb p2 => by cases rb; exact Pst.ok p2 ah2 (.bl _))
      cases hr : evE T.P (runF T.P k) σ b st1 with
      | ok d st2 => rw [hr] at p3; exact fun v ms3 H3 e3 a3 r3 => by obtain ⟨u, e, q⟩ := p3 v ms3 H3 e3 a3 r3; rw [e]; exact q
      | ex c pl st2 => rw [hr] at p3; exact p3
      | bad => rw [hr] at p3; exact p3
  exact ⟨ms, σ, st, A, relB_of p2⟩
theorem pe_or1' {W : WX} {c : MC} {X : Cx} {a b : E} {x y : Expr} {r : List Expr} {pos : Pos} (ha : PE X x (tE T k W a)) (hb : PE X (oneB .Or (y :: r) pos) (tE T k W b)) : PE X (.BoolOp .Or (x :: y :: r) pos) (tE T k W (.orE a b)) := by
  refine PE.imp (pe_or ha (oneB_pe hb)) ?_
  rintro τ H Q ⟨ms, σ, st, A, p⟩
  simp only [evE] at p
  have p2 : Pst T W τ ms H (boolD (evE T.P (runF T.P k) σ a st)) relB (fun b' H1 => if b' = true then Q (.bl true) H1 else tE T k W b τ H1 Q) := by
    refine Pst.bind (rel := relB) p fun u st1 u' ms1 H1 _ ev ah rb p1 => ?_
    cases rb
    cases u with
    | true => simp only [if_true] at p1 ⊢; exact Pst.ok p1 ah (.bl _)
    | false =>
      simp only [Bool.false_eq_true, if_false] at p1 ⊢
      refine ⟨ms1, σ, st1, A.go ev ah, ?_⟩
      have p3 := relB_of (Q := fun u H2 => Q (.bl u) H2) (Pst.bind (rel := relB) p1 fun u st2 u' ms2 H2 _ ev2 ah2 rb p2 => by cases rb; exact Pst.ok p2 ah2 (.bl _))
      cases hr : evE T.P (runF T.P k) σ b st1 with
      | ok d st2 => rw [hr] at p3; exact fun v ms3 H3 e3 a3 r3 => by obtain ⟨u, e, q⟩ := p3 v ms3 H3 e3 a3 r3; rw [e]; exact q
      | ex c pl st2 => rw [hr] at p3; exact p3
      | bad => rw [hr] at p3; exact p3
  exact ⟨ms, σ, st, A, relB_of p2⟩
/-- the tests: the parts behind -/
theorem oneB_pw {X : Cx} {y : Expr} {r : List Expr} {pos : Pos} {t : L2.TT} (h : PT X (oneB .And (y :: r) pos) t) : PW X (.BoolOp .And (y :: r) pos) t := by
  cases r with
  | nil => exact pw_and1 h
  | cons z r => exact ⟨fun whole pins s σ H Q I hq => h.run pins s σ H Q I hq⟩
theorem oneB_pwo {X : Cx} {y : Expr} {r : List Expr} {pos : Pos} {t : L2.TT} (h : PT X (oneB .Or (y :: r) pos) t) : PW X (.BoolOp .Or (y :: r) pos) t := by
  cases r with
  | nil => exact pw_or1 h
  | cons z r => exact ⟨fun whole pins s σ H Q I hq => h.run pins s σ H Q I hq⟩
theorem boolD_idem (r : R D) (st : Store) : True := trivial
theorem tT_and {W : WX} {a b : E} : ∀ τ H Q, tT T k W (.andE a b) τ H Q → tAnd (tT T k W a) (tT T k W b) τ H Q := by
  rintro τ H Q ⟨ms, σ, st, A, p⟩
  simp only [evT, evE] at p
  have p0 : Pst T W τ ms H ((boolD (evE T.P (runF T.P k) σ a st)).bind fun x st => if x then (boolD (evE T.P (runF T.P k) σ b st)).bind fun y st => R.ok (D.bl y) st else R.ok (D.bl false) st) (RD T) (fun v H1 => ∃ u, v = .bl u ∧ Q u H1) := relB_of p
  refine ⟨ms, σ, st, A, Pst.bind (rel := relB) p0 fun u st1 u' ms1 H1 _ ev ah rb p1 => ?_⟩
  cases rb
  cases u with
  | false =>
    simp only [Bool.false_eq_true, if_false] at p1 ⊢
    obtain ⟨u, e, q⟩ := Pst.ok p1 ah (.bl _)
    cases e; exact q
  | true =>
    simp only [if_true] at p1 ⊢
    refine ⟨ms1, σ, st1, A.go ev ah, Pst.bind (rel := relB) p1 fun u st2 u' ms2 H2 _ ev2 ah2 rb p2 => ?_⟩
    cases rb
    obtain ⟨u, e, q⟩ := Pst.ok p2 ah2 (.bl _)
    cases e; exact q
theorem tT_or {W : WX} {a b : E} : ∀ τ H Q, tT T k W (.orE a b) τ H Q → tOr (tT T k W a) (tT T k W b) τ H Q := by
  rintro τ H Q ⟨ms, σ, st, A, p⟩
  simp only [evT, evE] at p
  have p0 : Pst T W τ ms H ((boolD (evE T.P (runF T.P k) σ a st)).bind fun x st => if x then R.ok (D.bl true) st else (boolD (evE T.P (runF T.P k) σ b st)).bind fun y st => R.ok (D.bl y) st) (RD T) (fun v H1 => ∃ u, v = .bl u ∧ Q u H1) := relB_of p
  refine ⟨ms, σ, st, A, Pst.bind (rel := relB) p0 fun u st1 u' ms1 H1 _ ev ah rb p1 => ?_⟩
  cases rb
  cases u with
  | true =>
    simp only [if_true] at p1 ⊢
    obtain ⟨u, e, q⟩ := Pst.ok p1 ah (.bl _)
    cases e; exact q
  | false =>
    simp only [Bool.false_eq_true, if_false] at p1 ⊢
    refine ⟨ms1, σ, st1, A.go ev ah, Pst.bind (rel := relB) p1 fun u st2 u' ms2 H2 _ ev2 ah2 rb p2 => ?_⟩
    cases rb
    obtain ⟨u, e, q⟩ := Pst.ok p2 ah2 (.bl _)
    cases e; exact q
theorem se_and {a b : E} (ha : SE T k a) (hb : SE T k b) : SE T k (.andE a b) := by
  refine ⟨fun W c X x g h => ?_, fun W c X x g h => ?_⟩
  · (simp only [mE] at h; split at h <;> first | (cases h; done) | skip); (simp only [Bool.and_eq_true, decide_eq_true_eq, Bool.not_eq_true', beq_iff_eq, bne_iff_ne, ne_eq] at h)
    exact pe_and1 (c := c) (ha.pe W c X _ g h.1) (hb.pe W c X _ g h.2)
  · (simp only [mT] at h; split at h <;> first | (cases h; done) | skip); (try simp only [Bool.and_eq_true, decide_eq_true_eq, Bool.not_eq_true', beq_iff_eq, bne_iff_ne, ne_eq] at h)
    exact PT.imp (pw_and (ha.pt W c X _ g h.1) (oneB_pw (hb.pt W c X _ g h.2))).pt tT_and
theorem se_or {a b : E} (ha : SE T k a) (hb : SE T k b) : SE T k (.orE a b) := by
  refine ⟨fun W c X x g h => ?_, fun W c X x g h => ?_⟩
  · (simp only [mE] at h; split at h <;> first | (cases h; done) | skip); (simp only [Bool.and_eq_true, decide_eq_true_eq, Bool.not_eq_true', beq_iff_eq, bne_iff_ne, ne_eq] at h)
    exact pe_or1' (c := c) (ha.pe W c X _ g h.1) (hb.pe W c X _ g h.2)
  · (simp only [mT] at h; split at h <;> first | (cases h; done) | skip); (try simp only [Bool.and_eq_true, decide_eq_true_eq, Bool.not_eq_true', beq_iff_eq, bne_iff_ne, ne_eq] at h)
    exact PT.imp (pw_or (ha.pt W c X _ g h.1) (oneB_pwo (hb.pt W c X _ g h.2))).pt tT_or
theorem se_ife {t a b : E} (ht : SE T k t) (ha : SE T k a) (hb : SE T k b) : SE T k (.ife t a b) := by
  refine ⟨fun W c X x g h => ?_, no_pt fun c x => by simp only [mT]⟩
  (simp only [mE] at h; split at h <;> first | (cases h; done) | skip); (simp only [Bool.and_eq_true, decide_eq_true_eq, Bool.not_eq_true', beq_iff_eq, bne_iff_ne, ne_eq] at h)
  obtain ⟨⟨h1, h2⟩, h3⟩ := h
  refine PE.imp (pe_ifExp (ht.pt W c X _ g h1) (ha.pe W c X _ g h2) (hb.pe W c X _ g h3)) ?_
  rintro τ H Q ⟨ms, σ, st, A, p⟩
  simp only [evE] at p
  refine ⟨ms, σ, st, A, Pst.bind (rel := relB) p fun u st1 u' ms1 H1 _ ev ah rb p1 => ?_⟩
  cases rb
  cases u with
  | true => simp only [if_true] at p1 ⊢; exact ⟨ms1, σ, st1, A.go ev ah, p1⟩
  | false => simp only [Bool.false_eq_true, if_false] at p1 ⊢; exact ⟨ms1, σ, st1, A.go ev ah, p1⟩
end CT

set_option maxRecDepth 100000
/-! Items, slices, attributes. -/
namespace CT
open PySem L2 PyProof.Rows
variable {T : TT} {k : Nat}

theorem plainIx_of {b : Expr} (h : noSlice b = true) : PlainIx b := by
  intro o i
  cases b <;> first | rfl | (simp [noSlice] at h)
theorem ixD_atI {α : Type} {xs : List α} {i : Int} {d : α} (h : ixD xs i = some d) : atI xs i = some d := by
  unfold ixD at h
  unfold atI L2.ixN
  by_cases h0 : 0 ≤ i
  · rw [if_pos h0] at h
    have hl : i.toNat < xs.length := (List.getElem?_eq_some_iff.mp h).1
    rw [if_pos h0, if_pos (by omega)]
    exact h
  · rw [if_neg h0] at h
    rw [if_neg h0]
    by_cases h1 : -(xs.length : Int) ≤ i
    · rw [if_pos h1] at h
      rw [if_pos h1]
      exact h
    · rw [if_neg h1] at h; cases h
theorem atI_rds {ms H} {xs : List D} {vs : List V} {i : Int} {d : D} (r : RDs T ms H xs vs) (h : ixD xs i = some d) : ∃ v, atI vs i = some v ∧ RD T ms H d v := by
  have h2 := ixD_atI h
  unfold atI at h2 ⊢
  rw [r.length] at h2
  cases e : L2.ixN vs.length i with
  | none => rw [e] at h2; cases h2
  | some j =>
    rw [e] at h2
    exact r.get h2
/-- d[k] of a dict -/
def rIxK : R2 := fun x y H Q => ∃ a v, x = .ref a ∧ DGet H a y (some v) ∧ Q v H
theorem ix_dk {X : Cx} (hu : X.A.units + 1 < cLine) : IxR X rIxK := by
  intro value slice pins s σ H x y v u Q I rx ry h hs
  obtain ⟨a, z, rfl, g, q⟩ := h
  cases rx
  exact tail_any (dict_typeIs I g) slot_dict_getitem.lookup (d_getItem hu I g ry fun w' s3 I3 rw' => ⟨z, H, I3, rw', q⟩) hs
def rIdx (T : TT) : R2 := fun x y H Q => ∃ (W : WX) (τ : L2.St) (ms : List Addr) (st : Store) (d e : D), AH T ms st H ∧ RD T ms H d x ∧ RD T ms H e y ∧ Pst T W τ ms H (R.of (idxD (look st d) e) st) (RD T) Q
theorem ix_or {X : Cx} {r r' : R2} (h : IxR X r) (i : ∀ x y H Q, r' x y H Q → r x y H Q) : IxR X r' := fun va sl pins s σ H x y v u Q I rx ry hw => h va sl pins s σ H x y v u Q I rx ry (i _ _ _ _ hw)
theorem ix_all {X : Cx} (hK : X.K = T.K) (hu : X.A.units + 1 < cLine) : IxR X (rIdx T) := by
  refine ix_or (ix_list.or (ix_tup.or (ix_str.or (ix_dk hu)))) ?_
  rintro x y H Q ⟨W, τ, ms, st, d, e, A, rd, re, p⟩
  rw [hK]
  generalize hd : look st d = ld at p
  cases hx : idxD ld e with
  | none => rw [hx] at p; exact p.elim
  | some z =>
    rw [hx] at p
    unfold idxD at hx
    split at hx
    · obtain ⟨pa, vs, rfl, q1, r1, _⟩ := vw_lst A rd hd
      cases re
      obtain ⟨v, h1, h2⟩ := atI_rds r1 hx
      exact .inl ⟨pa, vs, _, v, rfl, rfl, q1, h1, Pst.ok p A h2⟩
    · obtain ⟨pa, vs, rfl, q1, r1⟩ := vw_tup A rd hd
      cases re
      obtain ⟨v, h1, h2⟩ := atI_rds r1 hx
      exact .inr (.inl ⟨pa, vs, _, v, rfl, rfl, q1.sq, h1, Pst.ok p A h2⟩)
    · rename_i s0 i
      obtain ⟨rfl, hz⟩ := vw_str rd hd
      cases re
      cases hc : ixD s0 i with
      | none => rw [hc] at hx; cases hx
      | some c =>
        rw [hc] at hx
        cases hx
        refine .inr (.inr (.inl ⟨tx s0, i, c, rfl, rfl, by rw [sim]; exact hz, ?_, ?_⟩))
        · show atI s0.toArray.toList i = some c
          simpa using ixD_atI hc
        · exact Pst.ok p A (.str [c] (show 1 ≤ 16777216 by omega))
    · rename_i kvs
      obtain ⟨pa, ks, rfl, hp, r1, _⟩ := vw_dct A rd hd
      cases hk : keyD e with
      | none => rw [hk] at hx; cases hx
      | some q =>
        rw [hk] at hx
        simp only [Option.bind_some] at hx
        rcases kv_get q r1 with ⟨d2, v2, h1, h2, h3⟩ | ⟨h1, h2⟩
        · rw [h1] at hx
          cases hx
          refine .inr (.inr (.inr ⟨pa, v2, rfl, ?_, Pst.ok p A h3⟩))
          rw [ky_val hk re, ← h2]
          exact .k hp
        · rw [h1] at hx; cases hx
    · cases hx
theorem se_idx {a b : E} (ha : SE T k a) (hb : SE T k b) : SE T k (.idx a b) := by
  have pe : ∀ (W : WX) (c : MC) (X : Cx) (x : Expr), Good T k W c X → mE c (.idx a b) x = true → PE X x (tE T k W (.idx a b)) := by
    intro W c X x g h
    (simp only [mE] at h; split at h <;> first | (cases h; done) | skip); (simp only [Bool.and_eq_true, decide_eq_true_eq, Bool.not_eq_true', beq_iff_eq, bne_iff_ne, ne_eq] at h)
    refine PE.imp (pe_ix (ix_all g.K g.hu) (ha.pe W c X _ g h.1.1) (hb.pe W c X _ g h.1.2) (plainIx_of h.2)) ?_
    rintro τ H Q ⟨ms, σ, st, A, p⟩
    simp only [evE] at p
    refine ⟨ms, σ, st, A, Pst.bind p fun d st1 v ms1 H1 _ ev ah rd p1 => ?_⟩
    refine ⟨ms1, σ, st1, A.go ev ah, Pst.bind p1 fun e st2 w ms2 H2 _ ev2 ah2 re p2 => ?_⟩
    exact ⟨W, τ, ms2, st2, d, e, ah2, rd.mono ev2, re, p2⟩
  refine ⟨pe, fun W c X x g h => ?_⟩
  have h2 : mE c (.idx a b) x = true := h
  refine pt_of (pe W c X x g h2) ?_
  (simp only [mT] at h; split at h <;> first | (cases h; done) | skip); (try simp only [Bool.and_eq_true, decide_eq_true_eq, Bool.not_eq_true', beq_iff_eq, bne_iff_ne, ne_eq] at h)
  rfl

/-! ### slices -/
theorem sx_eq (n d : Nat) (o : Option Int) : sx n d o = HT.sIx n d o := by
  cases o <;> rfl
theorem cut_eq (xs : List V) (l h : Option Int) : cut xs l h = cutV xs l h := by
  unfold cut cutV
  simp only [sx_eq]
theorem rds_cut {ms H} {xs : List D} {vs : List V} (r : RDs T ms H xs vs) (l h : Option Int) : RDs T ms H (cut xs l h) (cutV vs l h) := by
  rw [← cut_eq]
  unfold cut
  rw [r.length]
  exact (r.drop _).take _
theorem cut_len {α : Type} (xs : List α) (l h : Option Int) : (cut xs l h).length ≤ xs.length := by
  unfold cut
  rw [List.length_take, List.length_drop]
  omega
theorem cut_whole {α : Type} {xs : List α} {l h : Option Int} (h1 : sx xs.length 0 l = 0) (h2 : sx xs.length xs.length h = xs.length) : cut xs l h = xs := by
  unfold cut
  rw [h1, h2]
  simp
theorem cutS_tx (s : List Nat) (l h : Option Int) : cutS (tx s) l h = tx (cut s l h) := by
  show (⟨(((s.toArray.toList.drop (HT.sIx (tx s).length 0 l)).take (HT.sIx (tx s).length (tx s).length h - HT.sIx (tx s).length 0 l)).toArray)⟩ : Str) = _
  unfold cut
  simp only [sx_eq, tx_len]
def rSlc (T : TT) (m : Bool) : V → Option Int → Option Int → Hp → VK → Prop := fun x l h H Q => ∃ (W : WX) (τ : L2.St) (ms : List Addr) (st : Store) (d : D), AH T ms st H ∧ RD T ms H d x ∧
  Pst T W τ ms H (match slcD (look st d) l h with | some d => fin m d st | none => .bad) (RD T) Q
theorem sl_all {X : Cx} {m : Bool} (hK : X.K = T.K) : SlR X (rSlc T m) := by
  have base := SlR.or (X := X) sl_list (SlR.or sl_tupA sl_str)
  intro pins s σ H x v vl vu lo hi sl Q I rx hs pl pu hw
  refine base pins s σ H x v vl vu lo hi sl Q I rx hs pl pu ?_
  obtain ⟨W, τ, ms, st, d, A, rd, p⟩ := hw
  rw [hK]
  generalize hd : look st d = ld at p
  cases ld <;> simp only [slcD] at p <;> first | exact p.elim | skip
  case str s0 =>
    obtain ⟨rfl, hz⟩ := vw_str rd hd
    refine .inr (.inr ⟨tx s0, rfl, by rw [sim]; exact hz, ?_⟩)
    rw [cutS_tx]
    exact pst_sc rfl p A (.str _ (Nat.le_trans (cut_len _ _ _) hz))
  case tup xs =>
    obtain ⟨pa, vs, rfl, q1, r1⟩ := vw_tup A rd hd
    refine .inr (.inl ⟨pa, vs, rfl, q1.sq, fun hq => ?_, fun _ q hq => ?_⟩)
    · rw [← r1.length] at hq
      rw [cut_whole (by rw [sx_eq]; exact hq.1) (by rw [sx_eq]; exact hq.2)] at p
      exact pst_sc rfl p A (.tup q1 r1)
    · cases m with
      | false => exact pst_tup p A (rds_cut r1 lo hi) hq
      | true => exact p.elim
  case lst xs =>
    obtain ⟨pa, vs, rfl, q1, r1, z1⟩ := vw_lst A rd hd
    exact .inl ⟨pa, vs, rfl, q1, fun q hq => pst_lst p A (rds_cut r1 lo hi) (Nat.le_trans (cut_len _ _ _) z1) hq⟩
/-- a slice's bound -/
def tB (T : TT) (k : Nat) (W : WX) (e : E) : TO := fun τ H Q => ∃ ms σ st, At T σ st ms τ H ∧ Pst T W τ ms H (if e.isNo then R.ok none st else (evE T.P (runF T.P k) σ e st).bind bndI) (fun _ _ (a b : Option Int) => a = b) Q
theorem PO.imp {X : Cx} {e : Option Expr} {t t' : TO} (h : PO X e t) (i : ∀ σ H Q, t' σ H Q → t σ H Q) : PO X e t' := ⟨fun pins s σ H Q I hq => h.run pins s σ H Q I (i _ _ _ hq)⟩
theorem po_b {W : WX} {c : MC} {X : Cx} {e : E} {l : Option Expr} (g : Good T k W c X) (he : SE T k e) (h : (match l with | none => e.isNo | some l => !e.isNo && mE c e l) = true) : PO X l (tB T k W e) := by
  cases l with
  | none =>
    refine PO.imp po_none ?_
    rintro τ H Q ⟨ms, σ, st, A, p⟩
    simp only at h
    rw [if_pos h] at p
    exact Pst.ok p A.ah rfl
  | some l =>
    simp only [Bool.and_eq_true, Bool.not_eq_true'] at h
    refine PO.imp (po_some (he.pe W c X l g h.2)) ?_
    rintro τ H Q ⟨ms, σ, st, A, p⟩
    rw [if_neg (by rw [h.1]; decide)] at p
    refine ⟨ms, σ, st, A, Pst.bind p fun d st1 v ms1 H1 _ ev ah rd p1 => ?_⟩
    cases d with
    | int i => cases rd; exact ⟨i, rfl, Pst.ok p1 ah rfl⟩
    | _ => exact p1.elim
theorem se_slc {m : Bool} {a lo hi : E} (ha : SE T k a) (hl : SE T k lo) (hh : SE T k hi) : SE T k (.slc m a lo hi) := by
  refine ⟨fun W c X x g h => ?_, no_pt fun c x => by simp only [mT]⟩
  simp only [mE] at h
  split at h <;> first | (cases h; done) | skip
  rw [Bool.and_eq_true, Bool.and_eq_true] at h
  obtain ⟨⟨h1, h2⟩, h3⟩ := h
  refine PE.imp (pe_slice (sl_all (m := m) g.K) (ha.pe W c X _ g h1) (po_b g hl h2) (po_b g hh h3)) ?_
  rintro τ H Q ⟨ms, σ, st, A, p⟩
  simp only [evE] at p
  refine ⟨ms, σ, st, A, Pst.bind p fun d st1 v ms1 H1 _ ev ah rd p1 => ?_⟩
  refine ⟨ms1, σ, st1, A.go ev ah, Pst.bind p1 fun l st2 l' ms2 H2 _ ev2 ah2 el p2 => ?_⟩
  subst el
  refine ⟨ms2, σ, st2, (A.go ev ah).go ev2 ah2, Pst.bind p2 fun u st3 u' ms3 H3 _ ev3 ah3 eu p3 => ?_⟩
  subst eu
  exact ⟨W, τ, ms3, st3, d, ah3, (rd.mono ev2).mono ev3, p3⟩

/-! ### attributes -/
theorem fld_look {ms H} {g : Nat → Str} (inj : ∀ a b, g a = g b → a = b) {f : Nat} : ∀ {fs : List (Str × V)} {fields : List Nat} {ds : List D} {i : Nat} {d : D}, RDs T ms H ds (fs.map (·.2)) → fs.map (·.1) = (fields.take ds.length).map g →
    fields.findIdx? (· == f) = some i → ds[i]? = some d → ∃ v, fs.lookup (g f) = some v ∧ RD T ms H d v
  | [], fields, ds, i, d, r, _, _, hd => by cases r; simp at hd
  | (n, v) :: fs, fields, ds, i, d, r, hn, hi, hd => by
    cases r with
    | cons r s =>
      rename_i d0 ds
      cases fields with
      | nil => simp at hn
      | cons a fields =>
        simp only [List.map_cons, List.length_cons, List.take_succ_cons] at hn
        injection hn with hn1 hn2
        by_cases ha : a = f
        · subst ha
          rw [List.findIdx?_cons] at hi
          have hb : (a == a) = true := by simp
          rw [hb] at hi
          rw [if_pos rfl] at hi
          cases hi
          cases hd
          exact ⟨v, by rw [hn1]; simp [List.lookup], r⟩
        · rw [List.findIdx?_cons] at hi
          have hb : (a == f) = false := by simpa using ha
          rw [hb] at hi
          simp only [Bool.false_eq_true, if_false] at hi
          obtain ⟨j, hj, rfl⟩ := Option.map_eq_some_iff.mp hi
          obtain ⟨w, hw, rw'⟩ := fld_look inj s hn2 hj (by simpa using hd)
          refine ⟨w, ?_, rw'⟩
          have hne : (g f == n) = false := by
            rw [hn1]
            simp only [beq_eq_false_iff_ne]
            exact fun z => ha (inj _ _ z).symm
          simp only [List.lookup, hne]
          exact hw
def rAtr (T : TT) (f : Str) : V → Hp → VK → Prop := fun x H Q => (∃ a C dx fs v, x = .ref a ∧ H a = some (.ins C dx fs) ∧ Cls T.K C ∧ NoAttr T.K C f ∧ fs.lookup f = some v ∧ Q v H) ∨
  ∃ a C q fs v, x = .ref a ∧ H a = some (exH (.ref C) (some q) a) ∧ XfC T.K C ∧ PySem.W.findIn T.K (.ref C) f = some none ∧ H q = some (.xd fs) ∧ fs.lookup f = some v ∧ Q v H
theorem pe_atr {X : Cx} {e : Expr} {f : Str} {pos : Pos} {ta : TE} (hK : X.K = T.K) (he : PE X e ta) (hb : attributeBase e f X.env (eval e X.env) = eval e X.env) : PE X (.Attribute e f pos) (fun σ H Q => ta σ H fun x H1 => rAtr T f x H1 Q) := by
  refine ⟨fun pins s σ H Q I h => ?_⟩
  refine attr_of hb (thn (he.run pins s σ H _ I h) fun u s1 hh => ?_)
  obtain ⟨x, H1, I1, rx, hh⟩ := hh
  rcases hh with ⟨a, C, dx, fs, v, ex, ea, c, n, l, q⟩ | ⟨a, C, q, fs, v, ex, ea, xc, hno, eq, l, qq⟩
  · subst ex
    obtain rfl : u = Value.ref a := rx
    rw [← hK] at c n
    exact getattr_ok I1 ea c n l fun u' s2 I2 ru => ⟨v, H1, I2, ru, q⟩
  · subst ex
    obtain rfl : u = Value.ref a := rx
    rw [← hK] at xc hno
    obtain ⟨⟨oe, vs, ho, hz, hd⟩, _, _⟩ : ObjOk X.prog X.w H1 s1.heap a (exH (.ref C) (some q) a) := I1.hok a _ ea
    have hx : ObjOk X.prog X.w H1 s1.heap q (.xd fs) := I1.hok q _ eq
    obtain ⟨mA, hns, hr⟩ := hx
    obtain ⟨od, hod, hl⟩ := lookIn_ns hns
    obtain ⟨u, hu, ru⟩ := RelO.some_of (v := v) (o := mA f) (by rw [← l]; exact hr f)
    have J : PySem.W.InstAt s1.heap a oe C (some od) := ⟨ho, hz.1, by unfold PySem.W.notCls; rw [hd] <;> rfl, by rw [hz.2]; exact hod⟩
    exact HandSPX.exc_get I1.kIn J xc.ga xc.gg xc.exC (PySem.W.findObj_own xc.hdC hno rfl (by rw [hl, hu])) (handed_of ru) ⟨v, H1, I1.tok _, ru, qq⟩
theorem atr_ok {W : WX} {τ ms H d v st f} {Q : VK} {nm : Nm} (t : TOk T nm) (A : AH T ms st H) (rd : RD T ms H d v) (p : Pst T W τ ms H (R.of (atrD T.P f (look st d)) st) (RD T) Q) : rAtr T (T.fnm f) v H Q := by
  generalize hd : look st d = ld at p
  cases hx : atrD T.P f ld with
  | none => rw [hx] at p; exact p.elim
  | some z =>
    rw [hx] at p
    unfold atrD at hx
    split at hx
    · rename_i c fs0
      obtain ⟨pa, dx, fs, rfl, hp, r1, kk, hk, hf⟩ := vw_obj A rd hd
      unfold fldIx at hx
      rw [hk] at hx
      simp only [Option.bind_some] at hx
      cases hi : kk.fields.findIdx? (· == f) with
      | none => rw [hi] at hx; cases hx
      | some i =>
        rw [hi] at hx
        simp only [Option.bind_some] at hx
        obtain ⟨w, hw, rw'⟩ := fld_look t.finj r1 hf hi hx
        exact .inl ⟨pa, _, dx, fs, w, rfl, hp, (t.cl c kk hk).2.2, t.na c kk f hk (ix_mem hi), hw, Pst.ok p A rw'⟩
    · rename_i c pl
      split at hx
      · rename_i hxf
        cases d with
        | exc c2 pl2 =>
          cases hd
          cases rd with
          | exc n hp rx =>
            cases rx with
            | no h0 => cases hx
            | one h0 hq0 hq1 r0 =>
              rw [hxf] at h0
              cases h0
              simp only [List.head?_cons] at hx
              cases hx
              exact .inr ⟨_, _, _, _, _, rfl, hp, (t.xf c f hxf).1, (t.xf c f hxf).2, hq1, by simp [List.lookup], Pst.ok p A r0⟩
        | ref a =>
          simp only [look] at hd
          cases e : st[a]? with
          | none => rw [e] at hd; cases hd
          | some o => rw [e] at hd; cases o <;> cases hd
        | _ => cases hd
      · cases hx
    · cases hx
theorem se_atr {a : E} {f : Nat} (ha : SE T k a) : SE T k (.atr a f) := by
  have pe : ∀ (W : WX) (c : MC) (X : Cx) (x : Expr), Good T k W c X → mE c (.atr a f) x = true → PE X x (tE T k W (.atr a f)) := by
    intro W c X x g h
    (simp only [mE] at h; split at h <;> first | (cases h; done) | skip); (simp only [Bool.and_eq_true, decide_eq_true_eq, Bool.not_eq_true', beq_iff_eq, bne_iff_ne, ne_eq] at h)
    obtain ⟨⟨h1, h2⟩, h3⟩ := h
    subst h2
    refine PE.imp (pe_atr g.K (ha.pe W c X _ g h1) (noSup_ok h3 _ _ _)) ?_
    rintro τ H Q ⟨ms, σ, st, A, p⟩
    simp only [evE] at p
    refine ⟨ms, σ, st, A, Pst.bind p fun d st1 v ms1 H1 _ ev ah rd p1 => ?_⟩
    rw [g.tok.fd]
    exact atr_ok g.tok ah rd p1
  refine ⟨pe, fun W c X x g h => ?_⟩
  have h2 : mE c (.atr a f) x = true := h
  refine pt_of (pe W c X x g h2) ?_
  (simp only [mT] at h; split at h <;> first | (cases h; done) | skip); (try simp only [Bool.and_eq_true, decide_eq_true_eq, Bool.not_eq_true', beq_iff_eq, bne_iff_ne, ne_eq] at h)
  rfl

/-! ### globals -/
theorem pe_glob' {X : Cx} {x : Str} {v : V} {u : Value} {pos : Pos} (hg : Gl X x) (hm : X.mg x = some u) (r : RelV v u) (hd : (x == ("__debug__" : Str)) = false) : PE X (.Name x pos) (tC v) := pe_glob hg hm r hd
theorem se_glb {j : Nat} : SE T k (.glb j) := by
  refine ⟨fun W c X x g h => ?_, no_pt fun c x => by simp only [mT]⟩
  (simp only [mE] at h; split at h <;> first | (cases h; done) | skip); (simp only [Bool.and_eq_true, decide_eq_true_eq, Bool.not_eq_true', beq_iff_eq, bne_iff_ne, ne_eq] at h)
  obtain ⟨h1, h2⟩ := h
  subst h1
  obtain ⟨g1, g2, g3⟩ := g.gl h2
  cases hd : T.P.glb j with
  | none =>
    refine ⟨fun pins s σ H Q I hq => ?_⟩
    obtain ⟨ms, σ, st, A, p⟩ := hq
    simp only [evE, hd, R.of] at p
    exact p.elim
  | some d =>
    obtain ⟨v, u, hm, rv, hr⟩ := g.tok.gl j d hd
    refine PE.imp (pe_glob' g1 (by rw [g.mg]; exact hm) rv g2) ?_
    rintro τ H Q ⟨ms, σ, st, A, p⟩
    simp only [evE, hd, R.of] at p
    exact Pst.ok p A.ah (hr T.hid _ _)
theorem se_fnv {j : Nat} : SE T k (.fnv j) := by
  refine ⟨fun W c X x g h => ?_, no_pt fun c x => by simp only [mT]⟩
  (simp only [mE] at h; split at h <;> first | (cases h; done) | skip); (simp only [Bool.and_eq_true, decide_eq_true_eq, Bool.not_eq_true', beq_iff_eq, bne_iff_ne, ne_eq] at h)
  obtain ⟨⟨h1, h0⟩, h2⟩ := h
  subst h1
  obtain ⟨g1, g2, g3⟩ := g.gl h2
  have hn : c.nm.fn j ≠ "" := by simpa using h0
  refine PE.imp (pe_glob' (v := .ref (T.fa j)) g1 (by rw [g.mg]; exact (g.tok.fn j hn).1) rfl g2) ?_
  rintro τ H Q ⟨ms, σ, st, A, p⟩
  simp only [evE] at p
  exact Pst.ok p A.ah (.fn j)
theorem se_no : SE T k .no := ⟨fun W c X x g h => by simp only [mE, Bool.false_eq_true] at h, no_pt fun c x => by simp only [mT]⟩
end CT

set_option maxRecDepth 100000
/-! A call's end: what is new is no store's any more. -/
namespace CT
open PySem L2 PyProof.Rows
variable {T : TT} {k : Nat}
mutual
def D.blw (n : Nat) : D → Bool
  | .ref a => decide (a < n)
  | .tup ds => D.blws n ds | .lst ds => D.blws n ds | .dct kvs => D.blwk n kvs | .obj _ fs => D.blws n fs | .exc _ pl => D.blws n pl
  | _ => true
def D.blws (n : Nat) : List D → Bool
  | [] => true
  | d :: ds => d.blw n && D.blws n ds
def D.blwk (n : Nat) : List (Ky × D) → Bool
  | [] => true
  | (_, d) :: ds => d.blw n && D.blwk n ds
end
def O.blw (n : Nat) : O → Bool
  | .lst ds => D.blws n ds | .dct kvs => D.blwk n kvs | .ins _ fs => D.blws n fs
mutual
theorem pure_blw (n : Nat) : ∀ d : D, d.pure = true → d.blw n = true
  | .non, _ => rfl | .bl _, _ => rfl | .int _, _ => rfl | .str _, _ => rfl | .fn _, _ => rfl
  | .tup ds, h => pures_blw n ds h | .lst ds, h => pures_blw n ds h | .dct kvs, h => purek_blw n kvs h | .obj _ fs, h => pures_blw n fs h | .exc _ pl, h => pures_blw n pl h
  | .ref _, h => by simp [D.pure] at h
theorem pures_blw (n : Nat) : ∀ ds : List D, D.pures ds = true → D.blws n ds = true
  | [], _ => rfl
  | d :: ds, h => by
    simp only [D.pures, Bool.and_eq_true] at h
    simp only [D.blws, Bool.and_eq_true]
    exact ⟨pure_blw n d h.1, pures_blw n ds h.2⟩
theorem purek_blw (n : Nat) : ∀ ds : List (Ky × D), D.purek ds = true → D.blwk n ds = true
  | [], _ => rfl
  | (_, d) :: ds, h => by
    simp only [D.purek, Bool.and_eq_true] at h
    simp only [D.blwk, Bool.and_eq_true]
    exact ⟨pure_blw n d h.1, purek_blw n ds h.2⟩
end
theorem pureO_blw (n : Nat) {o : O} (h : o.pure = true) : o.blw n = true := by
  cases o with
  | lst ds => exact pures_blw n ds h
  | dct ds => exact purek_blw n ds h
  | ins c ds => exact pures_blw n ds h
section
variable {ms ms' ms2 : List Addr} {H H' : Hp}
mutual
theorem rd_blw : ∀ {d : D} {v : V}, RD T ms H d v → d.blw ms.length = true
  | _, _, .non => rfl
  | _, _, .bl _ => rfl
  | _, _, .int _ => rfl
  | _, _, .str _ _ => rfl
  | _, _, .tup _ r => rds_blw r
  | _, _, .lst _ r _ => rds_blw r
  | _, _, .dct _ _ r _ => rdk_blw r
  | _, _, .obj _ _ _ r _ => rds_blw r
  | _, _, .exc _ _ r => rx_blw r
  | _, _, .fn _ => rfl
  | _, _, .ref h => by
    simp only [D.blw, decide_eq_true_eq]
    exact (List.getElem?_eq_some_iff.mp h).1
theorem rds_blw : ∀ {d : List D} {v : List V}, RDs T ms H d v → D.blws ms.length d = true
  | _, _, .nil => rfl
  | _, _, .cons r s => by
    simp only [D.blws, Bool.and_eq_true]
    exact ⟨rd_blw r, rds_blw s⟩
theorem rdk_blw : ∀ {d : List (Ky × D)} {v : List (Key × V)}, RDk T ms H d v → D.blwk ms.length d = true
  | _, _, .nil => rfl
  | _, _, .cons _ r s => by
    simp only [D.blwk, Bool.and_eq_true]
    exact ⟨rd_blw r, rdk_blw s⟩
theorem rx_blw : ∀ {c : Nat} {pl : List D} {dd : Option Addr}, RX T ms H c pl dd → D.blws ms.length pl = true
  | _, _, _, .no _ => rfl
  | _, _, _, .one _ _ _ r => by
    simp only [D.blws, Bool.and_eq_true]
    exact ⟨rd_blw r, trivial⟩
end
theorem ro_blw {p : Addr} {o : O} (h : RO T ms H p o) : o.blw ms.length = true := by
  cases h with
  | lst _ r _ => exact rds_blw r
  | dct _ r _ => exact rdk_blw r
  | ins _ _ r _ => exact rds_blw r
variable {n : Nat}
/-- fewer places -/
structure Dn (n : Nat) (ms' ms2 : List Addr) : Prop where
  sub : ∀ p ∈ ms2, p ∈ ms'
  at_ : ∀ a < n, ∀ p, ms'[a]? = some p → ms2[a]? = some p
theorem Dn.no {p : Addr} (d : Dn n ms' ms2) (h : T.no ms' p) : T.no ms2 p := ⟨fun z => h.1 (d.sub p z), h.2⟩
mutual
theorem rd_dn (dn : Dn n ms' ms2) : ∀ {d : D} {v : V}, RD T ms' H d v → d.blw n = true → RD T ms2 H d v
  | _, _, .non, _ => .non
  | _, _, .bl b, _ => .bl b
  | _, _, .int i, _ => .int i
  | _, _, .str s h, _ => .str s h
  | _, _, .tup f r, h => .tup (f.imp (fun x => ⟨dn.no x.1, x.2⟩) id) (rds_dn dn r h)
  | _, _, .lst f r z, h => .lst (f.imp (fun x => ⟨dn.no x.1, x.2⟩) id) (rds_dn dn r h) z
  | _, _, .dct q e r z, h => .dct (dn.no q) e (rdk_dn dn r h) z
  | _, _, .obj q e c r k, h => .obj (dn.no q) e c (rds_dn dn r h) k
  | _, _, .exc q e r, h => .exc (dn.no q) e (rx_dn dn r h)
  | _, _, .fn f, _ => .fn f
  | _, _, .ref e, h => .ref (dn.at_ _ (by simpa [D.blw] using h) _ e)
theorem rds_dn (dn : Dn n ms' ms2) : ∀ {d : List D} {v : List V}, RDs T ms' H d v → D.blws n d = true → RDs T ms2 H d v
  | _, _, .nil, _ => .nil
  | _, _, .cons r s, h => by
    simp only [D.blws, Bool.and_eq_true] at h
    exact .cons (rd_dn dn r h.1) (rds_dn dn s h.2)
theorem rdk_dn (dn : Dn n ms' ms2) : ∀ {d : List (Ky × D)} {v : List (Key × V)}, RDk T ms' H d v → D.blwk n d = true → RDk T ms2 H d v
  | _, _, .nil, _ => .nil
  | _, _, .cons kb r s, h => by
    simp only [D.blwk, Bool.and_eq_true] at h
    exact .cons kb (rd_dn dn r h.1) (rdk_dn dn s h.2)
theorem rx_dn (dn : Dn n ms' ms2) : ∀ {c : Nat} {pl : List D} {dd : Option Addr}, RX T ms' H c pl dd → D.blws n pl = true → RX T ms2 H c pl dd
  | _, _, _, .no e, _ => .no e
  | _, _, _, .one e q e2 r, h => by
    simp only [D.blws, Bool.and_eq_true] at h
    exact .one e (dn.no q) e2 (rd_dn dn r h.1)
end
theorem ro_dn (dn : Dn n ms' ms2) {p : Addr} {o : O} (h : RO T ms' H p o) (b : o.blw n = true) : RO T ms2 H p o := by
  cases h with
  | lst e r z => exact .lst e (rds_dn dn r b) z
  | dct e r z => exact .dct e (rdk_dn dn r b) z
  | ins e c r k => exact .ins e c (rds_dn dn r b) k
theorem dn_pre (h : ms <+: ms') : Dn ms.length ms' ms := by
  obtain ⟨t, rfl⟩ := h
  exact ⟨fun p q => List.mem_append_left _ q, fun a ha p e => by rw [List.getElem?_append_left ha] at e; exact e⟩
end
section
variable {ms ms' : List Addr} {H H' : Hp} {st st' s : Store}
theorem trunc_cases (h : trunc st st' = some s) : s = st'.take st.length ∧ st.length ≤ st'.length ∧ ∀ a, a < st.length → st'[a]? = st[a]? ∨ ∃ o, st'[a]? = some o ∧ o.pure = true := by
  unfold trunc at h
  split at h
  · rename_i ht
    cases h
    unfold truncOk at ht
    simp only [Bool.and_eq_true, decide_eq_true_eq, List.all_eq_true, List.mem_range, Bool.or_eq_true] at ht
    refine ⟨rfl, ht.1, fun a ha => ?_⟩
    rcases ht.2 a ha with h1 | h1
    · exact .inl h1
    · cases e : st'[a]? with
      | none => rw [e] at h1; cases h1
      | some o => rw [e] at h1; exact .inr ⟨o, rfl, h1⟩
  · cases h
theorem trunc_at (A0 : AH T ms st H) (ev : Evo ms H ms' H') (A : AH T ms' st' H') (h : trunc st st' = some s) {i : Nat} {p : Addr} {o : O} (hp : ms[i]? = some p) (ho : s[i]? = some o) : RO T ms' H' p o ∧ o.blw ms.length = true := by
  obtain ⟨rfl, hl, hc⟩ := trunc_cases h
  have hi : i < st.length := by rw [← A0.len]; exact (List.getElem?_eq_some_iff.mp hp).1
  have ho' : st'[i]? = some o := by rw [List.getElem?_take] at ho; rw [if_pos hi] at ho; exact ho
  refine ⟨A.at_ i p o (ev.at hp) ho', ?_⟩
  rcases hc i hi with h1 | ⟨o2, h1, h2⟩
  · rw [ho'] at h1
    exact ro_blw (A0.at_ i p o hp h1.symm)
  · rw [ho'] at h1; cases h1
    exact pureO_blw _ h2
theorem trunc_ok (A0 : AH T ms st H) (ev : Evo ms H ms' H') (A : AH T ms' st' H') (h : trunc st st' = some s) : AH T ms s H' := by
  refine ⟨?_, A0.nd, fun q hq => ⟨(A.hd q hq).1, fun z => (A.hd q hq).2 (ev.pre.subset z)⟩, fun i p o hp ho => ?_⟩
  · obtain ⟨rfl, hl, _⟩ := trunc_cases h
    rw [List.length_take, A0.len]; omega
  · obtain ⟨r, b⟩ := trunc_at A0 ev A h hp ho
    exact ro_dn (dn_pre ev.pre) r b
theorem Evo.back (ev : Evo ms H ms' H') : Evo ms H ms H' := ⟨List.prefix_refl _, fun p o h n => ⟨(ev.keep p o h n).1, n⟩⟩
theorem new_no (ev : ms <+: ms') (nd : ms'.Nodup) {a : Nat} {p : Addr} (h : ms'[a]? = some p) (ha : ms.length ≤ a) : p ∉ ms := by
  intro hm
  obtain ⟨t, rfl⟩ := ev
  obtain ⟨j, hj, e⟩ := List.mem_iff_getElem.mp hm
  have e2 : (ms ++ t)[j]? = some p := by rw [List.getElem?_append_left hj, List.getElem?_eq_getElem hj, e]
  have := (List.getElem_inj nd).mp ((List.getElem?_eq_some_iff.mp h).2.trans (List.getElem?_eq_some_iff.mp e2).2.symm)
  omega
theorem allSome_rds {f : D → Option D} (hf : ∀ d e v, f d = some e → RD T ms' H' d v → RD T ms H' e v) : ∀ {ds es : List D} {vs : List V}, allSome (ds.map f) = some es → RDs T ms' H' ds vs → RDs T ms H' es vs ∧ es.length = ds.length
  | [], es, _, h, r => by cases r; cases h; exact ⟨.nil, rfl⟩
  | d :: ds, es, _, h, r => by
    cases r with
    | cons r s =>
      simp only [List.map_cons] at h
      cases e : f d with
      | none => rw [e] at h; cases h
      | some a =>
        rw [e] at h
        simp only [allSome] at h
        cases e2 : allSome (ds.map f) with
        | none => rw [e2] at h; cases h
        | some es2 =>
          rw [e2] at h
          cases h
          obtain ⟨q1, q2⟩ := allSome_rds hf e2 s
          exact ⟨.cons (hf d a _ e r) q1, congrArg (· + 1) q2⟩
theorem allSome_rdk {f : D → Option D} (hf : ∀ d e v, f d = some e → RD T ms' H' d v → RD T ms H' e v) : ∀ {ds es : List (Ky × D)} {vs : List (Key × V)}, allSome (ds.map fun p => (f p.2).map fun d => (p.1, d)) = some es → RDk T ms' H' ds vs → RDk T ms H' es vs ∧ es.length = ds.length
  | [], es, _, h, r => by cases r; cases h; exact ⟨.nil, rfl⟩
  | (q, d) :: ds, es, _, h, r => by
    cases r with
    | cons kb r s =>
      simp only [List.map_cons] at h
      cases e : f d with
      | none => rw [e] at h; cases h
      | some a =>
        rw [e] at h
        simp only [Option.map_some, allSome] at h
        cases e2 : allSome (ds.map fun p => (f p.2).map fun d => (p.1, d)) with
        | none => rw [e2] at h; cases h
        | some es2 =>
          rw [e2] at h
          cases h
          obtain ⟨q1, q2⟩ := allSome_rdk hf e2 s
          exact ⟨.cons kb (hf d a _ e r) q1, congrArg (· + 1) q2⟩
theorem fz_ok (pre : ms <+: ms') (A : AH T ms' st' H') : ∀ (n : Nat) (d e : D) (v : V), fz ms.length st' n d = some e → RD T ms' H' d v → RD T ms H' e v
  | 0, d, e, v, h, r => by
    simp only [fz] at h
    split at h
    · cases h; exact rd_dn (dn_pre pre) r (pure_blw _ _ (by assumption))
    · cases h
  | n + 1, d, e, v, h, r => by
    by_cases hpu : d.pure = true
    · have h' : some d = some e := by simpa only [fz, hpu, if_true] using h
      cases h'
      exact rd_dn (dn_pre pre) r (pure_blw _ _ hpu)
    · cases d with
      | ref a =>
        simp only [fz, if_neg hpu] at h
        split at h
        · cases h
        · rename_i hlt
          cases r with
          | ref hr =>
            rename_i p
            have hno : T.no ms p := ⟨new_no pre A.nd hr (by omega), fun z => (A.hd p z).2 (mem_at hr)⟩
            cases ho : st'[a]? with
            | none => rw [ho] at h; cases h
            | some o =>
              have ro := A.at_ a p o hr ho
              simp only [ho, Option.bind_some] at h
              split at h
              · rename_i hop
                cases o with
                | lst ds =>
                  cases h
                  cases ro with
                  | lst h1 h2 h3 => exact .lst (.inl ⟨hno, .inl h1⟩) (rds_dn (dn_pre pre) h2 (pures_blw _ _ hop)) h3
                | dct ds =>
                  cases h
                  cases ro with
                  | dct h1 h2 h3 => exact .dct hno h1 (rdk_dn (dn_pre pre) h2 (purek_blw _ _ hop)) h3
                | ins c fs =>
                  cases h
                  cases ro with
                  | ins h1 h2 h3 h4 => exact .obj hno h1 h2 (rds_dn (dn_pre pre) h3 (pures_blw _ _ hop)) h4
              · cases o with
                | lst ds =>
                  simp only [fzO] at h
                  cases e2 : allSome (ds.map (fz ms.length st' n)) with
                  | none => rw [e2] at h; cases h
                  | some es =>
                    rw [e2] at h
                    cases h
                    cases ro with
                    | lst h1 h2 h3 =>
                      obtain ⟨q1, q2⟩ := allSome_rds (fun d e v a b => fz_ok pre A n d e v a b) e2 h2
                      exact .lst (.inl ⟨hno, .inl h1⟩) q1 (by rw [q2]; exact h3)
                | dct ds =>
                  simp only [fzO] at h
                  cases e2 : allSome (ds.map fun p => (fz ms.length st' n p.2).map fun d => (p.1, d)) with
                  | none => rw [e2] at h; cases h
                  | some es =>
                    rw [e2] at h
                    cases h
                    cases ro with
                    | dct h1 h2 h3 =>
                      obtain ⟨q1, q2⟩ := allSome_rdk (fun d e v a b => fz_ok pre A n d e v a b) e2 h2
                      exact .dct hno h1 q1 (by rw [q2]; exact h3)
                | ins c fs =>
                  simp only [fzO] at h
                  cases e2 : allSome (fs.map (fz ms.length st' n)) with
                  | none => rw [e2] at h; cases h
                  | some es =>
                    rw [e2] at h
                    cases h
                    cases ro with
                    | ins h1 h2 h3 h4 =>
                      obtain ⟨q1, q2⟩ := allSome_rds (fun d e v a b => fz_ok pre A n d e v a b) e2 h3
                      obtain ⟨kk, hk1, hk2⟩ := h4
                      exact .obj hno h1 h2 q1 ⟨kk, hk1, by rw [q2]; exact hk2⟩
      | tup ds =>
        simp only [fz, if_neg hpu] at h
        cases e2 : allSome (ds.map (fz ms.length st' n)) with
        | none => rw [e2] at h; cases h
        | some es =>
          rw [e2] at h
          cases h
          cases r with
          | tup f s =>
            obtain ⟨q1, q2⟩ := allSome_rds (fun d e v a b => fz_ok pre A n d e v a b) e2 s
            exact .tup (f.imp (fun x => ⟨(dn_pre pre).no x.1, x.2⟩) id) q1
      | _ => simp only [fz, if_neg hpu] at h; cases h
/-- what a def hands back -/
theorem leave_ok {W : WX} {τ : L2.St} {m : Mode} {d : D} {v : V} {Q : VK} (A0 : AH T ms st H) (ev : Evo ms H ms' H') (A : AH T ms' st' H') (rd : RD T ms' H' d v) (h : Pst T W τ ms H (leave m st d st') (RD T) Q) : Q v H' := by
  have hl : ms.length = st.length := A0.len
  have gen : ∀ e s, fz st.length st' 4 d = some e → trunc st st' = some s → Pst T W τ ms H (R.ok e s) (RD T) Q → Q v H' := fun e s h1 h2 p =>
    p v ms H' ev.back (trunc_ok A0 ev A h2) (fz_ok ev.pre A 4 d e v (by rw [hl]; exact h1) rd)
  have gen2 : Pst T W τ ms H (match fz st.length st' 4 d, trunc st st' with | some d', some s => R.ok d' s | _, _ => .bad) (RD T) Q → Q v H' := fun p => by
    cases h1 : fz st.length st' 4 d with
    | none => rw [h1] at p; exact p.elim
    | some e =>
      cases h2 : trunc st st' with
      | none => rw [h1, h2] at p; exact p.elim
      | some s => rw [h1, h2] at p; exact gen e s h1 h2 p
  cases m with
  | raw => exact h v ms' H' ev A rd
  | fz =>
    cases d with
    | ref a =>
      simp only [leave] at h
      by_cases ha : a < st.length
      · rw [if_pos ha] at h
        cases h2 : trunc st st' with
        | none => rw [h2] at h; exact h.elim
        | some s =>
          rw [h2] at h
          refine h v ms H' ev.back (trunc_ok A0 ev A h2) ?_
          exact rd_dn (dn_pre ev.pre) rd (by simp only [D.blw, decide_eq_true_eq]; omega)
      · rw [if_neg ha] at h
        exact gen2 h
    | _ => exact gen2 h
  | own =>
    cases d with
    | ref a =>
      cases rd with
      | ref hr =>
        rename_i p
        simp only [leave] at h
        cases ho : st'[a]? with
        | none => rw [ho] at h; exact h.elim
        | some o =>
          cases h2 : trunc st st' with
          | none => rw [ho, h2] at h; exact h.elim
          | some s =>
            rw [ho, h2] at h
            simp only at h
            split at h
            · rename_i hc
              rw [Bool.and_eq_true, decide_eq_true_eq] at hc
              have hno : p ∉ ms := new_no ev.pre A.nd hr (by omega)
              have hp' : p ∈ ms' := mem_at hr
              have T0 := trunc_ok A0 ev A h2
              have dn : Dn ms.length ms' (ms ++ [p]) := by
                refine ⟨fun q hq => ?_, fun b hb q e => ?_⟩
                · rcases List.mem_append.mp hq with hq | hq
                  · exact ev.pre.subset hq
                  · have : q = p := by simpa using hq
                    rw [this]; exact hp'
                · rw [List.getElem?_append_left hb]
                  exact (dn_pre ev.pre).at_ b hb q e
              have ev2 : Evo ms H (ms ++ [p]) H' := ⟨List.prefix_append _ _, fun q u hq n => by
                obtain ⟨k1, k2⟩ := ev.keep q u hq n
                refine ⟨k1, fun z => ?_⟩
                rcases List.mem_append.mp z with z | z
                · exact n z
                · have : q = p := by simpa using z
                  rw [this] at k2; exact k2 hp'⟩
              have A2 : AH T (ms ++ [p]) (s ++ [o]) H' := by
                refine ⟨by simp [T0.len], by
                  rw [List.nodup_append]
                  exact ⟨A0.nd, List.nodup_cons.mpr ⟨by simp, List.nodup_nil⟩, fun a ha b hb => by
                    have e : b = p := by simpa using hb
                    subst e; exact fun z => hno (z ▸ ha)⟩, fun q hq => ⟨(A.hd q hq).1, fun z => by
                    rcases List.mem_append.mp z with z | z
                    · exact (A.hd q hq).2 (ev.pre.subset z)
                    · have e : q = p := by simpa using z
                      subst e; exact (A.hd q hq).2 hp'⟩, fun i q x hq hx => ?_⟩
                by_cases hi : i < ms.length
                · rw [List.getElem?_append_left hi] at hq
                  rw [List.getElem?_append_left (T0.len ▸ hi)] at hx
                  obtain ⟨r, b⟩ := trunc_at A0 ev A h2 hq hx
                  exact ro_dn dn r b
                · have hi' : i < (ms ++ [p]).length := (List.getElem?_eq_some_iff.mp hq).1
                  rw [List.length_append, List.length_singleton] at hi'
                  have e : i = ms.length := by omega
                  subst e
                  have hsl := T0.len
                  rw [List.getElem?_append_right (Nat.le_refl _)] at hq
                  rw [List.getElem?_append_right (by omega)] at hx
                  simp at hq
                  rw [hsl] at hx
                  simp at hx
                  subst hq; subst hx
                  exact ro_dn dn (A.at_ a p o hr ho) (pureO_blw _ hc.2)
              refine h (.ref p) _ H' ev2 A2 (.ref ?_)
              rw [← T0.len, List.getElem?_append_right (Nat.le_refl _)]
              simp
            · exact h.elim
    | _ => exact h.elim
end
end CT

set_option maxRecDepth 100000
/-! Calls. -/
namespace CT
open PySem L2 PyProof.Rows
variable {T : TT} {k : Nat}
theorem Good.fn {W : WX} {c : MC} {X : Cx} (g : Good T k W c X) (hcm : c.cm = true) (f : Nat) : CallOk T k f := g.fns hcm T.hid f
section
variable {W : WX} {c : MC} {X : Cx}
theorem run_call (g : Good T k W c X) (hcm : c.cm = true) {pins : List (Addr × Obj)} {τ : L2.St} {H : Hp} {s : Shared} {Q : VK} {us : List Value} {vs : List V} {f : Nat} {ds : List D} {ms : List Addr} {st : Store}
    (I : Inv X pins τ H s) (r : Vals vs us) (A : AH T ms st H) (rd : RDs T ms H ds vs) (p : Pst T W τ ms H (runF T.P k f ds st) (RD T) Q) : wpAny (model X.prog X.w) X.A (call (.ref (T.fa f)) us) (EP X pins τ Q) X.xe s := by
  have hx : PstX T ms H (runF T.P k f ds st) Q (fun cls dd H => W cls dd τ H) := by
    unfold PstX
    cases h : runF T.P k f ds st with
    | ok a st' => rw [h] at p; exact p
    | ex c pl st' => rw [h] at p; exact p
    | bad => rw [h] at p; exact p
  have e0 : Env0 T.pp T.w T.K T.mg T.base X.A X.stack s H := by
    have := I.env0
    rw [g.pp, g.w, g.K, g.mg, g.base] at this; exact this
  have h := (g.fn hcm f) X.A X.stack s H us vs Q (fun cls dd H => W cls dd τ H) ((g.room hcm).mono (by omega)) g.grd e0 r ⟨ms, st, ds, A, rd, hx⟩
  rw [← g.pp, ← g.w] at h
  refine wpAny_call (codeAny_mono h fun r s' hq => ?_)
  cases r with
  | error e => exact g.tk e s' (XE.of_call I (fun cls d H' z => z) hq)
  | ok fl =>
    cases fl with
    | ret u => exact I.after hq
    | next => exact False.elim hq
    | brk => exact False.elim hq
    | cont => exact False.elim hq
theorem star_none {c : MC} {env : PySem.Env} {pos : Pos} : ∀ {es : Es} {xs : List Expr}, mEs c es xs = true → (backTo pos (starEach xs env)).any (·.1) = false
  | .nil, xs, h => by
    cases xs with
    | nil => rfl
    | cons => simp only [mEs, Bool.false_eq_true] at h
  | .cons e r, xs, h => by
    cases xs with
    | nil => simp only [mEs, Bool.false_eq_true] at h
    | cons x xs =>
      simp only [mEs] at h
      simp only [Bool.and_eq_true, decide_eq_true_eq, Bool.not_eq_true', beq_iff_eq, bne_iff_ne, ne_eq] at h
      rw [star_cons _ _ h.1.2]
      show (false || (backTo pos (starEach xs env)).any (·.1)) = false
      rw [Bool.false_or]
      exact star_none h.2
theorem star_fst {c : MC} {env : PySem.Env} : ∀ {es : Es} {xs : List Expr}, mEs c es xs = true → (starEach xs env).all (!·.1) = true ∧ (starEach xs env).length = xs.length
  | .nil, xs, h => by
    cases xs with
    | nil => exact ⟨rfl, rfl⟩
    | cons => simp only [mEs, Bool.false_eq_true] at h
  | .cons e r, xs, h => by
    cases xs with
    | nil => simp only [mEs, Bool.false_eq_true] at h
    | cons x xs =>
      simp only [mEs] at h
      simp only [Bool.and_eq_true, decide_eq_true_eq, Bool.not_eq_true', beq_iff_eq, bne_iff_ne, ne_eq] at h
      rw [star_cons _ _ h.1.2]
      obtain ⟨h1, h2⟩ := star_fst (env := env) h.2
      exact ⟨by simp [h1], by simp [h2]⟩
/-- the arguments of a call come in, then it runs -/
theorem call_args {es : Es} {xs : List Expr} {f : Value} {first : List Value} {pos : Pos} {pins : List (Addr × Obj)} {s : Shared} {τ : L2.St} {H : Hp} {Q : VK} {R : List V → Hp → Prop} (I : Inv X pins τ H s) (ha : PA X xs (tA T k W es)) (hm : mEs c es xs = true) (hk : PySem.W.keepIn X.K f = true)
    (h0 : es = .nil → R [] H)
    (h1 : tA T k W es τ H R)
    (h2 : ∀ s1 us vs H1, Inv X pins τ H1 s1 → Vals vs us → R vs H1 → wpAny (model X.prog X.w) X.A (call f (first ++ us)) (EP X pins τ Q) X.xe s1) :
    wpAny (model X.prog X.w) X.A (callWith pos f first (backTo pos (starEach xs X.env)) []) (EP X pins τ Q) X.xe s := by
  cases es with
  | nil =>
    cases xs with
    | nil => exact PySem.W.callWith_K0 I.kIn hk (h2 s [] [] H I .nil (h0 rfl))
    | cons => simp only [mEs, Bool.false_eq_true] at hm
  | cons e r =>
    cases xs with
    | nil => simp only [mEs, Bool.false_eq_true] at hm
    | cons x xs =>
      have hm2 := hm
      simp only [mEs] at hm2
      simp only [Bool.and_eq_true, decide_eq_true_eq, Bool.not_eq_true', beq_iff_eq, bne_iff_ne, ne_eq] at hm2
      refine PySem.W.callWith_K (h₀ := X.base) I.ok.mod.kin hk (thn (ha.run pos pins s τ H _ I h1) fun us s1 ⟨vs, H1, I1, r1, q⟩ => ⟨I1.kIn, h2 s1 us vs H1 I1 r1 q⟩) (star_cons _ _ hm2.1.2) (star_none hm2.2)
end
theorem pe_callE {W : WX} {c : MC} {X : Cx} (g : Good T k W c X) (hcm : c.cm = true) {f : Nat} {es : Es} {xs : List Expr} {x : Str} {p pos : Pos} (hx : x = c.nm.fn f) (hne : (x == ("" : Str)) = false) (hgl : glbB c x = true) (hm : mEs c es xs = true) (ha : SA T k es) :
    PE X (.Call (.Name x p) xs [] pos) (tE T k W (.call f es)) := by
  refine ⟨fun pins s τ H Q I h => ?_⟩
  obtain ⟨ms, σ, st, A, pp⟩ := h
  simp only [evE] at pp
  obtain ⟨g1, g2, g3⟩ := g.gl hgl
  subst hx
  have hn : c.nm.fn f ≠ "" := by simpa using hne
  obtain ⟨f1, f2⟩ := g.tok.fn f hn
  have key : tA T k W es τ H fun vs H1 => ∃ ms1 st1 ds, AH T ms1 st1 H1 ∧ RDs T ms1 H1 ds vs ∧ Pst T W τ ms1 H1 (runF T.P k f ds st1) (RD T) Q :=
    ⟨ms, σ, st, A, Pst.bind pp fun ds st1 vs ms1 H1 _ ev ah rd p1 => ⟨ms1, st1, ds, ah, rd, p1⟩⟩
  refine wpAny_Call_Name_kw (ld_glob I g1 (by rw [g.mg]; exact f1) ?_ g2)
  refine call_args (c := c) (first := []) (T := T) (k := k) (W := W) (es := es) I (ha.pa W c X xs g hm) hm (by rw [g.K]; exact f2) (fun e => ?_) key fun s1 us vs H1 I1 r q => ?_
  · subst e
    simp only [evEs, R.bind] at pp
    exact ⟨ms, st, [], A.ah, .nil, pp⟩
  · obtain ⟨ms1, st1, ds, ah, rd, p1⟩ := q
    exact run_call g hcm I1 r ah rd p1
theorem se_call {f : Nat} {es : Es} (ha : SA T k es) : SE T k (.call f es) := by
  refine ⟨fun W c X x g h => ?_, fun W c X x g h => ?_⟩
  · (simp only [mE] at h; split at h <;> first | (cases h; done) | skip); (simp only [Bool.and_eq_true, decide_eq_true_eq, Bool.not_eq_true', beq_iff_eq, bne_iff_ne, ne_eq] at h)
    obtain ⟨⟨⟨⟨h0, h1⟩, h2⟩, h3⟩, h4⟩ := h
    exact pe_callE g h0 h1 (by simpa using h2) h3 h4 ha
  · (simp only [mT] at h; split at h <;> first | (cases h; done) | skip); (try simp only [Bool.and_eq_true, decide_eq_true_eq, Bool.not_eq_true', beq_iff_eq, bne_iff_ne, ne_eq] at h)
    obtain ⟨⟨⟨⟨h0, h1⟩, h2⟩, h3⟩, h4⟩ := h
    exact pt_of (pe_callE g h0 h1 (by simpa using h2) h3 h4 ha) rfl
/-- a def in a name of the body -/
theorem se_clv {i : Nat} {es : Es} (ha : SA T k es) : SE T k (.clv i es) := by
  refine ⟨fun W c X x g h => ?_, no_pt fun c x => by simp only [mT]⟩
  (simp only [mE] at h; split at h <;> first | (cases h; done) | skip); (simp only [Bool.and_eq_true, decide_eq_true_eq, Bool.not_eq_true', beq_iff_eq, bne_iff_ne, ne_eq] at h)
  obtain ⟨⟨⟨⟨⟨h0, h1⟩, h2⟩, h3⟩, h4⟩, h5⟩ := h
  refine ⟨fun pins s τ H Q I hq => ?_⟩
  obtain ⟨ms, σ, st, A, pp⟩ := hq
  simp only [evE] at pp
  cases e : (σ[i]?).getD none with
  | none => rw [e] at pp; exact pp.elim
  | some d =>
    rw [e] at pp
    cases d with
    | fn f =>
      simp only at pp
      split at pp
      · rename_i hf
        have e2 : σ[i]? = some (some (.fn f)) := by
          cases h : σ[i]? with
          | none => rw [h] at e; cases e
          | some o => rw [h] at e; exact congrArg some e
        obtain ⟨v, k1, k2⟩ := A.as.at_ i _ e2
        cases k2
        have key : tA T k W es τ H fun vs H1 => ∃ ms1 st1 ds, AH T ms1 st1 H1 ∧ RDs T ms1 H1 ds vs ∧ Pst T W τ ms1 H1 (runF T.P k f ds st1) (RD T) Q :=
          ⟨ms, σ, st, A, Pst.bind pp fun ds st1 vs ms1 H1 _ ev ah rd p1 => ⟨ms1, st1, ds, ah, rd, p1⟩⟩
        refine wpAny_Call_Name_kw (thn ((pe_var (X := X) (i := i) (by rw [g.N]; exact h1) (by rw [g.sc]; exact vis_of h2) (by simpa using h3) (by simpa using h4)).run pins s τ H (fun v H1 => v = .ref (T.fa f) ∧ H1 = H) I ⟨_, k1, rfl, rfl⟩) fun u s0 ⟨v0, H0, I0, r0, ev0, eh0⟩ => ?_)
        subst ev0; subst eh0
        cases r0
        refine call_args (c := c) (first := []) (T := T) (k := k) (W := W) (es := es) I0 (ha.pa W c X _ g h5) h5 (by rw [g.K]; exact g.tok.kp f hf) (fun e => ?_) key fun s1 us vs H1 I1 r q => ?_
        · subst e
          simp only [evEs, R.bind] at pp
          exact ⟨ms, st, [], A.ah, .nil, pp⟩
        · obtain ⟨ms1, st1, ds, ah, rd, p1⟩ := q
          exact run_call g h0 I1 r ah rd p1
      · exact pp.elim
    | _ => exact pp.elim

/-! ### methods -/
theorem mform {c : MC} {es : Es} {xs : List Expr} {env : PySem.Env} {pos pos2 : Pos} (h : mEs c es xs = true) (hl : xs.length ≤ 20) : methodCallForm (xs.length + ([] : List Keyword).length) (backTo pos (starEach xs env)) (backToKw pos2 (keywordEach [] env)) = true := by
  unfold methodCallForm
  have hb : (backTo pos (starEach xs env)).all (!·.1) = true := by
    unfold backTo
    rw [List.all_map]
    exact (star_fst h).1
  rw [hb]
  show decide (xs.length + 0 + 0 < 30) = true
  exact decide_eq_true (by omega)
theorem no_field {g : Nat → Str} {m : Str} (hn : ∀ f, g f ≠ m) : ∀ {fs : List (Str × V)} {fields : List Nat}, fs.map (·.1) = fields.map g → fs.lookup m = none
  | [], _, _ => rfl
  | (n, v) :: fs, [], h => by simp at h
  | (n, v) :: fs, a :: fields, h => by
    simp only [List.map_cons] at h
    injection h with h1 h2
    have hne : (m == n) = false := by
      simp only [beq_eq_false_iff_ne]
      exact fun z => hn a (by rw [z]; exact h1.symm)
    simp only [List.lookup, hne]
    exact no_field hn h2
theorem se_mth {a : E} {n : Nat} {es : Es} (he : SE T k a) (ha : SA T k es) : SE T k (.mth a n es) := by
  refine ⟨fun W c X x g h => ?_, no_pt fun c x => by simp only [mT]⟩
  (simp only [mE] at h; split at h <;> first | (cases h; done) | skip); (simp only [Bool.and_eq_true, decide_eq_true_eq, Bool.not_eq_true', beq_iff_eq, bne_iff_ne, ne_eq] at h)
  obtain ⟨⟨⟨⟨⟨⟨h0, h1⟩, h2⟩, h3⟩, h4⟩, h5⟩, h6⟩ := h
  subst h2
  refine ⟨fun pins s τ H Q I hq => ?_⟩
  obtain ⟨ms, σ, st, A, pp⟩ := hq
  simp only [evE] at pp
  refine PySem.W.methodCall_KW (pl := plainOf _ X.env) (kws := []) (thn ((he.pe W c X _ g h1).run pins s τ H (fun x H1 => ∃ ms1 st1 d, Evo ms H ms1 H1 ∧ AH T ms1 st1 H1 ∧ RD T ms1 H1 d x ∧ Pst T W τ ms1 H1 (match look st1 d with
    | .obj c _ => match methOf T.P c n with
      | some f => (evEs T.P (runF T.P k) σ es st1).bind fun ds st => runF T.P k f (d :: ds) st
      | none => R.bad
    | _ => R.bad) (RD T) Q) I ⟨ms, σ, st, A, Pst.bind pp fun d st1 v ms1 H1 _ ev ah rd p1 => ⟨ms1, st1, d, ev, ah, rd, p1⟩⟩) ?_)
    (mcall_of (noSup_ok h3 _ _ _) fun ov => mcall_line (mform h5 h6) (by simpa using h4))
  rintro u s1 ⟨x, H1, I1, rx, ms1, st1, d, ev, ah, rd, p1⟩
  generalize hd : look st1 d = ld at p1
  cases ld with
  | obj cc fs0 =>
    obtain ⟨pa, dx, fs, rfl, hp, r1, kk, hk, hf⟩ := vw_obj ah rd hd
    simp only at p1
    cases hm : methOf T.P cc n with
    | none => rw [hm] at p1; exact p1.elim
    | some f =>
      rw [hm] at p1
      simp only at p1
      unfold methOf at hm
      rw [hk] at hm
      simp only [Option.bind_some] at hm
      have M := g.tok.mt cc kk n f hk hm
      rw [← g.K] at M
      have CC := (g.tok.cl cc kk hk).2.2
      rw [← g.K] at CC
      obtain rfl : u = Value.ref pa := rx
      refine getmeth_ok I1 hp CC M (no_field (fun f => g.tok.nmt n f) hf) ?_
      have key : tA T k W es τ H1 fun vs H2 => ∃ ms2 st2 ds, AH T ms2 st2 H2 ∧ RDs T ms2 H2 (d :: ds) (.ref pa :: vs) ∧ Pst T W τ ms2 H2 (runF T.P k f (d :: ds) st2) (RD T) Q :=
        ⟨ms1, σ, st1, A.go ev ah, Pst.bind p1 fun ds st2 vs ms2 H2 _ ev2 ah2 rds p2 => ⟨ms2, st2, ds, ah2, .cons (rd.mono ev2) rds, p2⟩⟩
      refine call_args (c := c) (first := [.ref pa]) (T := T) (k := k) (W := W) (es := es) I1 (ha.pa W c X _ g h5) h5 M.kp (fun e => ?_) key fun s2 us vs H2 I2 r q => ?_
      · subst e
        simp only [evEs, R.bind] at p1
        exact ⟨ms1, st1, [], ah, .cons rd .nil, p1⟩
      · obtain ⟨ms2, st2, ds, ah2, rds, p2⟩ := q
        exact run_call g h0 I2 (vs := .ref pa :: vs) (.cons (show RelV (.ref pa) (.ref pa) from rfl) r) ah2 rds p2
  | _ => exact p1.elim

/-! ### new instances -/
theorem under_grd {A : Around} {C : Addr} {us : List Value} (h : A.guards = some []) : (A.under (.builtin "type.__call__" ⟨.ref C :: us, []⟩)).guards = some [] := by
  show pushGuards (Code.guards (.builtin "type.__call__" ⟨.ref C :: us, []⟩)) A.guards = some []
  rw [h]
  rfl
theorem run_mk {W : WX} {c : MC} {X : Cx} (g : Good T k W c X) (hcm : c.cm = true) {pins : List (Addr × Obj)} {τ : L2.St} {H : Hp} {s : Shared} {Q : VK} {us : List Value} {vs : List V} {cc : Nat} {kk : Cl} {ds : List D} {ms : List Addr} {st : Store} {z : Bool}
    (hk : T.P.cl cc = some kk) (I : Inv X pins τ H s) (r : Vals vs us) (A : AH T ms st H) (rd : RDs T ms H ds vs)
    (p : Pst T W τ ms H (match runF T.P k kk.init (.ref st.length :: ds) (st ++ [.ins cc []]) with
      | .ok d st' => if d = .non then (if z then (match fz st.length st' 4 (.ref st.length), trunc st st' with
          | some d', some s => .ok d' s
          | _, _ => .bad) else .ok (.ref st.length) st') else .bad
      | .ex k pl st' => if D.pures pl then (match trunc st st' with
          | some s => .ex k pl s
          | none => .bad) else .bad
      | .bad => .bad) (RD T) Q) : wpAny (model X.prog X.w) X.A (call (.ref (T.ca cc)) us) (EP X pins τ Q) X.xe s := by
  obtain ⟨hmg, M, CC⟩ := g.tok.cl cc kk hk
  rw [← g.K] at M
  have I2 := Inv.made (C := T.ca cc) I
  have hx0 : H (s.heap.objs.size + 1) = none := I.hok.fresh (Nat.le_succ _)
  have hd0 : H s.heap.objs.size = none := I.hok.fresh (Nat.le_refl _)
  have hne : s.heap.objs.size ≠ s.heap.objs.size + 1 := Nat.ne_of_lt (Nat.lt_succ_self _)
  generalize hxx : s.heap.objs.size + 1 = xx at *
  generalize hdx : s.heap.objs.size = dx at *
  have hx1 : upd H dx (.own xx) xx = none := by rw [upd_ne (Ne.symm hne)]; exact hx0
  have ev1 := Evo.new (o := .own xx) A hd0
  have A1 := A.new (o := .own xx) hd0
  have ev2 := Evo.newM (o := .ins (T.ca cc) dx []) A1 hx1
  have A2 := A1.newM (o := .ins (T.ca cc) dx []) (u := .ins cc []) hx1 (.ins (c := cc) upd_same rfl .nil ⟨kk, hk, rfl⟩)
  have ev := ev1.trans ev2
  have hl : ms.length = st.length := A.len
  have hat : (ms ++ [xx])[st.length]? = some xx := by rw [← hl, List.getElem?_append_right (Nat.le_refl _)]; simp
  have rds : RDs T (ms ++ [xx]) (upd (upd H dx (.own xx)) xx (.ins (T.ca cc) dx [])) (.ref st.length :: ds) (.ref xx :: vs) := .cons (.ref hat) (rd.mono ev)
  have hx : PstX T (ms ++ [xx]) (upd (upd H dx (.own xx)) xx (.ins (T.ca cc) dx [])) (runF T.P k kk.init (.ref st.length :: ds) (st ++ [.ins cc []])) (fun v H2 => v = .non ∧ Q (.ref xx) H2) (fun cls dd H => W cls dd τ H) := by
    unfold PstX
    cases h : runF T.P k kk.init (.ref st.length :: ds) (st ++ [.ins cc []]) with
    | ok a st' =>
      rw [h] at p
      simp only at p
      intro v ms' H' e' A' r'
      split at p
      · rename_i hn
        subst hn
        cases r'
        refine ⟨rfl, ?_⟩
        have evA := ev.trans e'
        cases z with
        | false =>
          simp only [Bool.false_eq_true, if_false] at p
          exact p (.ref xx) ms' H' evA A' (.ref (e'.at hat))
        | true =>
          simp only [if_true] at p
          cases h1 : fz st.length st' 4 (.ref st.length) with
          | none => rw [h1] at p; exact p.elim
          | some d' =>
            cases h2 : trunc st st' with
            | none => rw [h1, h2] at p; exact p.elim
            | some s' =>
              rw [h1, h2] at p
              exact p (.ref xx) ms H' evA.back (trunc_ok A evA A' h2) (fz_ok evA.pre A' 4 _ _ _ (by rw [hl]; exact h1) (.ref (e'.at hat)))
      · exact p.elim
    | ex cx pl st' =>
      rw [h] at p
      simp only at p
      intro dd ms' H' e' A' r'
      have evA := ev.trans e'
      split at p
      · rename_i hpl
        cases h2 : trunc st st' with
        | none => rw [h2] at p; exact p.elim
        | some s' =>
          rw [h2] at p
          exact p dd ms H' evA.back (trunc_ok A evA A' h2) (rx_dn (dn_pre evA.pre) r' (pures_blw _ _ hpl))
      · exact p.elim
    | bad => rw [h] at p; exact p.elim
  have e0 : Env0 T.pp T.w T.K T.mg T.base (X.A.under (.builtin "type.__call__" ⟨.ref (T.ca cc) :: us, []⟩)) X.stack { s with heap := (s.heap.push PySem.W.emptyDict).push (PySem.W.instObj (T.ca cc) dx) } (upd (upd H dx (.own xx)) xx (.ins (T.ca cc) dx [])) := by
    have := I2.env0.make (T.ca cc) us []
    rw [g.pp, g.w, g.K, g.mg, g.base] at this; exact this
  have hr : Room (2 * k + 2) (X.A.under (.builtin "type.__call__" ⟨.ref (T.ca cc) :: us, []⟩)) := (g.room hcm).make _ _ _
  have h := (g.fn hcm kk.init) _ X.stack _ _ (.ref xx :: us) (.ref xx :: vs) _ _ hr (under_grd g.grd) e0 (.cons rfl r) ⟨ms ++ [xx], st ++ [.ins cc []], .ref st.length :: ds, A2, rds, hx⟩
  rw [← g.pp, ← g.w] at h
  subst hxx
  refine wpAny_call (make_map (f := T.fa kk.init) I.kIn M.makes M.init (beq_iff_eq.mp M.fn) (codeAny_mono (by rw [hdx]; exact h) fun r s' hq' => ?_))
  cases r with
  | error e => exact g.tk e s' (XE.of_call I2 (fun cls d H' z => z) hq')
  | ok fl =>
    cases fl with
    | ret u =>
      obtain ⟨v, H', I3, rv, ev, q3⟩ := I2.after hq'
      subst ev
      exact ⟨rv, ⟨V.ref (dx + 1), H', I3, (by rw [hdx]; rfl), q3⟩⟩
    | next => exact False.elim hq'
    | brk => exact False.elim hq'
    | cont => exact False.elim hq'
theorem se_mk {z : Bool} {cc : Nat} {es : Es} (ha : SA T k es) : SE T k (.mk z cc es) := by
  refine ⟨fun W c X x g h => ?_, no_pt fun c x => by simp only [mT]⟩
  (simp only [mE] at h; split at h <;> first | (cases h; done) | skip); (simp only [Bool.and_eq_true, decide_eq_true_eq, Bool.not_eq_true', beq_iff_eq, bne_iff_ne, ne_eq] at h)
  obtain ⟨⟨⟨h0, h1⟩, h3⟩, h4⟩ := h
  subst h1
  refine ⟨fun pins s τ H Q I hq => ?_⟩
  obtain ⟨ms, σ, st, A, pp⟩ := hq
  simp only [evE] at pp
  obtain ⟨g1, g2, g3⟩ := g.gl h3
  cases hk : T.P.cl cc with
  | none => rw [hk] at pp; exact pp.elim
  | some kk =>
    rw [hk] at pp
    simp only at pp
    obtain ⟨f1, f2, f3⟩ := g.tok.cl cc kk hk
    have key : tA T k W es τ H fun vs H1 => ∃ ms1 st1 ds, AH T ms1 st1 H1 ∧ RDs T ms1 H1 ds vs ∧ Pst T W τ ms1 H1 (match runF T.P k kk.init (.ref st1.length :: ds) (st1 ++ [.ins cc []]) with
      | .ok d st' => if d = .non then (if z then (match fz st1.length st' 4 (.ref st1.length), trunc st1 st' with
          | some d', some s => .ok d' s
          | _, _ => .bad) else .ok (.ref st1.length) st') else .bad
      | .ex k pl st' => if D.pures pl then (match trunc st1 st' with
          | some s => .ex k pl s
          | none => .bad) else .bad
      | .bad => .bad) (RD T) Q :=
      ⟨ms, σ, st, A, Pst.bind pp fun ds st1 vs ms1 H1 _ ev ah rd p1 => ⟨ms1, st1, ds, ah, rd, p1⟩⟩
    refine wpAny_Call_Name_kw (ld_glob I g1 (by rw [g.mg]; exact f1) ?_ g2)
    refine call_args (c := c) (first := []) (T := T) (k := k) (W := W) (es := es) I (ha.pa W c X _ g h4) h4 (by rw [g.K]; exact f2.kp) (fun e => ?_) key fun s1 us vs H1 I1 r q => ?_
    · subst e
      simp only [evEs, R.bind] at pp
      exact ⟨ms, st, [], A.ah, .nil, pp⟩
    · obtain ⟨ms1, st1, ds, ah, rd, p1⟩ := q
      exact run_mk g h0 hk I1 r ah rd p1
end CT

set_option maxRecDepth 100000
/-! The built-in functions. -/
namespace CT
open PySem L2 PyProof.Rows
variable {T : TT} {k : Nat}
def biV : Bi → Value
  | .len => .builtin "len" | .max2 => .builtin "max" | .min2 => .builtin "min" | .max1 => .builtin "max" | .min1 => .builtin "min" | .sum => .builtin "sum" | .all => .builtin "all" | .any => .builtin "any" | .abs => .builtin "abs"
  | .int => .type "int" | .str => .type "str" | .repr => .builtin "repr" | .sorted => .builtin "sorted" | .tuple => .type "tuple" | .list => .type "list" | .dict => .type "dict" | .lenset => .builtin "len" | .zip => .type "list"
def rBi (T : TT) (m : Bool) (b : Bi) : List V → Hp → VK → Prop := fun xs H Q => ∃ (W : WX) (τ : L2.St) (ms : List Addr) (st : Store) (ds : List D), AH T ms st H ∧ RDs T ms H ds xs ∧
  Pst T W τ ms H (match biD T.P.rp b (ds.map (look st)) with | some d => fin m d st | none => .bad) (RD T) Q
theorem cr_l {X : Cx} {f : Value} {r r' : List V → Hp → VK → Prop} (h : CallR X f r) (i : ∀ xs H Q, r' xs H Q → r xs H Q) : CallR X f r' := fun pins s σ H xs us Q I rs hw => h pins s σ H xs us Q I rs (i _ _ _ hw)
section
variable {ms : List Addr} {H : Hp} {st : Store}
theorem rds1 {d : D} {xs : List V} (r : RDs T ms H [d] xs) : ∃ v, xs = [v] ∧ RD T ms H d v := by
  cases r with
  | cons r s => cases s; exact ⟨_, rfl, r⟩
theorem rds2 {d e : D} {xs : List V} (r : RDs T ms H [d, e] xs) : ∃ v w, xs = [v, w] ∧ RD T ms H d v ∧ RD T ms H e w := by
  cases r with
  | cons r s => cases s with | cons r2 s2 => cases s2; exact ⟨_, _, rfl, r, r2⟩
theorem rds_ints : ∀ {xs : List D} {ns : List Int} {vs : List V}, intsOf xs = some ns → RDs T ms H xs vs → vs = ns.map V.int
  | [], ns, vs, h, r => by cases r; cases h; rfl
  | d :: xs, ns, vs, h, r => by
    cases r with
    | cons r s =>
      cases d with
      | int i =>
        simp only [intsOf] at h
        obtain ⟨m, h1, rfl⟩ := Option.map_eq_some_iff.mp h
        cases r
        rw [rds_ints h1 s]; rfl
      | _ => simp [intsOf] at h
theorem rds_strs : ∀ {xs : List D} {ns : List (List Nat)} {vs : List V}, strsOf xs = some ns → RDs T ms H xs vs → vs = (ns.map tx).map V.str ∧ ∀ s ∈ ns, s.length ≤ LIM
  | [], ns, vs, h, r => by cases r; cases h; exact ⟨rfl, fun _ h => by simp at h⟩
  | d :: xs, ns, vs, h, r => by
    cases r with
    | cons r s =>
      cases d with
      | str i =>
        simp only [strsOf] at h
        obtain ⟨m, h1, rfl⟩ := Option.map_eq_some_iff.mp h
        cases r with
        | str _ hz =>
          obtain ⟨h2, h3⟩ := rds_strs h1 s
          rw [h2]
          exact ⟨rfl, fun s hs => (List.mem_cons.mp hs).elim (fun h => by rw [h]; exact hz) (h3 s)⟩
      | _ => simp only [strsOf] at h; cases h
theorem rds_bls : ∀ {xs : List D} {ns : List Bool} {vs : List V}, blsOf xs = some ns → RDs T ms H xs vs → vs = ns.map V.bl
  | [], ns, vs, h, r => by cases r; cases h; rfl
  | d :: xs, ns, vs, h, r => by
    cases r with
    | cons r s =>
      cases d with
      | bl i =>
        simp only [blsOf] at h
        obtain ⟨m, h1, rfl⟩ := Option.map_eq_some_iff.mp h
        cases r
        rw [rds_bls h1 s]; rfl
      | _ => simp [blsOf] at h
theorem rds_of_ints : ∀ (ns : List Int), RDs T ms H (ns.map D.int) (ns.map V.int)
  | [] => .nil
  | n :: ns => .cons (.int n) (rds_of_ints ns)
theorem rds_of_strs : ∀ (ns : List (List Nat)), (∀ s ∈ ns, s.length ≤ LIM) → RDs T ms H (ns.map D.str) ((ns.map tx).map V.str)
  | [], _ => .nil
  | n :: ns, h => .cons (.str n (h n (List.mem_cons_self ..))) (rds_of_strs ns fun s hs => h s (List.mem_cons_of_mem _ hs))
end

theorem rdk_keys {ms : List Addr} {H : Hp} : ∀ {ys : List (Ky × D)} {ks : List (Key × V)}, RDk T ms H ys ks → RDs T ms H (ys.map fun p => kyD p.1) (ks.map fun kv => kV kv.1)
  | _, _, .nil => .nil
  | _, _, .cons (k := q) kb r s => .cons (by
      cases q with
      | i n => exact .int n
      | s t => exact .str t (kb t rfl)) (rdk_keys s)
theorem map1 {st : Store} {ds : List D} {e : D} (h : ds.map (look st) = [e]) : ∃ d, ds = [d] ∧ look st d = e := by
  match ds, h with
  | [d], h => exact ⟨d, rfl, by simpa using h⟩
  | [], h => simp at h
  | _ :: _ :: _, h => simp at h
theorem map2 {st : Store} {ds : List D} {e f : D} (h : ds.map (look st) = [e, f]) : ∃ d d2, ds = [d, d2] ∧ look st d = e ∧ look st d2 = f := by
  match ds, h with
  | [d, d2], h => exact ⟨d, d2, rfl, by simpa using h⟩
  | [], h => simp at h
  | [_], h => simp at h
  | _ :: _ :: _ :: _, h => simp at h

theorem cb_len {X : Cx} {m : Bool} (hK : X.K = T.K) : CallR X (.builtin "len") (rBi T m .len) := by
  refine cr_l (CallR.or call_len call_lenD) ?_
  rintro xs H Q ⟨W, τ, ms, st, ds, A, rd, p⟩
  rw [hK]
  generalize hl : ds.map (look st) = ld at p
  rcases ld with _ | ⟨e, _ | ⟨e2, r⟩⟩
  · exact p.elim
  rotate_left
  · cases e <;> exact p.elim
  obtain ⟨d, rfl, h1⟩ := map1 hl
  obtain ⟨v, rfl, r1⟩ := rds1 rd
  cases e <;> first | exact p.elim | skip
  case str s =>
    obtain ⟨rfl, hz⟩ := vw_str r1 h1
    exact .inl ⟨_, _, rfl, ⟨by rw [sim]; exact hz, rfl⟩, pst_sc rfl p A (.int _)⟩
  case tup ys =>
    obtain ⟨pa, vs, rfl, q1, r2⟩ := vw_tup A r1 h1
    exact .inl ⟨_, _, rfl, .inr ⟨vs, q1.sq, rfl⟩, by rw [← r2.length]; exact pst_sc rfl p A (.int _)⟩
  case lst ys =>
    obtain ⟨pa, vs, rfl, q1, r2, z1⟩ := vw_lst A r1 h1
    exact .inl ⟨_, _, rfl, .inl ⟨vs, q1, rfl⟩, by rw [← r2.length]; exact pst_sc rfl p A (.int _)⟩
  case dct ys =>
    obtain ⟨pa, ks, rfl, hp, r2, _⟩ := vw_dct A r1 h1
    refine .inr ⟨pa, ks, rfl, hp, ?_⟩
    rw [← r2.length]
    exact pst_sc rfl p A (.int _)

theorem cb_max2 {X : Cx} {m : Bool} (hc : X.calm = true) : CallR X (.builtin "max") (rBi T m .max2) := by
  refine cr_l (call_max2 hc) ?_
  rintro xs H Q ⟨W, τ, ms, st, ds, A, rd, p⟩
  generalize hl : ds.map (look st) = ld at p
  rcases ld with _ | ⟨e, _ | ⟨e2, _ | ⟨e3, r⟩⟩⟩
  · exact p.elim
  · cases e <;> exact p.elim
  rotate_left
  · cases e <;> cases e2 <;> exact p.elim
  obtain ⟨d, d2, rfl, h1, h2⟩ := map2 hl
  obtain ⟨v, w, rfl, r1, r2⟩ := rds2 rd
  cases e <;> cases e2 <;> first | exact p.elim | skip
  case int.int i j => exact ⟨i, j, by rw [vw_int r1 h1, vw_int r2 h2], pst_sc rfl p A (.int _)⟩
theorem cb_abs {X : Cx} {m : Bool} : CallR X (.builtin "abs") (rBi T m .abs) := by
  refine cr_l call_abs ?_
  rintro xs H Q ⟨W, τ, ms, st, ds, A, rd, p⟩
  generalize hl : ds.map (look st) = ld at p
  rcases ld with _ | ⟨e, _ | ⟨e2, r⟩⟩
  · exact p.elim
  rotate_left
  · cases e <;> exact p.elim
  obtain ⟨d, rfl, h1⟩ := map1 hl
  obtain ⟨v, rfl, r1⟩ := rds1 rd
  cases e <;> first | exact p.elim | skip
  case int i => exact ⟨i, by rw [vw_int r1 h1], pst_sc rfl p A (.int _)⟩
theorem num_val (s : List Nat) : numOf s = NumText.digitsVal s := by
  have g : ∀ (s : List Nat) (a : Nat), s.foldl (fun a c => 10 * a + (c - 48)) a = s.foldl (fun acc c => acc * 10 + (c - 48)) a := by
    intro s
    induction s with
    | nil => intro a; rfl
    | cons c s ih => intro a; rw [List.foldl_cons, List.foldl_cons, ih, Nat.mul_comm]
  exact g s 0
theorem cb_int {X : Cx} {m : Bool} : CallR X (.type "int") (rBi T m .int) := by
  refine cr_l (CallR.or call_int1 call_int_str) ?_
  rintro xs H Q ⟨W, τ, ms, st, ds, A, rd, p⟩
  generalize hl : ds.map (look st) = ld at p
  rcases ld with _ | ⟨e, _ | ⟨e2, r⟩⟩
  · exact p.elim
  rotate_left
  · cases e <;> exact p.elim
  obtain ⟨d, rfl, h1⟩ := map1 hl
  obtain ⟨v, rfl, r1⟩ := rds1 rd
  cases e <;> first | exact p.elim | skip
  case int i => exact .inl (.inl ⟨i, by rw [vw_int r1 h1], pst_sc rfl p A (.int _)⟩)
  case bl i => exact .inl (.inr ⟨i, by rw [vw_bl r1 h1], pst_sc rfl p A (.int _)⟩)
  case str s =>
    obtain ⟨rfl, hz⟩ := vw_str r1 h1
    simp only [biD] at p
    split at p
    · rename_i d1 hq
      split at hq
      · cases hq
        rename_i hs
        obtain ⟨h2, h3, h4⟩ := hs
        refine .inr ⟨tx s, numOf s, rfl, ?_, by rw [tx_len]; omega, pst_sc rfl p A (.int _)⟩
        rw [num_val]
        refine SX.int_S (a := s) ?_ h2 (by omega)
        rw [List.all_eq_true] at h4 ⊢
        intro c hc
        have := h4 c hc
        simp only [decide_eq_true_eq] at this
        simp [this]
      · cases hq
    · exact p.elim
theorem tlist_append (a b : String) : (Str.ofString (a ++ b)).cps.toList = (Str.ofString a).cps.toList ++ (Str.ofString b).cps.toList := by
  rw [Str.ofString_eq_toList, Str.ofString_eq_toList, Str.ofString_eq_toList]
  simp
theorem str_int (i : Int) : (toString i : Str) = tx (itxt i) := by
  unfold itxt
  by_cases h : i < 0
  · rw [if_pos h]
    obtain ⟨n, rfl⟩ : ∃ n : Nat, i = Int.negSucc n := ⟨i.natAbs - 1, by omega⟩
    have e1 : (toString (Int.negSucc n) : String) = "-" ++ toString (((n + 1 : Nat) : Int)) := rfl
    have e2 : (Str.ofString (toString (Int.negSucc n))).cps.toList = 45 :: dig (n + 1) := by
      rw [e1, tlist_append]
      have e3 : (Str.ofString (toString (((n + 1 : Nat) : Int)))).cps.toList = TL.numL (n + 1) := TL.tl_num (n + 1)
      rw [e3]
      rfl
    exact tx_of e2
  · rw [if_neg h]
    obtain ⟨n, rfl⟩ : ∃ n : Nat, i = (n : Int) := ⟨i.toNat, by omega⟩
    exact SX.num_S n
theorem itxt_len {i : Int} (h : i.natAbs < 2 ^ 1900) : (itxt i).length ≤ 1901 := by
  have h2 : i.natAbs < 10 ^ 1900 := Nat.lt_of_lt_of_le h (Nat.pow_le_pow_left (by decide) _)
  have h3 := TL.numL_len (by decide) h2
  have h4 : (dig i.natAbs).length ≤ 1900 := h3
  unfold itxt
  split
  · rw [List.length_cons]; omega
  · omega
theorem cb_str {X : Cx} {m : Bool} : CallR X (.type "str") (rBi T m .str) := by
  refine cr_l call_str_int ?_
  rintro xs H Q ⟨W, τ, ms, st, ds, A, rd, p⟩
  generalize hl : ds.map (look st) = ld at p
  rcases ld with _ | ⟨e, _ | ⟨e2, r⟩⟩
  · exact p.elim
  rotate_left
  · cases e <;> exact p.elim
  obtain ⟨d, rfl, h1⟩ := map1 hl
  obtain ⟨v, rfl, r1⟩ := rds1 rd
  cases e <;> first | exact p.elim | skip
  case int i =>
    simp only [biD] at p
    split at p
    · rename_i d1 hq
      split at hq
      · cases hq
        rename_i hs
        refine ⟨i, by rw [vw_int r1 h1], ?_, ?_⟩
        · by_cases h0 : i.natAbs = 0
          · rw [h0]; decide
          · have h5 : i.natAbs < 2 ^ 1920 := Nat.lt_of_lt_of_le hs (Nat.pow_le_pow_right (by decide) (by decide))
            exact (Nat.log2_lt h0).mpr h5
        · rw [str_int]
          exact pst_sc rfl p A (.str _ (Nat.le_trans (itxt_len hs) (by decide)))
      · cases hq
    · exact p.elim
theorem cb_tuple {X : Cx} {m : Bool} (hK : X.K = T.K) : CallR X (.type "tuple") (rBi T m .tuple) := by
  refine cr_l call_tuple_of ?_
  rintro xs H Q ⟨W, τ, ms, st, ds, A, rd, p⟩
  rw [hK]
  generalize hl : ds.map (look st) = ld at p
  rcases ld with _ | ⟨e, _ | ⟨e2, r⟩⟩
  · exact p.elim
  rotate_left
  · cases e <;> exact p.elim
  obtain ⟨d, rfl, h1⟩ := map1 hl
  obtain ⟨v, rfl, r1⟩ := rds1 rd
  cases e <;> first | exact p.elim | skip
  case tup ys =>
    obtain ⟨pa, vs, rfl, q1, r2⟩ := vw_tup A r1 h1
    exact ⟨_, vs, rfl, .inr ⟨q1.sq, pst_sc rfl p A (.tup q1 r2)⟩⟩
  case lst ys =>
    obtain ⟨pa, vs, rfl, q1, r2, z1⟩ := vw_lst A r1 h1
    refine ⟨_, vs, rfl, .inl ⟨q1, fun q hq => ?_⟩⟩
    cases m with
    | false => exact pst_tup p A r2 hq
    | true => exact p.elim
theorem cb_list {X : Cx} {m : Bool} (hK : X.K = T.K) (hc : X.calm = true) : CallR X (.type "list") (rBi T m .list) := by
  refine cr_l (CallR.or call_list_of (call_list_dK hc)) ?_
  rintro xs H Q ⟨W, τ, ms, st, ds, A, rd, p⟩
  rw [hK]
  generalize hl : ds.map (look st) = ld at p
  rcases ld with _ | ⟨e, _ | ⟨e2, r⟩⟩
  · exact p.elim
  rotate_left
  · cases e <;> exact p.elim
  obtain ⟨d, rfl, h1⟩ := map1 hl
  obtain ⟨v, rfl, r1⟩ := rds1 rd
  cases e <;> first | exact p.elim | skip
  case tup ys =>
    obtain ⟨pa, vs, rfl, q1, r2⟩ := vw_tup A r1 h1
    simp only [biD, seqOf, Option.bind_some] at p
    split at p
    · rename_i d1 hq
      split at hq
      · cases hq
        rename_i hz
        exact .inl ⟨_, vs, rfl, .inr q1.sq, fun q hq => pst_lst p A r2 hz hq⟩
      · cases hq
    · exact p.elim
  case lst ys =>
    obtain ⟨pa, vs, rfl, q1, r2, z1⟩ := vw_lst A r1 h1
    simp only [biD, seqOf, Option.bind_some, if_pos z1] at p
    exact .inl ⟨_, vs, rfl, .inl q1, fun q hq => pst_lst p A r2 z1 hq⟩
  case dct ys =>
    obtain ⟨pa, ks, rfl, hp, r2, z1⟩ := vw_dct A r1 h1
    refine .inr ⟨pa, ks, rfl, hp, fun q hq => ?_⟩
    exact pst_lst p A (rdk_keys r2) (by rw [List.length_map]; exact z1) hq

theorem maxL_spec : ∀ {ns : List Int}, ns ≠ [] → maxL ns ∈ ns ∧ ∀ y ∈ ns, y ≤ maxL ns
  | [], h => absurd rfl h
  | [x], _ => ⟨by simp [maxL], fun y hy => by simp at hy; subst hy; simp [maxL]⟩
  | x :: z :: r, _ => by
    obtain ⟨h1, h2⟩ := maxL_spec (ns := z :: r) (by simp)
    have e : maxL (x :: z :: r) = if maxL (z :: r) > x then maxL (z :: r) else x := rfl
    rw [e]
    split
    · exact ⟨List.mem_cons_of_mem _ h1, fun y hy => (List.mem_cons.mp hy).elim (fun q => by subst q; omega) (h2 y)⟩
    · exact ⟨List.mem_cons_self .., fun y hy => (List.mem_cons.mp hy).elim (fun q => by omega) fun q => by have := h2 y q; omega⟩
theorem minL_spec : ∀ {ns : List Int}, ns ≠ [] → minL ns ∈ ns ∧ ∀ y ∈ ns, minL ns ≤ y
  | [], h => absurd rfl h
  | [x], _ => ⟨by simp [minL], fun y hy => by simp at hy; subst hy; simp [minL]⟩
  | x :: z :: r, _ => by
    obtain ⟨h1, h2⟩ := minL_spec (ns := z :: r) (by simp)
    have e : minL (x :: z :: r) = if minL (z :: r) < x then minL (z :: r) else x := rfl
    rw [e]
    split
    · exact ⟨List.mem_cons_of_mem _ h1, fun y hy => (List.mem_cons.mp hy).elim (fun q => by subst q; omega) (h2 y)⟩
    · exact ⟨List.mem_cons_self .., fun y hy => (List.mem_cons.mp hy).elim (fun q => by omega) fun q => by have := h2 y q; omega⟩
section
variable {X : Cx}
theorem ints_alike (ns : List Int) : PySem.W.AlikeAll (ns.map PyData.int) := ⟨fun x hx y hy => by
  obtain ⟨i, _, rfl⟩ := List.mem_map.mp hx
  obtain ⟨j, _, rfl⟩ := List.mem_map.mp hy
  rfl, fun x hx => by
  obtain ⟨i, _, rfl⟩ := List.mem_map.mp hx
  exact fun z => by cases z⟩
theorem ints_depth : ∀ (ns : List Int), PyData.depthAll (ns.map PyData.int) ≤ 1
  | [] => by simp [PyData.depthAll]
  | n :: ns => by
    have := ints_depth ns
    simp only [List.map_cons, PyData.depthAll, PyData.depth]
    omega
theorem ints_dp {K : PySem.W.Frag} {H : Hp} : ∀ (ns : List Int), DpAll K H (ns.map V.int) (ns.map PyData.int)
  | [] => .nil
  | n :: ns => .cons (.int n) (ints_dp ns)
/-- max, min of a tuple of ints -/
theorem cr_maxTup (hc : X.calm = true) (hu : X.A.units + 64 < cLine) : CallR X (.builtin "max") (fun vs H Q => ∃ (a : Addr) (ns : List Int), vs = [V.ref a] ∧ SqT X.K H a (ns.map V.int) ∧ ns ≠ [] ∧ Q (.int (maxL ns)) H) := by
  intro pins s σ H vs us Q I r h
  obtain ⟨a, ns, rfl, hs, hne, q⟩ := h
  obtain ⟨its, rv, hl, _⟩ := I.tuple hs
  rw [Vals.ref1 r]
  cases ns with
  | nil => exact absurd rfl hne
  | cons n ns =>
    obtain ⟨as, ra⟩ := Dp.readsAll I _ _ its (ints_dp (n :: ns)) rv
    have hd := ints_depth (n :: ns)
    refine PySem.W.max_tuple_data (x := .int n) (xs := ns.map .int) (I.ok.hd hc) hl (by rw [List.toList_toArray]; exact ra) (ints_alike (n :: ns)) (by have e : PyData.depthAll (PyData.int n :: ns.map PyData.int) ≤ 1 := hd; omega) fun i v h' tk bs hv hr hk => ?_
    rw [PySem.W.maxD_ints] at hr
    cases hr with
    | int _ t =>
      refine ⟨.int _, H, I.kept hk, ⟨_, rfl⟩, ?_⟩
      have e : ns.foldl max n = maxL (n :: ns) := by
        obtain ⟨m1, m2⟩ := maxL_spec (ns := n :: ns) (by simp)
        have f : ∀ (ns : List Int) (n : Int), ns.foldl max n ∈ n :: ns ∧ ∀ y ∈ n :: ns, y ≤ ns.foldl max n := by
          intro ns
          induction ns with
          | nil => intro n; simp
          | cons k r ih =>
            intro n
            obtain ⟨i1, i2⟩ := ih (max n k)
            rw [List.foldl_cons]
            refine ⟨?_, fun y hy => ?_⟩
            · rcases List.mem_cons.mp i1 with h | h
              · rw [h]
                by_cases hk : n ≤ k
                · rw [Int.max_eq_right hk]; simp
                · rw [Int.max_eq_left (by omega)]; simp
              · exact List.mem_cons_of_mem _ (List.mem_cons_of_mem _ h)
            · have b := i2 (max n k) (List.mem_cons_self ..)
              rcases List.mem_cons.mp hy with h | h
              · subst h; omega
              · rcases List.mem_cons.mp h with h | h
                · subst h; omega
                · exact i2 y (List.mem_cons_of_mem _ h)
        obtain ⟨f1, f2⟩ := f ns n
        have a1 := m2 _ f1
        have a2 := f2 _ m1
        omega
      rw [e]; exact q
theorem cr_minTup (hc : X.calm = true) (hu : X.A.units + 64 < cLine) : CallR X (.builtin "min") (fun vs H Q => ∃ (a : Addr) (ns : List Int), vs = [V.ref a] ∧ SqT X.K H a (ns.map V.int) ∧ ns ≠ [] ∧ Q (.int (minL ns)) H) := by
  intro pins s σ H vs us Q I r h
  obtain ⟨a, ns, rfl, hs, hne, q⟩ := h
  obtain ⟨its, rv, hl, _⟩ := I.tuple hs
  rw [Vals.ref1 r]
  cases ns with
  | nil => exact absurd rfl hne
  | cons n ns =>
    obtain ⟨as, ra⟩ := Dp.readsAll I _ _ its (ints_dp (n :: ns)) rv
    have hd := ints_depth (n :: ns)
    refine PySem.W.min_tuple_data (x := .int n) (xs := ns.map .int) (I.ok.hd hc) hl (by rw [List.toList_toArray]; exact ra) (ints_alike (n :: ns)) (by have e : PyData.depthAll (PyData.int n :: ns.map PyData.int) ≤ 1 := hd; omega) fun i v h' tk bs hv hr hk => ?_
    rw [PySem.W.minD_ints] at hr
    cases hr with
    | int _ t =>
      refine ⟨.int _, H, I.kept hk, ⟨_, rfl⟩, ?_⟩
      have e : ns.foldl min n = minL (n :: ns) := by
        obtain ⟨m1, m2⟩ := minL_spec (ns := n :: ns) (by simp)
        have f : ∀ (ns : List Int) (n : Int), ns.foldl min n ∈ n :: ns ∧ ∀ y ∈ n :: ns, ns.foldl min n ≤ y := by
          intro ns
          induction ns with
          | nil => intro n; simp
          | cons k r ih =>
            intro n
            obtain ⟨i1, i2⟩ := ih (min n k)
            rw [List.foldl_cons]
            refine ⟨?_, fun y hy => ?_⟩
            · rcases List.mem_cons.mp i1 with h | h
              · rw [h]
                by_cases hk : n ≤ k
                · rw [Int.min_eq_left hk]; simp
                · rw [Int.min_eq_right (by omega)]; simp
              · exact List.mem_cons_of_mem _ (List.mem_cons_of_mem _ h)
            · have b := i2 (min n k) (List.mem_cons_self ..)
              rcases List.mem_cons.mp hy with h | h
              · subst h; omega
              · rcases List.mem_cons.mp h with h | h
                · subst h; omega
                · exact i2 y (List.mem_cons_of_mem _ h)
        obtain ⟨f1, f2⟩ := f ns n
        have a1 := m2 _ f1
        have a2 := f2 _ m1
        omega
      rw [e]; exact q
end
theorem cb_max1 {X : Cx} {m : Bool} (hK : X.K = T.K) (hc : X.calm = true) (hu : X.A.units + 64 < cLine) : CallR X (.builtin "max") (rBi T m .max1) := by
  refine cr_l (CallR.or (cr_max hc) (cr_maxTup hc hu)) ?_
  rintro xs H Q ⟨W, τ, ms, st, ds, A, rd, p⟩
  rw [hK]
  generalize hl : ds.map (look st) = ld at p
  rcases ld with _ | ⟨e, _ | ⟨e2, r⟩⟩
  · exact p.elim
  rotate_left
  · cases e <;> exact p.elim
  obtain ⟨d, rfl, h1⟩ := map1 hl
  obtain ⟨v, rfl, r1⟩ := rds1 rd
  cases e <;> first | exact p.elim | skip
  case tup ys =>
    obtain ⟨pa, vs, rfl, q1, r2⟩ := vw_tup A r1 h1
    simp only [biD, seqOf, Option.bind_some] at p
    cases hi : intsOf ys with
    | none => rw [hi] at p; exact p.elim
    | some ns =>
      rw [hi] at p
      simp only [Option.bind_some] at p
      have ev := rds_ints hi r2
      subst ev
      by_cases hn : ns = []
      · rw [if_pos hn] at p; exact p.elim
      · rw [if_neg hn] at p
        exact .inr ⟨pa, ns, rfl, q1.sq, hn, pst_sc rfl p A (.int _)⟩
  case lst ys =>
    obtain ⟨pa, vs, rfl, q1, r2, z1⟩ := vw_lst A r1 h1
    simp only [biD, seqOf, Option.bind_some] at p
    cases hi : intsOf ys with
    | none => rw [hi] at p; exact p.elim
    | some ns =>
      rw [hi] at p
      simp only [Option.bind_some] at p
      have ev := rds_ints hi r2
      subst ev
      by_cases hn : ns = []
      · rw [if_pos hn] at p; exact p.elim
      · rw [if_neg hn] at p
        refine .inl ⟨pa, ns, rfl, q1, List.length_pos_iff.mpr hn, fun m h1 h2 => ?_⟩
        obtain ⟨m1, m2⟩ := maxL_spec hn
        have e : m = maxL ns := by have a1 := m2 _ h1; have a2 := h2 _ m1; omega
        rw [e]
        exact pst_sc rfl p A (.int _)
theorem cb_min1 {X : Cx} {m : Bool} (hK : X.K = T.K) (hc : X.calm = true) (hu : X.A.units + 64 < cLine) : CallR X (.builtin "min") (rBi T m .min1) := by
  refine cr_l (CallR.or (cr_min hc) (cr_minTup hc hu)) ?_
  rintro xs H Q ⟨W, τ, ms, st, ds, A, rd, p⟩
  rw [hK]
  generalize hl : ds.map (look st) = ld at p
  rcases ld with _ | ⟨e, _ | ⟨e2, r⟩⟩
  · exact p.elim
  rotate_left
  · cases e <;> exact p.elim
  obtain ⟨d, rfl, h1⟩ := map1 hl
  obtain ⟨v, rfl, r1⟩ := rds1 rd
  cases e <;> first | exact p.elim | skip
  case tup ys =>
    obtain ⟨pa, vs, rfl, q1, r2⟩ := vw_tup A r1 h1
    simp only [biD, seqOf, Option.bind_some] at p
    cases hi : intsOf ys with
    | none => rw [hi] at p; exact p.elim
    | some ns =>
      rw [hi] at p
      simp only [Option.bind_some] at p
      have ev := rds_ints hi r2
      subst ev
      by_cases hn : ns = []
      · rw [if_pos hn] at p; exact p.elim
      · rw [if_neg hn] at p
        exact .inr ⟨pa, ns, rfl, q1.sq, hn, pst_sc rfl p A (.int _)⟩
  case lst ys =>
    obtain ⟨pa, vs, rfl, q1, r2, z1⟩ := vw_lst A r1 h1
    simp only [biD, seqOf, Option.bind_some] at p
    cases hi : intsOf ys with
    | none => rw [hi] at p; exact p.elim
    | some ns =>
      rw [hi] at p
      simp only [Option.bind_some] at p
      have ev := rds_ints hi r2
      subst ev
      by_cases hn : ns = []
      · rw [if_pos hn] at p; exact p.elim
      · rw [if_neg hn] at p
        refine .inl ⟨pa, ns, rfl, q1, List.length_pos_iff.mpr hn, fun m h1 h2 => ?_⟩
        obtain ⟨m1, m2⟩ := minL_spec hn
        have e : m = minL ns := by have a1 := m2 _ h1; have a2 := h2 _ m1; omega
        rw [e]
        exact pst_sc rfl p A (.int _)
theorem cb_sum {X : Cx} {m : Bool} (hK : X.K = T.K) (hc : X.calm = true) : CallR X (.builtin "sum") (rBi T m .sum) := by
  refine cr_l (cr_sum hc) ?_
  rintro xs H Q ⟨W, τ, ms, st, ds, A, rd, p⟩
  rw [hK]
  generalize hl : ds.map (look st) = ld at p
  rcases ld with _ | ⟨e, _ | ⟨e2, r⟩⟩
  · exact p.elim
  rotate_left
  · cases e <;> exact p.elim
  obtain ⟨d, rfl, h1⟩ := map1 hl
  obtain ⟨v, rfl, r1⟩ := rds1 rd
  cases e <;> first | exact p.elim | skip
  case lst ys =>
    obtain ⟨pa, vs, rfl, q1, r2, z1⟩ := vw_lst A r1 h1
    simp only [biD] at p
    cases hi : intsOf ys with
    | none => rw [hi] at p; exact p.elim
    | some ns =>
      rw [hi] at p
      have ev := rds_ints hi r2
      subst ev
      exact ⟨pa, ns, rfl, q1, pst_sc rfl p A (.int _)⟩
theorem cb_all {X : Cx} {m : Bool} (hK : X.K = T.K) (hc : X.calm = true) : CallR X (.builtin "all") (rBi T m .all) := by
  refine cr_l (cr_all hc) ?_
  rintro xs H Q ⟨W, τ, ms, st, ds, A, rd, p⟩
  rw [hK]
  generalize hl : ds.map (look st) = ld at p
  rcases ld with _ | ⟨e, _ | ⟨e2, r⟩⟩
  · exact p.elim
  rotate_left
  · cases e <;> exact p.elim
  obtain ⟨d, rfl, h1⟩ := map1 hl
  obtain ⟨v, rfl, r1⟩ := rds1 rd
  cases e <;> first | exact p.elim | skip
  case lst ys =>
    obtain ⟨pa, vs, rfl, q1, r2, z1⟩ := vw_lst A r1 h1
    simp only [biD] at p
    cases hi : blsOf ys with
    | none => rw [hi] at p; exact p.elim
    | some ns =>
      rw [hi] at p
      have ev := rds_bls hi r2
      subst ev
      exact ⟨pa, ns, rfl, q1, pst_sc rfl p A (.bl _)⟩
theorem cb_any {X : Cx} {m : Bool} (hK : X.K = T.K) (hc : X.calm = true) : CallR X (.builtin "any") (rBi T m .any) := by
  refine cr_l (cr_any hc) ?_
  rintro xs H Q ⟨W, τ, ms, st, ds, A, rd, p⟩
  rw [hK]
  generalize hl : ds.map (look st) = ld at p
  rcases ld with _ | ⟨e, _ | ⟨e2, r⟩⟩
  · exact p.elim
  rotate_left
  · cases e <;> exact p.elim
  obtain ⟨d, rfl, h1⟩ := map1 hl
  obtain ⟨v, rfl, r1⟩ := rds1 rd
  cases e <;> first | exact p.elim | skip
  case lst ys =>
    obtain ⟨pa, vs, rfl, q1, r2, z1⟩ := vw_lst A r1 h1
    simp only [biD] at p
    cases hi : blsOf ys with
    | none => rw [hi] at p; exact p.elim
    | some ns =>
      rw [hi] at p
      have ev := rds_bls hi r2
      subst ev
      exact ⟨pa, ns, rfl, q1, pst_sc rfl p A (.bl _)⟩
end CT

set_option maxRecDepth 100000
/-! sorted, dict, min of texts. -/
namespace CT
open PySem L2 PyProof.Rows
variable {T : TT} {k : Nat}

/-! ### one way to be in order -/
theorem perm_uniq {α : Type} {le : α → α → Prop} (anti : ∀ a b, le a b → le b a → a = b) : ∀ {l l' : List α}, l.Perm l' → l.Pairwise le → l'.Pairwise le → l = l'
  | [], l', h, _, _ => h.nil_eq
  | a :: l, [], h, _, _ => absurd h.length_eq (by simp)
  | a :: l, b :: l', h, h1, h2 => by
    have e : a = b := by
      rcases List.mem_cons.mp (h.mem_iff.mp (List.mem_cons_self ..)) with q | q
      · exact q
      · rcases List.mem_cons.mp (h.mem_iff.mpr (List.mem_cons_self ..)) with r | r
        · exact r.symm
        · exact anti a b ((List.pairwise_cons.mp h1).1 b r) ((List.pairwise_cons.mp h2).1 a q)
    subst e
    rw [perm_uniq anti (List.perm_cons a |>.mp h) (List.pairwise_cons.mp h1).2 (List.pairwise_cons.mp h2).2]
theorem insS_perm (x : List Nat) : ∀ l, (insS x l).Perm (x :: l)
  | [] => .refl _
  | y :: r => by
    unfold insS
    split
    · exact .refl _
    · exact ((insS_perm x r).cons y).trans (.swap x y r)
theorem sortS_perm : ∀ l, (sortS l).Perm l
  | [] => .refl _
  | x :: r => (insS_perm x (sortS r)).trans ((sortS_perm r).cons x)
theorem insS_srt (x : List Nat) : ∀ l, l.Pairwise (fun a b => ¬ b < a) → (insS x l).Pairwise (fun a b => ¬ b < a)
  | [], _ => by simp [insS]
  | y :: r, h => by
    obtain ⟨h1, h2⟩ := List.pairwise_cons.mp h
    unfold insS
    split
    · rename_i hlt
      refine List.pairwise_cons.mpr ⟨fun z hz => ?_, h⟩
      rcases List.mem_cons.mp hz with e | e
      · subst e; exact List.not_lt.mpr (List.le_of_lt hlt)
      · exact fun q => h1 z e (List.lt_trans q hlt)
    · rename_i hlt
      refine List.pairwise_cons.mpr ⟨fun z hz => ?_, insS_srt x r h2⟩
      rcases List.mem_cons.mp ((insS_perm x r).mem_iff.mp hz) with e | e
      · subst e; exact hlt
      · exact h1 z e
theorem sortS_srt : ∀ l, (sortS l).Pairwise (fun a b => ¬ b < a)
  | [] => .nil
  | x :: r => insS_srt x _ (sortS_srt r)
theorem insI_perm (x : Int) : ∀ l, (insI x l).Perm (x :: l)
  | [] => .refl _
  | y :: r => by
    unfold insI
    split
    · exact .refl _
    · exact ((insI_perm x r).cons y).trans (.swap x y r)
theorem sortI_perm : ∀ l, (sortI l).Perm l
  | [] => .refl _
  | x :: r => (insI_perm x (sortI r)).trans ((sortI_perm r).cons x)
theorem insI_srt (x : Int) : ∀ l, l.Pairwise (· ≤ ·) → (insI x l).Pairwise (· ≤ ·)
  | [], _ => by simp [insI]
  | y :: r, h => by
    obtain ⟨h1, h2⟩ := List.pairwise_cons.mp h
    unfold insI
    split
    · refine List.pairwise_cons.mpr ⟨fun z hz => ?_, h⟩
      rcases List.mem_cons.mp hz with e | e
      · omega
      · have := h1 z e; omega
    · refine List.pairwise_cons.mpr ⟨fun z hz => ?_, insI_srt x r h2⟩
      rcases List.mem_cons.mp ((insI_perm x r).mem_iff.mp hz) with e | e
      · omega
      · exact h1 z e
theorem sortI_srt : ∀ l, (sortI l).Pairwise (· ≤ ·)
  | [] => .nil
  | x :: r => insI_srt x _ (sortI_srt r)
theorem rising_pw : ∀ (p : Str) (l : List Str), risingS p l = true → (p :: l).Pairwise (fun a b => ¬ b.cps.toList < a.cps.toList)
  | p, [], _ => by simp
  | p, x :: r, h => by
    simp only [risingS, Bool.and_eq_true, Bool.not_eq_true', ltCps_eq, decide_eq_false_iff_not] at h
    have ih := rising_pw x r h.2
    refine List.pairwise_cons.mpr ⟨fun z hz => ?_, ih⟩
    rcases List.mem_cons.mp hz with e | e
    · subst e; exact h.1
    · exact fun q => absurd (List.le_trans (List.not_lt.mp h.1) (List.not_lt.mp ((List.pairwise_cons.mp ih).1 z e))) (List.not_le.mpr q)
theorem sortedS_pw : ∀ {l : List Str}, sortedS l = true → l.Pairwise (fun a b => ¬ b.cps.toList < a.cps.toList)
  | [], _ => .nil
  | x :: r, h => rising_pw x r h
theorem tx_inj {a b : List Nat} (h : tx a = tx b) : a = b := by
  have := congrArg (fun s => s.cps.toList) h
  simpa using this
theorem sorted_uniq {ss : List (List Nat)} {ys : List Str} (hp : ys.Perm (ss.map tx)) (hs : sortedS ys = true) : ys = (sortS ss).map tx := by
  refine perm_uniq (le := fun a b : Str => ¬ b.cps.toList < a.cps.toList) (fun a b h1 h2 => ?_) (hp.trans ((sortS_perm ss).map tx).symm) (sortedS_pw hs) ?_
  · have := List.le_antisymm (List.not_lt.mp h1) (List.not_lt.mp h2)
    cases a; cases b
    simp at this
    rw [this]
  · rw [List.pairwise_map]
    exact (sortS_srt ss).imp fun h => by simpa using h
theorem sortS_len {ss : List (List Nat)} {n : Nat} (h : ∀ s ∈ ss, s.length ≤ n) : ∀ s ∈ sortS ss, s.length ≤ n := fun s hs => h s ((sortS_perm ss).mem_iff.mp hs)

theorem kys_strs {ms : List Addr} {H : Hp} : ∀ {ys : List (Ky × D)} {ks : List (Key × V)} {ss : List (List Nat)}, RDk T ms H ys ks → strsOf (ys.map fun p => kyD p.1) = some ss → ks.map (·.1) = (ss.map tx).map Sum.inr ∧ ∀ s ∈ ss, s.length ≤ LIM
  | _, _, ss, .nil, h => by cases h; exact ⟨rfl, fun _ h => by simp at h⟩
  | _, _, ss, .cons (k := q) kb r s, h => by
    cases q with
    | i n => simp [kyD, strsOf] at h
    | s t =>
      simp only [List.map_cons, kyD, strsOf] at h
      obtain ⟨m, h1, rfl⟩ := Option.map_eq_some_iff.mp h
      obtain ⟨h2, h3⟩ := kys_strs s h1
      refine ⟨?_, fun s hs => (List.mem_cons.mp hs).elim (fun e => by rw [e]; exact kb t rfl) (h3 s)⟩
      simp only [List.map_cons, h2]
      rfl
theorem cb_sorted {X : Cx} {m : Bool} (hK : X.K = T.K) (hc : X.calm = true) : CallR X (.builtin "sorted") (rBi T m .sorted) := by
  refine cr_l (CallR.or cr_sorted (CallR.or cr_sortedS (call_sortedD hc))) ?_
  rintro xs H Q ⟨W, τ, ms, st, ds, A, rd, p⟩
  rw [hK]
  generalize hl : ds.map (look st) = ld at p
  rcases ld with _ | ⟨e, _ | ⟨e2, r⟩⟩
  · exact p.elim
  rotate_left
  · cases e <;> exact p.elim
  obtain ⟨d, rfl, h1⟩ := map1 hl
  obtain ⟨v, rfl, r1⟩ := rds1 rd
  cases e <;> first | exact p.elim | skip
  case lst ys =>
    obtain ⟨pa, vs, rfl, q1, r2, z1⟩ := vw_lst A r1 h1
    simp only [biD] at p
    cases hs : strsOf ys with
    | some ss =>
      rw [hs] at p
      simp only at p
      split at p
      · rename_i d1 hq
        split at hq
        · cases hq
          rename_i h64
          obtain ⟨ev, hz⟩ := rds_strs hs r2
          subst ev
          refine .inr (.inl ⟨pa, ss.map tx, rfl, q1, by rw [List.length_map]; exact h64, fun zs q hp hso hq => ?_⟩)
          rw [sorted_uniq hp hso]
          exact pst_lst p A (rds_of_strs _ (sortS_len hz)) (by rw [List.length_map, (sortS_perm ss).length_eq]; exact Nat.le_trans (Nat.le_of_lt h64) (by decide)) hq
        · cases hq
      · exact p.elim
    | none =>
      rw [hs] at p
      simp only at p
      cases hi : intsOf ys with
      | none => rw [hi] at p; exact p.elim
      | some ns =>
        rw [hi] at p
        simp only [Option.bind_some] at p
        split at p
        · rename_i d1 hq
          split at hq
          · cases hq
            rename_i h64
            have ev := rds_ints hi r2
            subst ev
            refine .inl ⟨pa, ns, rfl, q1, h64, fun zs q hp hso hq => ?_⟩
            have e : zs = sortI ns := perm_uniq (le := (· ≤ ·)) (fun a b h1 h2 => by omega) (hp.trans (sortI_perm ns).symm) hso (sortI_srt ns)
            rw [e]
            exact pst_lst p A (rds_of_ints _) (by rw [List.length_map, (sortI_perm ns).length_eq]; exact Nat.le_trans (Nat.le_of_lt h64) (by decide)) hq
          · cases hq
        · exact p.elim
  case dct ys =>
    obtain ⟨pa, ks, rfl, hp, r2, z1⟩ := vw_dct A r1 h1
    simp only [biD] at p
    cases hs : strsOf (ys.map fun p => kyD p.1) with
    | none => rw [hs] at p; exact p.elim
    | some ss =>
      rw [hs] at p
      simp only [Option.bind_some] at p
      split at p
      · rename_i d1 hq
        split at hq
        · cases hq
          rename_i h64
          obtain ⟨ek, hz⟩ := kys_strs r2 hs
          refine .inr (.inr ⟨pa, ks, ss.map tx, rfl, .inl hp, ek, by rw [List.length_map]; exact h64, fun zs q hp hso hq => ?_⟩)
          rw [sorted_uniq hp hso]
          exact pst_lst p A (rds_of_strs _ (sortS_len hz)) (by rw [List.length_map, (sortS_perm ss).length_eq]; exact Nat.le_trans (Nat.le_of_lt h64) (by decide)) hq
        · cases hq
      · exact p.elim

/-! ### dict -/
section
variable {ms : List Addr} {H : Hp}
theorem rdk_any {q : Ky} : ∀ {ys : List (Ky × D)} {ks : List (Key × V)}, RDk T ms H ys ks → (ys.any fun p => decide (p.1 = q)) = ks.any fun kv => decide (kv.1 = kyK q)
  | _, _, .nil => rfl
  | _, _, .cons (k := l) kb r s => by
    simp only [List.any_cons, rdk_any s]
    congr 1
    by_cases h : l = q
    · subst h; simp
    · have : ¬ kyK l = kyK q := fun z => h (kyK_inj z)
      simp [h, this]
theorem rdk_map {q : Ky} {d : D} {v : V} (rd : RD T ms H d v) : ∀ {ys : List (Ky × D)} {ks : List (Key × V)}, RDk T ms H ys ks → RDk T ms H (ys.map fun p => if p.1 = q then (p.1, d) else p) (ks.map fun kv => if kv.1 = kyK q then (kv.1, v) else kv)
  | _, _, .nil => .nil
  | _, _, .cons (k := l) kb r s => by
    simp only [List.map_cons]
    by_cases h : l = q
    · subst h
      rw [if_pos rfl, if_pos rfl]
      exact .cons kb rd (rdk_map rd s)
    · have : ¬ kyK l = kyK q := fun z => h (kyK_inj z)
      rw [if_neg h, if_neg this]
      exact .cons kb r (rdk_map rd s)
theorem rdk_snoc {q : Ky} {d : D} {v : V} (hq : ∀ t, q = .s t → t.length ≤ LIM) (rd : RD T ms H d v) : ∀ {ys : List (Ky × D)} {ks : List (Key × V)}, RDk T ms H ys ks → RDk T ms H (ys ++ [(q, d)]) (ks ++ [(kyK q, v)])
  | _, _, .nil => .cons hq rd .nil
  | _, _, .cons kb r s => .cons kb r (rdk_snoc hq rd s)
theorem rdk_put {q : Ky} {d : D} {v : V} (hq : ∀ t, q = .s t → t.length ≤ LIM) (rd : RD T ms H d v) {ys : List (Ky × D)} {ks : List (Key × V)} (r : RDk T ms H ys ks) : RDk T ms H (kvPut q d ys) (putK ks (kyK q) v) := by
  unfold kvPut putK
  rw [rdk_any r]
  split
  · exact rdk_map rd r
  · exact rdk_snoc hq rd r
theorem rdk_merge {more : List (Ky × D)} : ∀ {ys : List (Ky × D)} {mk ks : List (Key × V)}, RDk T ms H more mk → RDk T ms H ys ks → RDk T ms H (more.foldl (fun acc p => kvPut p.1 p.2 acc) ys) (mergeK ks mk) := by
  induction more with
  | nil => intro ys mk ks h r; cases h; exact r
  | cons p more ih =>
    intro ys mk ks h r
    cases h with
    | cons kb rd s =>
      have q := ih s (rdk_put kb rd r)
      exact q
theorem kv_bound {d : D} {v : V} {q : Ky} (h : keyD d = some q) (r : RD T ms H d v) : ∀ t, q = .s t → t.length ≤ LIM := by
  intro t e
  subst e
  cases r <;> simp only [keyD] at h <;> cases h
  assumption
theorem rds_pairs : ∀ {xs : List D} {ps : List (Ky × D)} {vs : List V}, pairsOf xs = some ps → RDs T ms H xs vs → ∃ (as : List Addr) (kvs : List (Key × V)), vs = as.map V.ref ∧ Paired (fun p kv => SqT T.K H p [kV kv.1, kv.2]) as kvs ∧ RDk T ms H ps kvs
  | [], ps, vs, h, r => by cases r; cases h; exact ⟨[], [], rfl, .nil, .nil⟩
  | d :: xs, ps, vs, h, r => by
    cases r with
    | cons r s =>
      unfold pairsOf at h
      split at h
      · rename_i hz; cases hz
      · rename_i kd dd rest hz
        cases hz
        cases hk : keyD kd with
        | none => rw [hk] at h; cases h
        | some q =>
          rw [hk] at h
          simp only [Option.bind_some] at h
          obtain ⟨m, h1, rfl⟩ := Option.map_eq_some_iff.mp h
          obtain ⟨as, kvs, rfl, pr, rk⟩ := rds_pairs h1 s
          cases r with
          | tup f r2 =>
            obtain ⟨v1, v2, rfl, ra, rb⟩ := rds2 r2
            rename_i pa
            have ek := ky_val hk ra
            subst ek
            exact ⟨pa :: as, (kyK q, v2) :: kvs, rfl, .cons f.sq pr, .cons (kv_bound hk ra) rb rk⟩
      · cases h
end
theorem cb_dict {X : Cx} {m : Bool} (hK : X.K = T.K) (hc : X.calm = true) : CallR X (.type "dict") (rBi T m .dict) := by
  refine cr_l (CallR.or (call_dictP hc) call_dictD) ?_
  rintro xs H Q ⟨W, τ, ms, st, ds, A, rd, p⟩
  rw [hK]
  generalize hl : ds.map (look st) = ld at p
  rcases ld with _ | ⟨e, _ | ⟨e2, r⟩⟩
  · exact p.elim
  rotate_left
  · cases e <;> exact p.elim
  obtain ⟨d, rfl, h1⟩ := map1 hl
  obtain ⟨v, rfl, r1⟩ := rds1 rd
  cases e <;> first | exact p.elim | skip
  case lst ys =>
    obtain ⟨pa, vs, rfl, q1, r2, z1⟩ := vw_lst A r1 h1
    simp only [biD] at p
    cases hs : pairsOf ys with
    | none => rw [hs] at p; exact p.elim
    | some ps =>
      rw [hs] at p
      obtain ⟨as, kvs, rfl, pr, rk⟩ := rds_pairs hs r2
      refine .inl ⟨pa, as, kvs, rfl, q1, pr, fun q hq => ?_⟩
      have rm : RDk T ms H (dictOf ps) (mergeK [] kvs) := rdk_merge rk .nil
      refine pst_dct p A rm ?_ hq
      rw [rm.length]
      refine Nat.le_trans (length_mergeK kvs []) ?_
      have l1 := pr.length
      have l2 := r2.length
      rw [List.length_map] at l2
      rw [List.length_nil]
      omega
  case dct ys =>
    obtain ⟨pa, ks, rfl, hp, r2, z1⟩ := vw_dct A r1 h1
    exact .inr ⟨pa, ks, rfl, .inl hp, fun q hq => pst_dct p A r2 z1 hq⟩

/-! ### min of two texts -/
theorem cmp_strs {prog : Program} {w : World} {A : Around} {P : Nat → Value → Prop} (val : Nat → Str) (hval : ∀ i v, P i v → ∃ t, v = .str (val i) t) :
    CmpOf prog w A .Lt P (fun i j => decide ((val i).cps.toList < (val j).cps.toList)) := fun i j vi vj s Q E hi hj h => by
  obtain ⟨t, rfl⟩ := hval i vi hi
  obtain ⟨u, rfl⟩ := hval j vj hj
  exact richCompare_gives (op := .Lt) (typeIs_str s _ t) (typeIs_str s _ u) F.slot_str_lt F.entry_str_lt (F.args_str_lt_2 _ _) (gives_str_lt _ _ t u) (fun x => nomatch x) h
theorem min_strs {prog : Program} {w : World} {A : Around} {E : Value → Shared → Prop} {s : Shared} {a b : Str} {t u : Tok} {Q : Value → Shared → Prop} (hh : A.handled = none)
    (h : ∀ h' tk, (∀ c o, s.heap.get? c = some o → h'.get? c = some o) → Q (if b.cps.toList < a.cps.toList then Value.str b u else Value.str a t) { s with heap := h', toks := tk }) :
    wpAny (model prog w) A (call (.builtin "min") [Value.str a t, Value.str b u]) Q E s := by
  let xs : Array (Str × Tok) := #[(a, t), (b, u)]
  let its : Array Value := #[Value.str a t, Value.str b u]
  let at_ : Nat → Str := fun i => (xs[i]?.map (·.1)).getD ⟨#[]⟩
  have hat : ∀ (i : Nat) (v : Value), its[i]? = some v → ∃ t, v = Value.str (at_ i) t := fun i v hv => by
    match i, hv with
    | 0, hv => simp [its] at hv; exact ⟨t, by rw [← hv]; simp [at_, xs]⟩
    | 1, hv => simp [its] at hv; exact ⟨u, by rw [← hv]; simp [at_, xs]⟩
    | i + 2, hv => simp [its] at hv
  have hT : (s.heap.push { cls := .type "tuple", data := .seq its }).IsTuple s.heap.objs.size its := ⟨_, Heap.get?_push_size _ rfl, rfl, 0, rfl⟩
  refine call_min_two (wpAny_pyIter_tuple hT ?_)
  have hsz : (s.heap.push { cls := .type "tuple", data := .seq its }).objs.size = s.heap.objs.size + 1 := Heap.size_push ..
  refine ⟨_, [_, s.heap.objs.size], [_], _, _, _, _, rfl, Walks.tuple (A := A.in1) hh _ s.heap.objs.size (by rw [hsz]; exact Nat.ne_of_lt (Nat.lt_succ_self _)) its,
    ⟨⟨_, Heap.get?_push_size _ rfl, rfl, rfl⟩, hT.push _⟩, fun c hc => ?_, by simp [its], cmp_strs at_ hat, fun v h' tk hP hk => ?_⟩
  · show c < ((s.heap.push _).push _).objs.size
    rw [Heap.size_push, hsz]
    rcases List.mem_cons.mp hc with rfl | hc
    · rw [hsz]; exact Nat.lt_succ_self _
    · rcases List.mem_cons.mp hc with rfl | hc
      · exact Nat.lt_succ_of_lt (Nat.lt_succ_self _)
      · cases hc
  · have hold : ∀ c o, s.heap.get? c = some o → h'.get? c = some o := fun c o e => by
      refine hk c o (fun hm => ?_) (Heap.get?_push_of_some _ (Heap.get?_push_of_some _ e))
      rcases List.mem_cons.mp hm with e1 | hm
      · have := Heap.lt_size e; rw [e1, hsz] at this; exact Nat.lt_irrefl _ (Nat.lt_of_succ_lt this)
      · cases hm
    have hq := h h' tk hold
    have hv : v = if b.cps.toList < a.cps.toList then Value.str b u else Value.str a t := by
      have hP' : its[argBest (fun i j => decide ((at_ i).cps.toList < (at_ j).cps.toList)) 1]? = some v := hP
      by_cases hba : b.cps.toList < a.cps.toList
      · have e : argBest (fun i j => decide ((at_ i).cps.toList < (at_ j).cps.toList)) 1 = 1 := by simp [argBest, at_, xs, hba]
        rw [e] at hP'
        simpa [its, hba] using hP'.symm
      · have e : argBest (fun i j => decide ((at_ i).cps.toList < (at_ j).cps.toList)) 1 = 0 := by simp [argBest, at_, xs, hba]
        rw [e] at hP'
        simpa [its, hba] using hP'.symm
    rw [hv]; exact hq
theorem cr_minS {X : Cx} (hc : X.calm = true) : CallR X (.builtin "min") (fun xs H Q => ∃ i j, xs = [.str i, .str j] ∧ Q (.str (if j.cps.toList < i.cps.toList then j else i)) H) := by
  intro pins s σ H xs us Q I r h
  obtain ⟨i, j, rfl, q⟩ := h
  obtain ⟨u, w', rfl, ⟨t, rfl⟩, ⟨t', rfl⟩⟩ := vals2 r
  refine min_strs (I.ok.hd hc) fun h' tk k => ⟨_, H, I.kept k, ?_, q⟩
  split
  · exact ⟨_, rfl⟩
  · exact ⟨_, rfl⟩
theorem cb_min2 {X : Cx} {m : Bool} (hc : X.calm = true) : CallR X (.builtin "min") (rBi T m .min2) := by
  refine cr_l (CallR.or (call_min2 hc) (cr_minS hc)) ?_
  rintro xs H Q ⟨W, τ, ms, st, ds, A, rd, p⟩
  generalize hl : ds.map (look st) = ld at p
  rcases ld with _ | ⟨e, _ | ⟨e2, _ | ⟨e3, r⟩⟩⟩
  · exact p.elim
  · cases e <;> exact p.elim
  rotate_left
  · cases e <;> cases e2 <;> exact p.elim
  obtain ⟨d, d2, rfl, h1, h2⟩ := map2 hl
  obtain ⟨v, w, rfl, r1, r2⟩ := rds2 rd
  cases e <;> cases e2 <;> first | exact p.elim | skip
  case int.int i j => exact .inl ⟨i, j, by rw [vw_int r1 h1, vw_int r2 h2], pst_sc rfl p A (.int _)⟩
  case str.str i j =>
    obtain ⟨rfl, z1⟩ := vw_str r1 h1
    obtain ⟨rfl, z2⟩ := vw_str r2 h2
    refine .inr ⟨tx i, tx j, rfl, ?_⟩
    have e : (if (tx j).cps.toList < (tx i).cps.toList then tx j else tx i) = tx (if j < i then j else i) := by
      have e2 : ((tx j).cps.toList < (tx i).cps.toList) = (j < i) := by simp
      simp only [e2]
      split <;> rfl
    rw [e]
    refine pst_sc rfl p A (.str _ ?_)
    split
    · exact z2
    · exact z1

/-! ### the expressions -/
theorem boot_bi (b : Bi) : bootBuiltins (biN b) = some (biV b) := by cases b <;> decide +kernel
theorem bi_nm {nm : Nm} (t : TOk T nm) (b : Bi) : T.mg (biN b) = none := t.blt _ (by cases b <;> simp [biN])
theorem bi_nil (rp : D → Option (List Nat)) (b : Bi) : biD rp b [] = none := by cases b <;> rfl
mutual
theorem toPy_nodict : ∀ d : D, (toPy d).hasDict = false
  | .non => by simp [toPy, PySem.PyData.hasDict]
  | .bl _ => by simp [toPy, PySem.PyData.hasDict]
  | .int _ => by simp [toPy, PySem.PyData.hasDict]
  | .str _ => by simp [toPy, PySem.PyData.hasDict]
  | .tup ds => by simp only [toPy, PySem.PyData.hasDict]; exact toPys_nodict ds
  | .lst ds => by simp only [toPy, PySem.PyData.hasDict]; exact toPys_nodict ds
  | .dct _ => by simp [toPy, PySem.PyData.hasDict]
  | .obj _ _ => by simp [toPy, PySem.PyData.hasDict]
  | .exc _ _ => by simp [toPy, PySem.PyData.hasDict]
  | .fn _ => by simp [toPy, PySem.PyData.hasDict]
  | .ref _ => by simp [toPy, PySem.PyData.hasDict]
theorem toPys_nodict : ∀ ds : List D, PySem.PyData.hasDictAll (toPys ds) = false
  | [] => by simp [toPys, PySem.PyData.hasDictAll]
  | d :: ds => by simp only [toPys, PySem.PyData.hasDictAll, toPy_nodict d, toPys_nodict ds, Bool.or_self]
end
theorem cb_repr {X : Cx} {m : Bool} (hK : X.K = T.K) (hg : X.A.guards = some []) (hu : X.A.units + 64 < cLine) (hrp : ∀ d t, T.P.rp d = some t → rpD d = some t) : CallR X (biV .repr) (rBi T m .repr) := by
  intro pins s σ H xs us Q I rs hw
  obtain ⟨W, τ, ms, st, ds, A, rd, p⟩ := hw
  cases ds with
  | nil => exact p.elim
  | cons d ds =>
    cases ds with
    | cons _ _ => exact p.elim
    | nil =>
      obtain ⟨v, rfl, r⟩ := rds1 rd
      obtain ⟨u, rfl, ru⟩ := vals1 rs
      simp only [List.map_cons, List.map_nil, biD] at p
      cases hr : T.P.rp (look st d) with
      | none => rw [hr] at p; exact p.elim
      | some t =>
        have h2 := hrp _ _ hr
        unfold rpD at h2
        split at h2
        · rename_i hc
          cases h2
          simp only [Bool.and_eq_true, decide_eq_true_eq] at hc
          obtain ⟨⟨⟨hd, hp⟩, hs⟩, hl⟩ := hc
          have pp := toPy_plain 8 _ hp
          obtain ⟨l1, r1⟩ := Dp.reads I (toPy (look st d)) v u (by rw [hK]; exact look_plain hp A r) ru
          have hrf : ∃ a, u = .ref a := by
            revert r1 hd
            generalize look st d = e
            intro hd r1
            cases e <;> first | (cases hd; done) | skip
            · simp only [toPy] at r1; cases r1; exact ⟨_, rfl⟩
            · simp only [toPy] at r1; cases r1; exact ⟨_, rfl⟩
          obtain ⟨a, rfl⟩ := hrf
          have e16 : LIM = sizeLine := by decide
          rw [hr] at p
          have q := pst_sc rfl p A (RD.str _ (by rw [Array.length_toList]; exact hl))
          refine PySem.repr_of_reads' r1 hs (PySem.PyData.noDict_hsm (toPy_nodict _)) hg (by omega) (fun _ _ e => e) (fun h' u tk hk => ?_) (by omega)
          exact ⟨.str _, H, I.kept hk, ⟨_, rfl⟩, q⟩
        · cases h2
theorem cb_bi {W : WX} {c : MC} {X : Cx} (g : Good T k W c X) (hcm : c.cm = true) {m : Bool} {b : Bi} (hb : biS b = true) : CallR X (biV b) (rBi T m b) := by
  have hc := g.calm hcm
  have hu := g.hu64
  cases b <;> first | (cases hb; done) | skip
  · exact cb_len g.K
  · exact cb_max2 hc
  · exact cb_min2 hc
  · exact cb_max1 g.K hc hu
  · exact cb_min1 g.K hc hu
  · exact cb_sum g.K hc
  · exact cb_all g.K hc
  · exact cb_any g.K hc
  · exact cb_abs
  · exact cb_int
  · exact cb_str
  · exact cb_repr g.K g.grd hu g.tok.rp
  · exact cb_sorted g.K hc
  · exact cb_tuple g.K
  · exact cb_list g.K hc
  · exact cb_dict g.K hc
theorem biV_cases (b : Bi) : (∃ id, biV b = .builtin id) ∨ ∃ id, biV b = .type id := by
  cases b <;> first | exact .inl ⟨_, rfl⟩ | exact .inr ⟨_, rfl⟩
theorem pe_bi {W : WX} {c : MC} {X : Cx} (g : Good T k W c X) {m : Bool} {b : Bi} {es : Es} {xs : List Expr} {x : Str} {p pos : Pos} (hcm : c.cm = true) (hb : biS b = true) (hx : x = biN b) (hgl : glbB c x = true) (hm : mEs c es xs = true) (ha : SA T k es) :
    PE X (.Call (.Name x p) xs [] pos) (tE T k W (.bi m b es)) := by
  refine ⟨fun pins s τ H Q I h => ?_⟩
  obtain ⟨ms, σ, st, A, pp⟩ := h
  simp only [evE] at pp
  obtain ⟨g1, g2, g3⟩ := g.gl hgl
  subst hx
  cases es with
  | nil =>
    simp only [evEs, R.bind, List.map_nil, bi_nil] at pp
    exact pp.elim
  | cons e r =>
    cases xs with
    | nil => simp only [mEs, Bool.false_eq_true] at hm
    | cons x xs =>
      have hm2 := hm
      simp only [mEs] at hm2
      simp only [Bool.and_eq_true, decide_eq_true_eq, Bool.not_eq_true', beq_iff_eq, bne_iff_ne, ne_eq] at hm2
      have key : tA T k W (.cons e r) τ H fun vs H1 => rBi T m b vs H1 Q :=
        ⟨ms, σ, st, A, Pst.bind pp fun ds st1 vs ms1 H1 _ ev ah rd p1 => ⟨W, τ, ms1, st1, ds, ah, rd, p1⟩⟩
      refine wpAny_Call_Name_kw (ld_blt I g1 (by rw [g.mg]; exact bi_nm g.tok b) (boot_bi b) ?_ g3 g2)
      have hr := cb_bi g hcm (m := m) hb
      have ar := (ha.pa W c X (x :: xs) g hm).run pos pins s τ H _ I key
      have go : ∀ {f : Value}, CallR X f (rBi T m b) → wpAny (model X.prog X.w) X.A (spliced (backTo pos (starEach (x :: xs) X.env))) (fun us s1 => wpAny (model X.prog X.w) X.A (call f us) (EP X pins τ Q) X.xe s1) X.xe s := fun hr =>
        thn ar fun us s1 ⟨vs, H1, I1, r1, q1⟩ => hr pins s1 τ H1 vs us Q I1 r1 q1
      have hst := star_cons (e := x) xs X.env hm2.1.2
      have hpl := star_none (pos := pos) (env := X.env) hm2.2
      rcases biV_cases b with ⟨id, e⟩ | ⟨id, e⟩
      · rw [e] at hr ⊢
        exact PyProof.Rows.callWith_builtin1 (go hr) hst hpl
      · rw [e] at hr ⊢
        exact PyProof.Rows.callWith_type1 (go hr) hst hpl
theorem se_bi {m : Bool} {b : Bi} {es : Es} (ha : SA T k es) : SE T k (.bi m b es) := by
  refine ⟨fun W c X x g h => ?_, fun W c X x g h => ?_⟩
  · (simp only [mE] at h; split at h <;> first | (cases h; done) | skip); (simp only [Bool.and_eq_true, decide_eq_true_eq, Bool.not_eq_true', beq_iff_eq, bne_iff_ne, ne_eq] at h)
    obtain ⟨⟨⟨⟨h0, hb⟩, h1⟩, h3⟩, h4⟩ := h
    exact pe_bi g h0 hb h1 h3 h4 ha
  · (simp only [mT] at h; split at h <;> first | (cases h; done) | skip); (try simp only [Bool.and_eq_true, decide_eq_true_eq, Bool.not_eq_true', beq_iff_eq, bne_iff_ne, ne_eq] at h)
    obtain ⟨⟨⟨⟨h0, hb⟩, h1⟩, h3⟩, h4⟩ := h
    exact pt_of (pe_bi g h0 hb h1 h3 h4 ha) rfl
end CT

set_option maxRecDepth 100000
/-! The built-in methods. -/
namespace CT
open PySem L2 PyProof.Rows
variable {T : TT} {k : Nat}
def bmI : Bm → String
  | .join => "str.join" | .get => "dict.get" | .get2 => "dict.get" | .append => "list.append" | .reverse => "list.reverse" | .pop => "list.pop" | .clear => "list.clear" | .update => "dict.update" | .setdef => "dict.setdefault" | .index => "list.index"
  | .replace => "str.replace" | .split => "str.split"
def bmY : Bm → String
  | .join => "str" | .replace => "str" | .split => "str" | .get => "dict" | .get2 => "dict" | .update => "dict" | .setdef => "dict" | _ => "list"
/-- what is left to be done when all has come in -/
def bmR (b : Bm) (m : Bool) (x : D) (ds : List D) (st : Store) : R D := if b.muts then (match x with
      | .ref a => match st[a]? with
        | some o => match bmO b o (if b = .update then ds.map (look st) else ds) with
          | some (d, o') => .ok d (st.set a o')
          | none => .bad
        | none => .bad
      | _ => .bad) else (match bmD b (look st x) (if b = .join then ds.map (look st) else ds) with
      | some d => fin m d st
      | none => .bad)
def rBm (T : TT) (m : Bool) (b : Bm) : V → List V → Hp → VK → Prop := fun x xs H Q => ∃ (W : WX) (τ : L2.St) (ms : List Addr) (st : Store) (d : D) (ds : List D), AH T ms st H ∧ RD T ms H d x ∧ RDs T ms H ds xs ∧ Pst T W τ ms H (bmR b m d ds st) (RD T) Q
theorem mt_l {X : Cx} {id : String} {r r' : V → List V → Hp → VK → Prop} (h : MtR X id r) (i : ∀ x xs H Q, r' x xs H Q → r x xs H Q) : MtR X id r' := fun pins s σ H x xs v us Q I rx rs hw => h pins s σ H x xs v us Q I rx rs (i _ _ _ _ hw)
section
variable {X : Cx} {m : Bool}
theorem mut_at {W : WX} {τ : L2.St} {ms : List Addr} {H : Hp} {st : Store} {b : Bm} {d : D} {x : V} {ds : List D} {Q : VK} (hb : b.muts = true) (hu : b ≠ .update) (A : AH T ms st H) (rd : RD T ms H d x) (p : Pst T W τ ms H (bmR b m d ds st) (RD T) Q) :
    ∃ a q o e o', x = .ref q ∧ ms[a]? = some q ∧ st[a]? = some o ∧ RO T ms H q o ∧ bmO b o ds = some (e, o') ∧ Pst T W τ ms H (.ok e (st.set a o')) (RD T) Q := by
  unfold bmR at p
  rw [if_pos hb] at p
  cases d with
  | ref a =>
    simp only [if_neg hu] at p
    cases ho : st[a]? with
    | none => rw [ho] at p; exact p.elim
    | some o =>
      rw [ho] at p
      simp only at p
      cases h2 : bmO b o ds with
      | none => rw [h2] at p; exact p.elim
      | some e =>
        obtain ⟨e, o'⟩ := e
        rw [h2] at p
        cases rd with
        | ref hr => exact ⟨a, _, o, e, o', rfl, hr, ho, A.at_ a _ o hr ho, h2, p⟩
  | _ => exact p.elim
theorem bo_append {o o' : O} {ds : List D} {e : D} (h : bmO .append o ds = some (e, o')) : ∃ ys d, o = .lst ys ∧ ds = [d] ∧ ys.length < LIM ∧ e = .non ∧ o' = .lst (ys ++ [d]) := by
  cases o with
  | lst ys =>
    rcases ds with _ | ⟨d, _ | ⟨d2, r⟩⟩
    · simp [bmO] at h
    · simp only [bmO] at h
      split at h
      · cases h; rename_i hl; exact ⟨ys, d, rfl, rfl, hl, rfl, rfl⟩
      · cases h
    · simp [bmO] at h
  | _ => simp [bmO] at h
theorem bo_reverse {o o' : O} {ds : List D} {e : D} (h : bmO .reverse o ds = some (e, o')) : ∃ ys, o = .lst ys ∧ ds = [] ∧ e = .non ∧ o' = .lst ys.reverse := by
  cases o with
  | lst ys =>
    rcases ds with _ | ⟨d, r⟩
    · simp only [bmO] at h; cases h; exact ⟨ys, rfl, rfl, rfl, rfl⟩
    · simp [bmO] at h
  | _ => simp [bmO] at h
theorem bo_clear {o o' : O} {ds : List D} {e : D} (h : bmO .clear o ds = some (e, o')) : ∃ ys, o = .lst ys ∧ ds = [] ∧ e = .non ∧ o' = .lst [] := by
  cases o with
  | lst ys =>
    rcases ds with _ | ⟨d, r⟩
    · simp only [bmO] at h; cases h; exact ⟨ys, rfl, rfl, rfl, rfl⟩
    · simp [bmO] at h
  | _ => simp [bmO] at h
theorem bo_pop {o o' : O} {ds : List D} {e : D} (h : bmO .pop o ds = some (e, o')) : ∃ ys, o = .lst ys ∧ ((ds = [] ∧ ys.getLast? = some e ∧ o' = .lst ys.dropLast) ∨ ∃ i : Int, ds = [.int i] ∧ 0 ≤ i ∧ i < 2 ^ 62 ∧ ys[i.toNat]? = some e ∧ o' = .lst (ys.eraseIdx i.toNat)) := by
  cases o with
  | lst ys =>
    rcases ds with _ | ⟨d, _ | ⟨d2, r⟩⟩
    · simp only [bmO] at h
      obtain ⟨d2, hd, e2⟩ := Option.map_eq_some_iff.mp h
      cases e2
      exact ⟨ys, rfl, .inl ⟨rfl, hd, rfl⟩⟩
    · cases d with
      | int i =>
        simp only [bmO] at h
        split at h
        · obtain ⟨d2, hd, e2⟩ := Option.map_eq_some_iff.mp h
          cases e2
          rename_i hi
          exact ⟨ys, rfl, .inr ⟨i, rfl, hi.1, hi.2, hd, rfl⟩⟩
        · cases h
      | _ => simp [bmO] at h
    · simp [bmO] at h
  | _ => simp [bmO] at h
theorem bo_setdef {o o' : O} {ds : List D} {e : D} (h : bmO .setdef o ds = some (e, o')) : ∃ kvs kd x q, o = .dct kvs ∧ ds = [kd, x] ∧ keyD kd = some q ∧ kvs.length < LIM ∧ ((kvGet q kvs = some e ∧ o' = .dct kvs) ∨ (kvGet q kvs = none ∧ e = x ∧ o' = .dct (kvPut q x kvs))) := by
  cases o with
  | dct kvs =>
    rcases ds with _ | ⟨d, _ | ⟨d2, _ | ⟨d3, r⟩⟩⟩
    · simp [bmO] at h
    · simp [bmO] at h
    · simp only [bmO] at h
      cases hk : keyD d with
      | none => rw [hk] at h; cases h
      | some q =>
        rw [hk] at h
        simp only [Option.bind_some] at h
        split at h
        · rename_i hl
          cases hg : kvGet q kvs with
          | some w => rw [hg] at h; cases h; exact ⟨kvs, d, _, q, rfl, rfl, hk, hl, .inl ⟨hg, rfl⟩⟩
          | none => rw [hg] at h; cases h; exact ⟨kvs, d, _, q, rfl, rfl, hk, hl, .inr ⟨hg, rfl, rfl⟩⟩
        · cases h
    · simp [bmO] at h
  | _ => simp [bmO] at h
theorem mb_append : MtR X "list.append" (rBm T m .append) := by
  refine mt_l (r := rAppend) mt_append ?_
  rintro x xs H Q ⟨W, τ, ms, st, d, ds, A, rd, rds, p⟩
  obtain ⟨a, q, o, e, o', rfl, hr, ho, ro, h2, p⟩ := mut_at rfl (by decide) A rd p
  obtain ⟨ys, d2, rfl, rfl, hl, rfl, rfl⟩ := bo_append h2
  obtain ⟨v, rfl, r1⟩ := rds1 rds
  cases ro with
  | lst e1 r2 z =>
    rename_i vs
    have ev := Evo.wr (H := H) (o := .lst (vs ++ [v])) (mem_at hr)
    refine ⟨q, vs, v, rfl, rfl, e1, by rw [← r2.length, sim]; exact hl, ?_⟩
    refine p _ ms _ ev (A.wr hr (.lst upd_same ((r2.append (.cons r1 .nil)).mono ev) ?_)) .non
    rw [List.length_append, List.length_singleton]; omega
theorem mb_reverse : MtR X "list.reverse" (rBm T m .reverse) := by
  refine mt_l (r := rReverse) mt_reverse ?_
  rintro x xs H Q ⟨W, τ, ms, st, d, ds, A, rd, rds, p⟩
  obtain ⟨a, q, o, e, o', rfl, hr, ho, ro, h2, p⟩ := mut_at rfl (by decide) A rd p
  obtain ⟨ys, rfl, rfl, rfl, rfl⟩ := bo_reverse h2
  cases rds
  cases ro with
  | lst e1 r2 z =>
    rename_i vs
    have ev := Evo.wr (H := H) (o := .lst vs.reverse) (mem_at hr)
    refine ⟨q, vs, rfl, rfl, e1, ?_⟩
    exact p _ ms _ ev (A.wr hr (.lst upd_same (r2.reverse.mono ev) (by rw [List.length_reverse]; exact z))) .non
theorem mb_clear : MtR X "list.clear" (rBm T m .clear) := by
  refine mt_l (r := rClear) mt_clear ?_
  rintro x xs H Q ⟨W, τ, ms, st, d, ds, A, rd, rds, p⟩
  obtain ⟨a, q, o, e, o', rfl, hr, ho, ro, h2, p⟩ := mut_at rfl (by decide) A rd p
  obtain ⟨ys, rfl, rfl, rfl, rfl⟩ := bo_clear h2
  cases rds
  cases ro with
  | lst e1 r2 z =>
    rename_i vs
    have ev := Evo.wr (H := H) (o := .lst []) (mem_at hr)
    refine ⟨q, vs, rfl, rfl, e1, ?_⟩
    exact p _ ms _ ev (A.wr hr (.lst upd_same .nil (Nat.zero_le _))) .non
theorem rds_dropLast {ms : List Addr} {H : Hp} {ds : List D} {vs : List V} (r : RDs T ms H ds vs) : RDs T ms H ds.dropLast vs.dropLast := by
  rw [List.dropLast_eq_take, List.dropLast_eq_take, r.length]
  exact r.take _
theorem mb_pop : MtR X "list.pop" (rBm T m .pop) := by
  refine mt_l (r := fun x xs H Q => rPop x xs H Q ∨ rPopAt x xs H Q) (MtR.or mt_pop mt_popAt) ?_
  rintro x xs H Q ⟨W, τ, ms, st, d, ds, A, rd, rds, p⟩
  obtain ⟨a, q, o, e, o', rfl, hr, ho, ro, h2, p⟩ := mut_at rfl (by decide) A rd p
  obtain ⟨ys, rfl, ⟨rfl, hd, rfl⟩ | ⟨i, rfl, i0, i1, hd, rfl⟩⟩ := bo_pop h2
  · cases rds
    cases ro with
    | lst e1 r2 z =>
      rename_i vs
      have hg : ys[ys.length - 1]? = some e := by rw [← List.getLast?_eq_getElem?]; exact hd
      obtain ⟨v, hv, rv⟩ := r2.get hg
      have ev := Evo.wr (H := H) (o := .lst vs.dropLast) (mem_at hr)
      refine .inl ⟨q, vs, v, rfl, rfl, e1, by rw [← r2.length]; exact hv, ?_⟩
      exact p _ ms _ ev (A.wr hr (.lst upd_same ((rds_dropLast r2).mono ev) (by rw [List.length_dropLast]; omega))) (rv.mono ev)
  · obtain ⟨v0, rfl, r1⟩ := rds1 rds
    cases r1
    cases ro with
    | lst e1 r2 z =>
      rename_i vs
      obtain ⟨v, hv, rv⟩ := r2.get hd
      have hlt : i.toNat < vs.length := (List.getElem?_eq_some_iff.mp hv).1
      have ev := Evo.wr (H := H) (o := .lst (vs.eraseIdx i.toNat)) (mem_at hr)
      refine .inr ⟨q, vs, i, i.toNat, v, rfl, rfl, e1, by omega, by omega, seqIndex_of i0 (by omega), hv, ?_⟩
      refine p _ ms _ ev (A.wr hr (.lst upd_same ((r2.eraseIdx _).mono ev) ?_)) (rv.mono ev)
      have := List.length_eraseIdx_le ys i.toNat
      omega
theorem mb_setdef : MtR X "dict.setdefault" (rBm T m .setdef) := by
  intro pins s σ H x xs v us Q I rx rs hw
  obtain ⟨W, τ, ms, st, d, ds, A, rd, rds, p⟩ := hw
  obtain ⟨a, q, o, e, o', rfl, hr, ho, ro, h2, p⟩ := mut_at rfl (by decide) A rd p
  obtain ⟨kvs, kd, xd, kk, rfl, rfl, hk, hl, hc⟩ := bo_setdef h2
  obtain ⟨v1, v2, rfl, r1, r2⟩ := rds2 rds
  obtain ⟨u1, u2, rfl, ru1, ru2⟩ := vals2 rs
  cases rx
  have ek := ky_val hk r1
  subst ek
  cases ro with
  | dct e1 rk z =>
    rename_i ks
    have hs : st.set a (.dct kvs) = st := by
      have hlt : a < st.length := (List.getElem?_eq_some_iff.mp ho).1
      apply List.ext_getElem?
      intro i
      by_cases hi : a = i
      · subst hi; rw [List.getElem?_set_self hlt]; exact ho.symm
      · rw [List.getElem?_set_ne hi]
    have hv := kv_get kk rk
    rcases hc with ⟨g, rfl⟩ | ⟨g, rfl, rfl⟩
    · rw [hs] at p
      rcases hv with ⟨d2, v3, g1, g2, g3⟩ | ⟨g1, g2⟩
      · rw [g] at g1; cases g1
        refine d_setd I e1 ru1 ru2 (by rw [← rk.length, sim]; exact hl) (fun v hv w' s' I' rw' => ?_) (fun hn => ?_)
        · rw [g2] at hv; cases hv
          exact ⟨_, H, I', rw', Pst.ok p A g3⟩
        · rw [g2] at hn; cases hn
      · rw [g] at g1; cases g1
    · rcases hv with ⟨d2, v3, g1, g2, g3⟩ | ⟨g1, g2⟩
      · rw [g] at g1; cases g1
      · refine d_setd I e1 ru1 ru2 (by rw [← rk.length, sim]; exact hl) (fun v hv => ?_) (fun hn w' s' I' rw' => ?_)
        · rw [g2] at hv; cases hv
        · have ev := Evo.wr (H := H) (o := .dK (putK ks (kyK kk) v2)) (mem_at hr)
          refine ⟨v2, _, I', rw', p _ ms _ ev (A.wr hr (.dct upd_same ((rdk_put (kv_bound hk r1) r2 rk).mono ev) ?_)) (r2.mono ev)⟩
          have h3 : (kvPut kk e kvs).length ≤ kvs.length + 1 := by
            unfold kvPut
            split
            · rw [List.length_map]; omega
            · rw [List.length_append, List.length_singleton]; exact Nat.le_refl _
          omega
theorem join_tx (a : List Nat) : ∀ ss : List (List Nat), Txt.join (tx a) (ss.map tx) = tx (joinL a ss) := by
  intro ss
  unfold Txt.join
  rw [StrLaws.glued_eq_join]
  induction ss with
  | nil => rfl
  | cons x r ih =>
    cases r with
    | nil => rfl
    | cons y r =>
      show (tx x ++ tx a ++ Str.join (tx a) ((y :: r).map tx) : Str) = tx (x ++ a ++ joinL a (y :: r))
      rw [ih, tx_app, tx_app]
theorem join_len (a : List Nat) : ∀ ss : List (List Nat), (joinL a ss).length ≤ (ss.map List.length).sum + ss.length * a.length
  | [] => by simp [joinL]
  | [x] => by simp [joinL]
  | x :: y :: r => by
    have ih := join_len a (y :: r)
    have e : joinL a (x :: y :: r) = x ++ a ++ joinL a (y :: r) := rfl
    rw [e, List.length_append, List.length_append, List.map_cons, List.sum_cons, List.length_cons, Nat.succ_mul]
    omega
theorem mb_join (hK : X.K = T.K) : MtR X "str.join" (rBm T m .join) := by
  refine mt_l mt_join ?_
  rintro x xs H Q ⟨W, τ, ms, st, d, ds, A, rd, rds, p⟩
  rw [hK]
  unfold bmR at p
  rw [if_neg (by decide), if_pos rfl] at p
  generalize hd : look st d = ld at p
  cases ld <;> first | exact p.elim | skip
  case str s0 =>
    obtain ⟨rfl, hz⟩ := vw_str rd hd
    rcases ds with _ | ⟨e, _ | ⟨e2, r⟩⟩
    · exact p.elim
    rotate_left
    · exact p.elim
    obtain ⟨v, rfl, r1⟩ := rds1 rds
    simp only [List.map_cons, List.map_nil, bmD] at p
    have key : ∀ {pa : Addr} {vs : List V} {ys : List D}, RDs T ms H ys vs → (SqL T.K H pa vs ∨ SqT T.K H pa vs) → seqOf (look st e) = some ys → ∃ a p', ∃ ys : List Str, V.str (tx s0) = V.str a ∧ [V.ref pa] = [V.ref p'] ∧ (SqL T.K H p' (ys.map V.str) ∨ SqT T.K H p' (ys.map V.str)) ∧
        (ys.map (·.length)).sum + ys.length * a.length ≤ 16777216 ∧ Q (.str (Txt.join a ys)) H := fun {pa vs ys} r2 hq hs => by
      rw [hs] at p
      simp only [Option.bind_some] at p
      cases hi : strsOf ys with
      | none => rw [hi] at p; exact p.elim
      | some ss =>
        rw [hi] at p
        simp only [Option.bind_some] at p
        obtain ⟨ev, hb⟩ := rds_strs hi r2
        subst ev
        split at p
        · rename_i d1 hq1
          split at hq1
          · cases hq1
            rename_i hsum
            refine ⟨tx s0, pa, ss.map tx, rfl, rfl, hq, ?_, ?_⟩
            · rw [List.map_map, List.length_map]
              exact hsum
            · rw [join_tx]
              exact pst_sc rfl p A (.str _ (Nat.le_trans (join_len s0 ss) hsum))
          · cases hq1
        · exact p.elim
    cases hl : look st e with
    | lst ys =>
      obtain ⟨pa, vs, rfl, q1, r2, z1⟩ := vw_lst A r1 hl
      exact key r2 (.inl q1) (by rw [hl]; rfl)
    | tup ys =>
      obtain ⟨pa, vs, rfl, q1, r2⟩ := vw_tup A r1 hl
      exact key r2 (.inr q1.sq) (by rw [hl]; rfl)
    | _ => rw [hl] at p; exact p.elim
theorem mb_get (hu : X.A.units + 1 < cLine) : MtR X "dict.get" (rBm T false .get) := by
  intro pins s σ H x xs v us Q I rx rs hw
  obtain ⟨W, τ, ms, st, d, ds, A, rd, rds, p⟩ := hw
  unfold bmR at p
  rw [if_neg (by decide), if_neg (by decide)] at p
  generalize hd : look st d = ld at p
  cases ld <;> first | exact p.elim | skip
  rename_i kvs
  rcases ds with _ | ⟨e, _ | ⟨e2, r⟩⟩
  · exact p.elim
  rotate_left
  · exact p.elim
  obtain ⟨v1, rfl, r1⟩ := rds1 rds
  obtain ⟨u, rfl, ru⟩ := vals1 rs
  obtain ⟨pa, ks, rfl, hp, rk, z1⟩ := vw_dct A rd hd
  cases rx
  simp only [bmD] at p
  cases hk : keyD e with
  | none => rw [hk] at p; exact p.elim
  | some kk =>
    rw [hk] at p
    simp only [Option.map_some] at p
    have ek := ky_val hk r1
    subst ek
    refine d_get1 hu I (.k hp) ru fun w' s' I' rw' => ⟨_, H, I', rw', ?_⟩
    rcases kv_get kk rk with ⟨d2, v3, g1, g2, g3⟩ | ⟨g1, g2⟩
    · rw [g1] at p
      rw [g2]
      exact Pst.ok p A g3
    · rw [g1] at p
      rw [g2]
      exact pst_sc rfl p A .non
theorem mb_get2 (hu : X.A.units + 1 < cLine) : MtR X "dict.get" (rBm T false .get2) := by
  intro pins s σ H x xs v us Q I rx rs hw
  obtain ⟨W, τ, ms, st, d, ds, A, rd, rds, p⟩ := hw
  unfold bmR at p
  rw [if_neg (by decide), if_neg (by decide)] at p
  generalize hd : look st d = ld at p
  cases ld <;> first | exact p.elim | skip
  rename_i kvs
  rcases ds with _ | ⟨e, _ | ⟨e2, _ | ⟨e3, r⟩⟩⟩
  · exact p.elim
  · exact p.elim
  rotate_left
  · exact p.elim
  obtain ⟨v1, v2, rfl, r1, r2⟩ := rds2 rds
  obtain ⟨u, u2, rfl, ru, ru2⟩ := vals2 rs
  obtain ⟨pa, ks, rfl, hp, rk, z1⟩ := vw_dct A rd hd
  cases rx
  simp only [bmD] at p
  cases hk : keyD e with
  | none => rw [hk] at p; exact p.elim
  | some kk =>
    rw [hk] at p
    simp only [Option.map_some] at p
    have ek := ky_val hk r1
    subst ek
    refine d_get2 hu I (.k hp) ru ru2 fun w' s' I' rw' => ⟨_, H, I', rw', ?_⟩
    rcases kv_get kk rk with ⟨d2, v3, g1, g2, g3⟩ | ⟨g1, g2⟩
    · rw [g1] at p
      rw [g2]
      exact Pst.ok p A g3
    · rw [g1] at p
      rw [g2]
      exact Pst.ok p A r2
end

/-! ### the expressions -/
theorem cb_bm {W : WX} {c : MC} {X : Cx} (g : Good T k W c X) {m : Bool} {b : Bm} (hb : bmS m b = true) : MtR X (bmI b) (rBm T m b) := by
  cases b with
  | join => exact mb_join g.K
  | get => cases m with
    | false => exact mb_get g.hu
    | true => cases hb
  | get2 => cases m with
    | false => exact mb_get2 g.hu
    | true => cases hb
  | append => exact mb_append
  | reverse => exact mb_reverse
  | pop => exact mb_pop
  | clear => exact mb_clear
  | setdef => exact mb_setdef
  | update => cases m <;> cases hb
  | index => cases m <;> cases hb
  | replace => cases m <;> cases hb
  | split => cases m <;> cases hb
theorem bm_attrs (b : Bm) : PlainAttrs (bmY b) := by
  cases b with
  | join => exact PySem.F.plainAttrs_str
  | replace => exact PySem.F.plainAttrs_str
  | split => exact PySem.F.plainAttrs_str
  | get => exact PySem.F.plainAttrs_dict
  | get2 => exact PySem.F.plainAttrs_dict
  | update => exact PySem.F.plainAttrs_dict
  | setdef => exact PySem.F.plainAttrs_dict
  | _ => exact PySem.F.plainAttrs_list
theorem bm_slot {m : Bool} {b : Bm} (hb : bmS m b = true) : Slot (bmY b) (bmN b) (bmI b) := by
  cases b with
  | join => exact PySem.F.slot_str_join
  | get => exact PySem.F.slot_dict_get
  | get2 => exact PySem.F.slot_dict_get
  | append => exact PySem.F.slot_list_append
  | reverse => exact PySem.F.slot_list_reverse
  | pop => exact PySem.F.slot_list_pop
  | clear => exact PySem.F.slot_list_clear
  | setdef => exact PySem.F.slot_dict_setdefault
  | update => cases m <;> cases hb
  | index => cases m <;> cases hb
  | replace => cases m <;> cases hb
  | split => cases m <;> cases hb
theorem bm_type {m : Bool} {b : Bm} (hb : bmS m b = true) : typeOf (.builtin (bmI b)) = pure (.type "method_descriptor") := by
  cases b with
  | join => exact PySem.F.type_str_join
  | get => exact PySem.F.type_dict_get
  | get2 => exact PySem.F.type_dict_get
  | append => exact PySem.F.type_list_append
  | reverse => exact PySem.F.type_list_reverse
  | pop => exact PySem.F.type_list_pop
  | clear => exact PySem.F.type_list_clear
  | setdef => exact PySem.F.type_dict_setdefault
  | update => cases m <;> cases hb
  | index => cases m <;> cases hb
  | replace => cases m <;> cases hb
  | split => cases m <;> cases hb
theorem bm_ty {ms : List Addr} {H : Hp} {st : Store} {b : Bm} {d : D} {x : V} (A : AH T ms st H) (rd : RD T ms H d x) (h : bmT b (look st d) = true) : tyV T.K (bmY b) x H := by
  generalize hd : look st d = ld at h
  have hs : ∀ s, ld = .str s → bmY b = "str" → tyV T.K (bmY b) x H := fun s e e2 => by
    subst e
    obtain ⟨rfl, _⟩ := vw_str rd hd
    exact e2
  have hl : ∀ s, ld = .lst s → bmY b = "list" → tyV T.K (bmY b) x H := fun s e e2 => by
    subst e
    obtain ⟨pa, vs, rfl, q1, _, _⟩ := vw_lst A rd hd
    exact .inl ⟨e2, vs, q1⟩
  have hdd : ∀ s, ld = .dct s → bmY b = "dict" → tyV T.K (bmY b) x H := fun s e e2 => by
    subst e
    obtain ⟨pa, ks, rfl, hp, _, _⟩ := vw_dct A rd hd
    exact .inr (.inr (.inl ⟨e2, .inl ⟨ks, hp⟩⟩))
  cases ld with
  | str s => cases b <;> first | (cases h; done) | exact hs s rfl rfl
  | lst s => cases b <;> first | (cases h; done) | exact hl s rfl rfl
  | dct s => cases b <;> first | (cases h; done) | exact hdd s rfl rfl
  | _ => cases b <;> cases h
theorem Pst.imp {α β : Type} {W : WX} {τ : L2.St} {ms : List Addr} {H : Hp} {r : R α} {rel : List Addr → Hp → α → β → Prop} {Q Q' : β → Hp → Prop} (h : Pst T W τ ms H r rel Q) (i : ∀ b H', Q b H' → Q' b H') : Pst T W τ ms H r rel Q' := by
  cases r with
  | ok a st => exact fun b ms' H' e A r => i _ _ (h b ms' H' e A r)
  | ex c pl st => exact h
  | bad => exact h
theorem tE_imp {W : WX} {e : E} {τ : L2.St} {H : Hp} {Q Q' : VK} (h : tE T k W e τ H Q) (i : ∀ b H', Q b H' → Q' b H') : tE T k W e τ H Q' :=
  let ⟨ms, σ, st, A, p⟩ := h; ⟨ms, σ, st, A, p.imp i⟩
theorem bm_red {W : WX} {c : MC} {X : Cx} (g : Good T k W c X) {m : Bool} {b : Bm} {a : E} {es : Es} {τ : L2.St} {H : Hp} {Q : VK} (h : tE T k W (.bm m b a es) τ H Q) :
    tE T k W a τ H fun x H1 => tyV X.K (bmY b) x H1 ∧ tA T k W es τ H1 (fun xs H2 => rBm T m b x xs H2 Q) ∧ (es = .nil → rBm T m b x [] H1 Q) := by
  obtain ⟨ms, σ, st, A, pp⟩ := h
  simp only [evE] at pp
  refine ⟨ms, σ, st, A, Pst.bind pp fun d st1 v ms1 H1 _ ev ah rd p1 => ?_⟩
  split at p1
  · rename_i ht
    refine ⟨by rw [g.K]; exact bm_ty ah rd ht, ⟨ms1, σ, st1, A.go ev ah, Pst.bind p1 fun ds st2 vs ms2 H2 _ ev2 ah2 rds p2 => ?_⟩, fun e => ?_⟩
    · exact ⟨W, τ, ms2, st2, d, ds, ah2, rd.mono ev2, rds, p2⟩
    · subst e
      exact ⟨W, τ, ms1, st1, d, [], ah, rd, .nil, p1⟩
  · exact p1.elim
theorem pe_bmE {W : WX} {c : MC} {X : Cx} (g : Good T k W c X) {m : Bool} {b : Bm} {a : E} {es : Es} {xs : List Expr} {o : Expr} {ap pos : Pos} (he : SE T k a) (ha : SA T k es) (hb : bmS m b = true) (h1 : mE c a o = true) (h3 : noSup o = true) (h4 : (ap.endLine == pos.line) = true)
    (h5 : mEs c es xs = true) (h6 : xs.length ≤ 20) : PE X (.Call (.Attribute o (bmN b) ap) xs [] pos) (tE T k W (.bm m b a es)) := by
  have hbase := noSup_ok h3 (bmN b) X.env (eval o X.env)
  cases es with
  | nil =>
    cases xs with
    | cons => simp only [mEs, Bool.false_eq_true] at h5
    | nil =>
      refine PE.imp (pe_bm0 (bm_attrs b) (bm_slot hb) (bm_type hb) (cb_bm (m := m) g hb) (he.pe W c X _ g h1) hbase h4) ?_
      intro τ H Q hq
      exact tE_imp (bm_red g hq) fun x H1 ⟨q1, q2, q3⟩ => ⟨q1, q3 rfl⟩
  | cons e r =>
    cases xs with
    | nil => simp only [mEs, Bool.false_eq_true] at h5
    | cons x xs =>
      have hm2 := h5
      simp only [mEs] at hm2
      simp only [Bool.and_eq_true, decide_eq_true_eq, Bool.not_eq_true', beq_iff_eq, bne_iff_ne, ne_eq] at hm2
      refine PE.imp (pe_bm (bm_attrs b) (bm_slot hb) (bm_type hb) (cb_bm (m := m) g hb) (he.pe W c X _ g h1) (ha.pa W c X (x :: xs) g h5) hbase (mform h5 h6) h4 (star_cons _ _ hm2.1.2) (star_none hm2.2)) ?_
      intro τ H Q hq
      exact tE_imp (bm_red g hq) fun x H1 ⟨q1, q2, q3⟩ => ⟨q1, q2⟩
theorem se_bm {m : Bool} {b : Bm} {a : E} {es : Es} (he : SE T k a) (ha : SA T k es) : SE T k (.bm m b a es) := by
  refine ⟨fun W c X x g h => ?_, no_pt fun c x => by simp only [mT]⟩
  (simp only [mE] at h; split at h <;> first | (cases h; done) | skip); (simp only [Bool.and_eq_true, decide_eq_true_eq, Bool.not_eq_true', beq_iff_eq, bne_iff_ne, ne_eq] at h)
  obtain ⟨⟨⟨⟨⟨⟨⟨h0, hb⟩, h1⟩, h2⟩, h3⟩, h4⟩, h5⟩, h6⟩ := h
  subst h2
  exact pe_bmE g he ha hb h1 h3 (by simpa using h4) h5 h6
end CT

set_option maxRecDepth 100000
/-! isinstance; targets; what is walked. -/
namespace CT
open PySem L2 PyProof.Rows
variable {T : TT} {k : Nat}

/-! ### isinstance -/
def tyS : D → String
  | .non => "NoneType" | .bl _ => "bool" | .int _ => "int" | .str _ => "str" | .tup _ => "tuple" | .lst _ => "list" | .dct _ => "dict" | _ => ""
theorem ty_of {ms : List Addr} {H : Hp} {st : Store} {d : D} {x : V} (A : AH T ms st H) (rd : RD T ms H d x) {sub : Nat → Nat → Bool} {t : Ty} {b : Bool} (hx : ∀ c pl, look st d ≠ .exc c pl) (h : isTy sub t (look st d) = some b) : TyX T.K H x (.type (tyS (look st d))) := by
  generalize hd : look st d = ld at h hx ⊢
  have lst : ∀ {p vs}, SqL T.K H p vs → TyX T.K H (.ref p) (.type "list") := fun {p vs} q => by
    rcases q with (q | ⟨o, q⟩) | ⟨o, its, n, h1, h2, _⟩
    · exact .base (.lst q)
    · exact .base (.frz q)
    · exact .kList h1 h2
  cases ld with
  | non =>
    cases d with
    | non => cases rd; exact .base .non
    | ref a =>
      simp only [look] at hd
      cases e : st[a]? with
      | none => rw [e] at hd; cases hd
      | some o => rw [e] at hd; cases o <;> cases hd
    | _ => cases hd
  | bl b => rw [vw_bl rd hd]; exact .base (.bl b)
  | int b => rw [vw_int rd hd]; exact .base (.int b)
  | str b => rw [(vw_str rd hd).1]; exact .base (.str _)
  | lst xs =>
    obtain ⟨pa, vs, rfl, q1, _, _⟩ := vw_lst A rd hd
    exact lst q1
  | tup xs =>
    obtain ⟨pa, vs, rfl, q1, _⟩ := vw_tup A rd hd
    rcases q1.sq with (q | ⟨o, q⟩) | ⟨o, its, n, h1, h2, _⟩
    · exact .base (.tup q)
    · exact .fTuple q
    · exact .kTuple h1 h2
  | dct xs =>
    obtain ⟨pa, vs, rfl, q1, _, _⟩ := vw_dct A rd hd
    exact .base (.dK q1)
  | exc c pl => exact absurd rfl (hx c pl)
  | _ => cases t <;> cases h
def tyW : Ty → String
  | .int => "int" | .str => "str" | .tup => "tuple" | .lst => "list" | .bool => "bool" | .dct => "dict" | .base => "ValueError" | .exc _ => ""
theorem kit_all {K : PySem.W.Frag} {sub : Nat → Nat → Bool} {t : Ty} {d : D} {b : Bool} (hx : ∀ c pl, d ≠ .exc c pl) (h : isTy sub t d = some b) : PySem.W.kitOne K (.type (tyS d)) (.type (tyW t)) = some b := by
  cases t <;> cases d <;> first | (cases h; done) | exact absurd rfl (hx _ _) | (cases h; exact kit_ty (by dsimp only [tyS, tyW]; decide +kernel))
theorem boot_ty {t : Ty} (h : tyOkB t = true) : bootBuiltins (tyN t) = some (.type (tyW t)) := by
  cases t <;> first | (cases h; done) | decide +kernel
theorem ty_nm {nm : Nm} (t : TOk T nm) {y : Ty} (h : tyOkB y = true) : T.mg (tyN y) = none := t.blt _ (by cases y <;> first | (cases h; done) | simp [tyN])
theorem pe_blt' {X : Cx} {x : Str} {n : String} {pos : Pos} (hg : Gl X x) (hm : X.mg x = none) (hv : bootBuiltins x = some (.type n)) (hn : x ≠ "__name__") (hd : (x == ("__debug__" : Str)) = false) : PE X (.Name x pos) (tC (.ty n)) :=
  ⟨fun pins s σ H Q I h => ld_blt I hg hm hv ⟨.ty n, H, I, rfl, h⟩ hn hd⟩
theorem boot_isi : bootBuiltins "isinstance" = some (.builtin "isinstance") := by decide +kernel
/-! exceptions -/
section
variable {prog : Program} {w : World} {A : Around} {E : Value → Shared → Prop} {s : Shared} {K : PySem.W.Frag} {x D : Addr} {ox : Obj}
theorem find_class {od : Option Obj} (c : ExcC K D) : PySem.W.findObj K D od "__class__" = some (.bind (.builtin "getset_descriptor.__get__") (.builtin "object.__class__")) := by
  obtain ⟨cd, hc, _⟩ := PySem.W.any_some c.hd
  unfold PySem.W.findObj
  rw [hc, Option.bind_some, c.ha, Option.bind_some]
  simp [c.hn, c.ht]
/-- e.__class__ of an exception, with a dict or without -/
theorem exc_class {Q : Option Value → Shared → Prop} {od : Option Obj} (c : ExcC K D) (kin : K.In s.heap) (I : PySem.W.InstAt s.heap x ox D od) (done : Q (some (.ref D)) { s with toks := s.toks + 1 }) :
    wpAny (model prog w) A (getAttr? (.ref x) "__class__") Q E s := by
  obtain ⟨hp, gs, dr, tk, os⟩ := s
  have ty := I.type (M := model prog w)
  have la := PySem.W.looks_findIn (M := model prog w) kin c.hg
  have lb := PySem.W.looks_findIn (M := model prog w) kin c.hk
  have lc := PySem.W.looks_find (M := model prog w) kin I (find_class c)
  have isx : PySem.W.Looks (model prog w) hp (isInstance (.ref x) (.type "BaseException")) true := ty.andThen (PySem.W.looks_subIn kin c.hs)
  have n0 : (false && onTheHeap (Value.builtin "BaseException.__getattribute__")) = false := rfl
  have n1 : (Value.builtin "BaseException.__getattribute__" == Value.builtin "object.__getattribute__") = false := by decide +kernel
  have n2 : (onTheHeap (Value.ref D) && Value.builtin "BaseException.__getattribute__" == Value.builtin "object.__getattribute__") = false := by rw [n1]; rfl
  unfold getAttr? getAttrBy? getAttrBy
  refine wpAny_bind (wpAny_mkText (wpAny_bind (wpAny_attempt (wpAny_holding (wpAny_bind (ty.at (wpAny_bind (la.at ?_))))))))
  show wpAny _ _ (if (onTheHeap (Value.ref D) && Value.builtin "BaseException.__getattribute__" == Value.builtin "object.__getattribute__") = true then _ else _) _ _ _
  rw [n2, if_neg Bool.false_ne_true]
  unfold getAttrByItsOwn hookBefore
  refine wpAny_bind ?_
  rw [if_pos (show onTheHeap (Value.ref D) = true from rfl)]
  refine lb.at (wpAny_bind (wpAny_attempt (wpAny_holding ?_)))
  unfold callGetattribute
  rw [n0, if_neg Bool.false_ne_true]
  unfold boundAndCalled
  rw [PySem.F.excAttr_ValueError.ga.bind (.ref x)]
  refine wpAny_bind (wpAny_pure ?_)
  show wpAny _ _ (call (.builtin "BaseException.__getattribute__") [.ref x, .str "__class__" tk]) _ _ _
  refine wpAny_call (codeAny_call_builtin PySem.F.excAttr_ValueError.ga.plain PySem.F.entry_bexc_ga ?_)
  refine @PySem.W.check_slot (model prog w) _ _ ⟨hp, gs, dr, tk + 1, os⟩ "BaseException.__getattribute__" "BaseException" "__getattribute__" (.ref x) [.str "__class__" tk] [] _ (by decide +kernel) (by decide +kernel) isx (PySem.F.args_bexc_ga (.ref x) (.str "__class__" tk)) ?_
  unfold Builtin.«object.__getattribute__»
  refine wpAny_bind (wpAny_of_eq (a := ((Value.ref x : Value), [Value.str "__class__" tk])) (by first | rfl | (simp only [slotArgs]; rfl)) ?_)
  refine wpAny_bind (wpAny_pure (wpAny_bind (ty.at (wpAny_bind (lc.at ?_)))))
  show wpAny _ _ (holding [Value.builtin "object.__class__"] (call (.builtin "getset_descriptor.__get__") [.builtin "object.__class__", .ref x, .ref D]) >>= ret) _ _ _
  refine wpAny_bind (wpAny_holding (wpAny_call (PySem.W.class_get (s := ⟨hp, gs, dr, tk + 1, os⟩) (ox := ox) (od := od) kin I c.hm ?_)))
  refine wpAny_pure ?_
  show wpAny _ _ (handedOut (.ref D)) _ _ _
  rw [PySem.W.handedOut_of (v := .ref D) rfl]
  first
    | exact wpAny_pure (wpAny_pure done)
    | exact wpAny_pure done
    | exact wpAny_pure (wpAny_bind (wpAny_pure (wpAny_pure done)))
theorem exc_kit (c : ExcC K D) : PySem.W.KitX K (.ref x) (.ref D) (fun h => ∃ od, PySem.W.InstAt h x ox D od) where
  ty := fun _ _ _ ⟨_, I⟩ => I.type
  it := fun _ _ kin _ A' Q' E' s' keep done => by
    obtain ⟨cd, hc, _⟩ := PySem.W.any_some c.hd
    unfold PySem.W.clsIn at hc
    split at hc
    · rename_i c' d' cd' sl' ho
      unfold isType loadHead
      exact wpAny_bind (wpAny_loadPart (keep _ _ (kin _ _ ho)) (wpAny_pure done))
    · cases hc
  ne := fun h tp dd its n sl kin htp => by
    obtain ⟨cd, hc, _⟩ := PySem.W.any_some c.hd
    cases q : ((Value.ref D : Value) == .ref tp) with
    | false => rfl
    | true =>
      obtain rfl : D = tp := Value.ref.inj (beq_iff_eq.mp q)
      unfold PySem.W.clsIn at hc
      split at hc
      · rename_i c' d' cd' sl' ho
        have z := (kin _ _ ho).symm.trans htp
        cases z
      · cases hc
  ca := fun kin ⟨_, I⟩ done => exc_class c kin I done
end
def rIsX (K : PySem.W.Frag) : List V → Hp → VK → Prop := fun xs H Q => ∃ (a C : Addr) (dd : Option Addr) (cv : V) (u : Value) (b : Bool), xs = [.ref a, cv] ∧ H a = some (exH (.ref C) dd a) ∧ (dd = none ∨ ∃ q fs, dd = some q ∧ H q = some (.xd fs)) ∧ ExcC K C ∧ (∀ w, RelV cv w → w = u) ∧ PySem.W.kitOne K (.ref C) u = some b ∧ Q (.bl b) H
theorem call_isX {X : Cx} : CallR X (.builtin "isinstance") (fun xs H Q => rIsi X.K xs H Q ∨ rIsX X.K xs H Q) := by
  intro pins s σ H xs us Q I r h
  rcases h with h | ⟨a, C, dd, cv, u, b, rfl, ha, hd, c, hu, kit, q⟩
  · exact call_isi pins s σ H xs us Q I r h
  · obtain ⟨u1, u2, rfl, r1, r2⟩ := vals2 r
    obtain rfl := hu _ r2
    obtain rfl : u1 = Value.ref a := r1
    obtain ⟨⟨oe, vs, ho, hz, hf⟩, _, _⟩ : ObjOk X.prog X.w H s.heap a (exH (.ref C) dd a) := I.hok a _ ha
    have inst : ∃ od, PySem.W.InstAt s.heap a oe C od := by
      rcases hd with rfl | ⟨q, fs, rfl, hq⟩
      · exact ⟨none, ho, hz.1, by unfold PySem.W.notCls; rw [hf] <;> rfl, by rw [hz.2]; trivial⟩
      · have hx : ObjOk X.prog X.w H s.heap q (.xd fs) := I.hok q _ hq
        obtain ⟨mA, hns, hr⟩ := hx
        obtain ⟨od, hod, hl⟩ := lookIn_ns hns
        exact ⟨some od, ho, hz.1, by unfold PySem.W.notCls; rw [hf] <;> rfl, by rw [hz.2]; exact hod⟩
    exact PySem.W.kia_one (exc_kit (ox := oe) c) I.kIn inst kit (fun z => nomatch z) fun tk => ⟨.bl b, H, I.tok tk, rfl, q⟩
theorem xx_of {ms : List Addr} {H : Hp} {d : D} {v : V} {c : Nat} {pl : List D} {st : Store} (A : AH T ms st H) (rd : RD T ms H d v) (h : look st d = .exc c pl) : ∃ p dd, v = .ref p ∧ H p = some (exH (.ref (T.xa c)) dd p) ∧ (dd = none ∨ ∃ q fs, dd = some q ∧ H q = some (.xd fs)) := by
  cases rd with
  | exc n hp rx =>
    cases h
    refine ⟨_, _, rfl, hp, ?_⟩
    cases rx with
    | no => exact .inl rfl
    | one _ _ hq _ => exact .inr ⟨_, _, rfl, hq⟩
  | ref hp =>
    rename_i a p
    simp only [look] at h
    cases e : st[a]? with
    | none => rw [e] at h; cases h
    | some o => rw [e] at h; cases o <;> cases h
  | _ => cases h
/-- the class that is asked for -/
theorem ty_arg {W : WX} {c : MC} {X : Cx} (g : Good T k W c X) {t : Ty} {z : Str} {p2 : Pos} (hgz : glbB c z = true) (ht : tyNB c.nm t z = true) :
    ∃ cv u, PE X (.Name z p2) (tC cv) ∧ (∀ w, RelV cv w → w = u) ∧ ((tyOkB t = true ∧ cv = .ty (tyW t) ∧ u = .type (tyW t)) ∨ ∃ j, t = .exc j ∧ u = .ref (T.xa j) ∧ T.P.sub j j = true) := by
  obtain ⟨z1, z2, z3⟩ := g.gl hgz
  by_cases h : tyOkB t = true
  · have hz : z = tyN t := by
      cases t <;> first | (cases h; done) | exact of_decide_eq_true ht
    subst hz
    exact ⟨.ty (tyW t), .type (tyW t), pe_blt' z1 (by rw [g.mg]; exact ty_nm g.tok h) (boot_ty h) z3 z2, fun w q => q, .inl ⟨h, rfl, rfl⟩⟩
  · cases t with
    | exc j =>
      simp only [tyNB, Bool.and_eq_true, decide_eq_true_eq, Bool.not_eq_true'] at ht
      obtain ⟨rfl, hne⟩ := ht
      obtain ⟨gx, okc⟩ := g.tok.xg j (by simpa using hne)
      exact ⟨.ref (T.xa j), .ref (T.xa j), ⟨fun pins s σ H Q I q => ld_glob I z1 (by rw [g.mg]; exact gx) ⟨.ref (T.xa j), H, I, rfl, q⟩ z2⟩, fun w q => q, .inr ⟨j, rfl, rfl, okc⟩⟩
    | _ => exact absurd rfl h
theorem pe_isi {W : WX} {c : MC} {X : Cx} (g : Good T k W c X) {a : E} {t : Ty} {x z : Str} {y : Expr} {p p2 pos : Pos} (ha : SE T k a) (hx : x = ("isinstance" : Str)) (hgx : glbB c x = true) (hgz : glbB c z = true) (hy : mE c a y = true) (hst : noStar y = true) (ht : tyNB c.nm t z = true) :
    PE X (.Call (.Name x p) [y, .Name z p2] [] pos) (tE T k W (.isi a t)) := by
  subst hx
  obtain ⟨g1, g2, g3⟩ := g.gl hgx
  have s2 : starEach [Expr.Name z p2] X.env = (false, eval (.Name z p2) X.env) :: starEach [] X.env := rfl
  obtain ⟨cv, u, hz, hu, hc⟩ := ty_arg (p2 := p2) g hgz ht
  refine PE.imp (pe_callB call_isX g1 (by rw [g.mg]; exact g.tok.blt _ (by simp)) boot_isi (pa_cons (ha.pe W c X _ g hy) (pa_cons hz pa_nil s2) (star_cons _ _ hst)) g3 g2 (star_cons _ _ hst) (by rw [s2]; rfl)) ?_
  rintro τ H Q ⟨ms, σ, st, A, pp⟩
  simp only [evE] at pp
  refine ⟨ms, σ, st, A, Pst.bind pp fun d st1 v ms1 H1 _ ev ah rd p1 => ?_⟩
  cases hi : isTy T.P.sub t (look st1 d) with
  | none => rw [hi] at p1; exact p1.elim
  | some b =>
    rw [hi] at p1
    have qq : Q (.bl b) H1 := Pst.ok p1 ah (.bl b)
    by_cases hxx : ∃ cc pl, look st1 d = .exc cc pl
    · obtain ⟨cc, pl, hl⟩ := hxx
      rw [hl] at hi
      obtain ⟨q, dd, rfl, hq, hdd⟩ := xx_of ah rd hl
      rcases hc with ⟨ok, rfl, rfl⟩ | ⟨j, rfl, rfl, okj⟩
      · cases t with
        | base =>
          simp only [isTy] at hi
          by_cases hs : T.P.sub cc cc = true
          · rw [if_pos hs] at hi
            cases hi
            exact .inr ⟨q, _, dd, _, _, true, rfl, hq, hdd, by rw [g.K]; exact g.tok.xc cc hs, hu, by rw [g.K]; exact g.tok.xb cc hs, qq⟩
          · rw [if_neg hs] at hi; cases hi
        | exc j => cases ok
        | _ => cases hi
      · simp only [isTy] at hi
        by_cases hs : (T.P.sub cc cc && T.P.sub j j) = true
        · rw [if_pos hs] at hi
          rw [Bool.and_eq_true] at hs
          cases hi
          exact .inr ⟨q, _, dd, _, _, _, rfl, hq, hdd, by rw [g.K]; exact g.tok.xc cc hs.1, hu, by rw [g.K]; exact g.tok.xk cc j hs.1 hs.2, qq⟩
        · rw [if_neg hs] at hi; cases hi
    · have hx : ∀ c pl, look st1 d ≠ .exc c pl := fun c pl z => hxx ⟨c, pl, z⟩
      rcases hc with ⟨ok, rfl, rfl⟩ | ⟨j, rfl, rfl, okj⟩
      · refine .inl ⟨v, .ty (tyW t), .type (tyS (look st1 d)), .type (tyW t), b, rfl, .ty _, ?_, kit_all hx hi, qq⟩
        rw [g.K]; exact ty_of ah rd hx hi
      · exfalso
        cases hl : look st1 d with
        | exc c pl => exact hx c pl hl
        | _ => rw [hl] at hi; cases hi
theorem se_isi {a : E} {t : Ty} (ha : SE T k a) : SE T k (.isi a t) := by
  refine ⟨fun W c X x g h => ?_, fun W c X x g h => ?_⟩
  · (simp only [mE] at h; split at h <;> first | (cases h; done) | skip); (simp only [Bool.and_eq_true, decide_eq_true_eq, Bool.not_eq_true', beq_iff_eq, bne_iff_ne, ne_eq] at h)
    obtain ⟨⟨⟨⟨⟨h1, h2⟩, h3⟩, h4⟩, h5⟩, h6⟩ := h
    exact pe_isi g ha h1 h2 h3 h4 h5 h6
  · (simp only [mT] at h; split at h <;> first | (cases h; done) | skip); (try simp only [Bool.and_eq_true, decide_eq_true_eq, Bool.not_eq_true', beq_iff_eq, bne_iff_ne, ne_eq] at h)
    obtain ⟨⟨⟨⟨⟨h1, h2⟩, h3⟩, h4⟩, h5⟩, h6⟩ := h
    exact pt_of (pe_isi g ha h1 h2 h3 h4 h5 h6) rfl

/-! ### targets -/
/-- only these slots differ -/
structure Slt (is : List Nat) (τ τ' : L2.St) : Prop where
  len : τ'.length = τ.length
  at_ : ∀ j, j ∉ is → τ'[j]? = τ[j]?
theorem Slt.refl (is : List Nat) (τ : L2.St) : Slt is τ τ := ⟨rfl, fun _ _ => rfl⟩
theorem Slt.trans {is js : List Nat} {a b c : L2.St} (h : Slt is a b) (h2 : Slt js b c) : Slt (is ++ js) a c := ⟨h2.len.trans h.len, fun j hj => by
  rw [List.mem_append, not_or] at hj
  rw [h2.at_ j hj.2, h.at_ j hj.1]⟩
theorem Slt.set (τ : L2.St) (i : Nat) (v : V) : Slt [i] τ (τ.set i (some v)) := ⟨by simp, fun j hj => by
  rw [List.getElem?_set_ne]
  intro e; subst e; exact hj (List.mem_singleton.mpr rfl)⟩
/-- a target's reading -/
def tG (T : TT) (g : G) : TG := fun v τ H Q => ∃ ms σ st d σ1, At T σ st ms τ H ∧ RD T ms H d v ∧ bindG g d σ = some σ1 ∧ ∀ ms' τ' H', Evo ms H ms' H' → AH T ms' st H' → AS T ms' H' σ1 τ' → Slt (slotsG g) τ τ' → Q τ' H'
def tGs (T : TT) (gs : List G) : TGs := fun vs τ H Q => ∃ ms σ st ds σ1, At T σ st ms τ H ∧ RDs T ms H ds vs ∧ bindGs gs ds σ = some σ1 ∧ ∀ ms' τ' H', Evo ms H ms' H' → AH T ms' st H' → AS T ms' H' σ1 τ' → Slt (slotsG.slotsGs gs) τ τ' → Q τ' H'
theorem PG.imp {X : Cx} {e : Expr} {t t' : TG} (h : PG X e t) (i : ∀ v σ H Q, t' v σ H Q → t v σ H Q) : PG X e t' := ⟨fun pins s σ H v u Q I r hq => h.run pins s σ H v u Q I r (i _ _ _ _ hq)⟩
theorem PGs.imp {X : Cx} {e : List Expr} {t t' : TGs} (h : PGs X e t) (i : ∀ v σ H Q, t' v σ H Q → t v σ H Q) : PGs X e t' := ⟨fun pins s σ H v u Q I r hq => h.run pins s σ H v u Q I r (i _ _ _ _ hq)⟩
theorem assign_cons {e : Expr} (es : List Expr) (env : PySem.Env) (h : noStar e = true) : assignEach (e :: es) env = (false, assign e env) :: assignEach es env := by
  cases e <;> first | rfl | (simp [noStar] at h)
theorem mGs_star {c : MC} {env : PySem.Env} : ∀ {gs : List G} {xs : List Expr}, mGs c gs xs = true → (assignEach xs env).length = gs.length ∧ (assignEach xs env).findIdx? (·.1) = none
  | [], [], _ => ⟨rfl, rfl⟩
  | [], _ :: _, h => by simp [mGs] at h
  | _ :: _, [], h => by simp [mGs] at h
  | g :: gs, x :: xs, h => by
    simp only [mGs, Bool.and_eq_true] at h
    rw [assign_cons _ _ h.1.2]
    obtain ⟨h1, h2⟩ := mGs_star (env := env) h.2
    exact ⟨by simp [h1], by rw [List.findIdx?_cons]; simp [h2]⟩
theorem pg_tol {X : Cx} {pos : Pos} {es : List Expr} {k : Nat} {t : TGs} {n : Nat} (hc : X.calm = true) (h : PGs X es t)
    (hn : (assignEach es X.env).length = n) (hst : (assignEach es X.env).findIdx? (·.1) = none) : PG X (.Tuple es k pos) (fun v σ H Q => gTup X.K n t v σ H Q ∨ gLst X.K n t v σ H Q) :=
  ⟨fun pins s σ H v u Q I r hw => hw.elim (fun hw => (pg_tup hc h hn hst).run pins s σ H v u Q I r hw) fun hw => (pg_lst hc h hn hst).run pins s σ H v u Q I r hw⟩
theorem binds_len : ∀ (gs : List G) (ds : List D) (σ σ1 : Env), bindGs gs ds σ = some σ1 → ds.length = gs.length := by
  intro gs
  induction gs with
  | nil => intro ds σ σ1 h; cases ds <;> first | rfl | (simp [bindGs] at h)
  | cons g gs ih =>
    intro ds σ σ1 h
    cases ds with
    | nil => simp [bindGs] at h
    | cons d ds =>
      simp only [bindGs] at h
      cases e : bindG g d σ with
      | none => rw [e] at h; cases h
      | some s => rw [e] at h; exact congrArg (· + 1) (ih ds s σ1 h)
/-- what is unpacked may stand in the store -/
def tGL (T : TT) (gs : List G) : TG := fun v τ H Q => ∃ ms σ st d σ1, At T σ st ms τ H ∧ RD T ms H d v ∧ bindG (.tp gs) (look st d) σ = some σ1 ∧ ∀ ms' τ' H', Evo ms H ms' H' → AH T ms' st H' → AS T ms' H' σ1 τ' → Slt (slotsG (.tp gs)) τ τ' → Q τ' H'
theorem tgl_use {X : Cx} {gs : List G} (hK : X.K = T.K) {v : V} {τ : L2.St} {H : Hp} {Q : L2.St → Hp → Prop} (h : tGL T gs v τ H Q) : gTup X.K gs.length (tGs T gs) v τ H Q ∨ gLst X.K gs.length (tGs T gs) v τ H Q := by
  obtain ⟨ms, σ, st, d, σ1, A, rd, hb, q⟩ := h
  rw [hK]
  generalize hd : look st d = ld at hb
  cases ld with
  | tup ds =>
    simp only [bindG] at hb
    obtain ⟨p, vs, rfl, f, r⟩ := vw_tup A.ah rd hd
    exact .inl ⟨p, vs, rfl, f.sq, by rw [← r.length]; exact binds_len gs ds σ σ1 hb, ms, σ, st, ds, σ1, A, r, hb, q⟩
  | lst ds =>
    simp only [bindG] at hb
    obtain ⟨p, vs, rfl, f, r, _⟩ := vw_lst A.ah rd hd
    exact .inr ⟨p, vs, rfl, f, by rw [← r.length]; exact binds_len gs ds σ σ1 hb, ms, σ, st, ds, σ1, A, r, hb, q⟩
  | _ => simp [bindG] at hb
mutual
theorem pg_g {W : WX} {c : MC} {X : Cx} (g : Good T k W c X) : ∀ (tg : G) (e : Expr), mG c tg e = true → PG X e (tG T tg)
  | .nm i, e, h => by
    cases e with
    | Name x p =>
      simp only [mG, Bool.and_eq_true, decide_eq_true_eq] at h
      refine PG.imp (pg_name (i := i) (by rw [g.N]; exact g.nd) (by rw [g.N]; exact h.1.1) (by rw [g.sc]; exact loc_of h.1.2) (g.stor x h.2)) ?_
      rintro v τ H Q ⟨ms, σ, st, d, σ1, A, rd, hb, q⟩
      simp only [bindG] at hb
      cases hb
      exact q ms _ H .refl A.ah (A.as.set rd i) (Slt.set _ _ _)
    | _ => simp [mG] at h
  | .tp gs, e, h => by
    cases e with
    | Tuple xs kk p =>
      simp only [mG, Bool.and_eq_true, decide_eq_true_eq] at h
      obtain ⟨h1, h2⟩ := mGs_star (env := X.env) h.1.2
      refine PG.imp (pg_tol (n := gs.length) (g.calm h.1.1) (pgs_g g gs xs h.1.2) h1 h2) ?_
      rintro v τ H Q ⟨ms, σ, st, d, σ1, A, rd, hb, q⟩
      have hd : look st d = d := by cases d <;> first | rfl | (simp [bindG] at hb)
      exact tgl_use g.K ⟨ms, σ, st, d, σ1, A, rd, by rw [hd]; exact hb, q⟩
    | _ => simp [mG] at h
theorem pgs_g {W : WX} {c : MC} {X : Cx} (g : Good T k W c X) : ∀ (gs : List G) (es : List Expr), mGs c gs es = true → PGs X es (tGs T gs)
  | [], [], _ => by
    refine PGs.imp pgs_nil ?_
    rintro vs τ H Q ⟨ms, σ, st, ds, σ1, A, rd, hb, q⟩
    cases ds with
    | nil => cases rd; simp only [bindGs] at hb; cases hb; exact ⟨rfl, q ms τ H .refl A.ah A.as (.refl _ _)⟩
    | cons => simp [bindGs] at hb
  | [], _ :: _, h => by simp [mGs] at h
  | _ :: _, [], h => by simp [mGs] at h
  | tg :: gs, x :: xs, h => by
    simp only [mGs, Bool.and_eq_true] at h
    refine PGs.imp (pgs_cons (pg_g g tg x h.1.1) (pgs_g g gs xs h.2) (by rw [assign_cons _ _ h.1.2]; rfl)) ?_
    rintro vs τ H Q ⟨ms, σ, st, ds, σ1, A, rd, hb, q⟩
    cases ds with
    | nil => simp [bindGs] at hb
    | cons d ds =>
      cases rd with
      | cons r s =>
        rename_i v vs
        simp only [bindGs] at hb
        cases e : bindG tg d σ with
        | none => rw [e] at hb; cases hb
        | some σ2 =>
          rw [e] at hb
          refine ⟨v, vs, rfl, ms, σ, st, d, σ2, A, r, e, fun ms2 τ2 H2 ev ah as sl => ?_⟩
          exact ⟨ms2, σ2, st, ds, σ1, ⟨ah, as⟩, s.mono ev, hb, fun ms3 τ3 H3 ev3 ah3 as3 sl3 => q ms3 τ3 H3 (ev.trans ev3) ah3 as3 (sl.trans sl3)⟩
end
theorem pg_gL {W : WX} {c : MC} {X : Cx} (g : Good T k W c X) (gs : List G) (xs : List Expr) (kk : Nat) (p : Pos) (h : mG c (.tp gs) (.Tuple xs kk p) = true) : PG X (.Tuple xs kk p) (tGL T gs) := by
  simp only [mG, Bool.and_eq_true, decide_eq_true_eq] at h
  obtain ⟨h1, h2⟩ := mGs_star (env := X.env) h.1.2
  exact PG.imp (pg_tol (n := gs.length) (g.calm h.1.1) (pgs_g g gs xs h.1.2) h1 h2) fun v τ H Q q => tgl_use g.K q
end CT

set_option maxRecDepth 100000
/-! zip of a list and a tuple, any way about. -/
namespace CT
open PySem L2 PyProof.Rows
variable {T : TT} {k : Nat}
def SqK (K : PySem.W.Frag) (t : Bool) (H : Hp) (a : Addr) (xs : List V) : Prop := match t with
  | true => SqT K H a xs
  | false => SqL K H a xs
def ItK (t : Bool) (h : Heap) (it a : Addr) (i : Nat) : Prop := match t with
  | true => h.IsTupleIter it a i
  | false => h.IsListIter it a i
theorem ItK.at {t : Bool} {h h' : Heap} {it a : Addr} {i : Nat} (x : ItK t h it a i) (k : ∀ o, h.get? it = some o → h'.get? it = some o) : ItK t h' it a i := by
  cases t with
  | true => exact Heap.IsTupleIter.at x k
  | false => exact Heap.IsListIter.at x k
theorem ItK.obj {t : Bool} {h : Heap} {it a : Addr} {i : Nat} (x : ItK t h it a i) : ∃ o, h.get? it = some o ∧ ∀ v, o.data ≠ .cell v := by
  cases t with
  | true => obtain ⟨o, e, c, d⟩ := x; exact ⟨o, e, fun v z => by rw [d] at z; cases z⟩
  | false => obtain ⟨o, e, c, d⟩ := x; exact ⟨o, e, fun v z => by rw [d] at z; cases z⟩
theorem SqK.inj {X : Cx} {pins : List (Addr × Obj)} {σ : L2.St} {H : Hp} {s : Shared} {t : Bool} {a : Addr} {xs ys : List V} (I : Inv X pins σ H s) (h : SqK X.K t H a xs) (h2 : SqK X.K t H a ys) : xs = ys := by
  cases t with
  | true => exact I.tuple_inj h h2
  | false => exact I.list_inj h h2
theorem side {X : Cx} {pins : List (Addr × Obj)} {σ : L2.St} {H : Hp} {s : Shared} {A : Around} (hh : A.handled = none) (t : Bool) (it a : Addr) (hne : a ≠ it) {xs : List V} (I : Inv X pins σ H s) (q : SqK X.K t H a xs) :
    ∃ (its : List Value) (St : Nat → Heap → Prop), Vals xs its ∧ Draws X.prog X.w A it [it, a] its.length (fun i v => its[i]? = some v) St ∧ (∀ i, ItK t s.heap it a i → St i s.heap) ∧ ∀ i h, St i h → ItK t h it a i := by
  cases t with
  | true =>
    obtain ⟨its, rv, p, _⟩ := I.tuple q
    have D := Draws.tuple (prog := X.prog) (w := X.w) hh it a hne its.toArray
    exact ⟨its, fun i h => h.IsTupleIter it a i ∧ h.IsTuple a its.toArray, rv, by simpa using D, fun i h => ⟨h, p⟩, fun i h st => st.1⟩
  | false =>
    obtain ⟨its, rv, p, _⟩ := I.list q
    have D := Draws.list (prog := X.prog) (w := X.w) hh it a hne its.toArray
    exact ⟨its, fun i h => h.IsListIter it a i ∧ h.IsList a its.toArray, rv, by simpa using D, fun i h => ⟨h, p.isList⟩, fun i h st => st.1⟩
def IzM (K : PySem.W.Frag) (t1 t2 : Bool) (a b : Addr) : It :=
  ⟨fun i H => ∃ (xs ys : List V) (x y : V), SqK K t1 H a xs ∧ SqK K t2 H b ys ∧ xs[i]? = some x ∧ ys[i]? = some y,
    fun i H v H' => ∃ T x y, v = .ref T ∧ H T = none ∧ H' = upd H T (.tup [x, y]) ∧ (∀ xs, SqK K t1 H a xs → xs[i]? = some x) ∧ ∀ ys, SqK K t2 H b ys → ys[i]? = some y,
    fun i H => ∃ xs ys : List V, SqK K t1 H a xs ∧ SqK K t2 H b ys ∧ i ≤ xs.length ∧ i ≤ ys.length ∧ (xs.length = i ∨ ys.length = i)⟩
theorem zsep {z TI TO i1 i2 a b : Addr} (D : ZipApart z TI TO i1 i2 a b) : ZipSep2 z TI TO i1 i2 [i1, a] [i2, b] where
  TIz := D.TIz
  TOz := D.TOz
  TITO := D.TITO
  TIi1 := D.TIi1
  mem1 := by simp
  zf1 := by simp [Ne.symm D.i1z, Ne.symm D.l1z]
  Tf1 := by simp [D.TOi1, Ne.symm D.l1TO]
  TIi2 := D.TIi2
  mem2 := by simp
  zf2 := by simp [Ne.symm D.i2z, Ne.symm D.l2z]
  Tf2 := by simp [D.TOi2, Ne.symm D.l2TO]
  sep1_2 := by simp [D.i12, Ne.symm D.l2i1]
  sep2_1 := by simp [Ne.symm D.i12, Ne.symm D.l1i2]
theorem turn_zipM {P : Program} {w : World} {K : PySem.W.Frag} {elts : List Expr} {kk : Nat} {tpos : Pos} {t1 t2 : Bool} {a b z TI TO i1 i2 : Addr} (D : ZipApart z TI TO i1 i2 a b) :
    Turn P w K (.Tuple elts kk tpos) (IzM K t1 t2 a b) [z, TI, TO, i1, i2] z (fun i h => IsZip h z TI TO .none ∧ IsTupOf2 h TI (.ref i1) (.ref i2) ∧ (∃ x y, IsTupOf2 h TO x y) ∧ ItK t1 h i1 a i ∧ ItK t2 h i2 b i) where
  mem := by simp
  obj := fun i h st c hc => by
    obtain ⟨hz, hTI, ⟨x, y, hTO⟩, h1, h2⟩ := st
    have e' : c = z ∨ c = TI ∨ c = TO ∨ c = i1 ∨ c = i2 := by simpa using hc
    rcases e' with q | q | q | q | q
    · rw [q]; exact ⟨_, hz, fun v q => nomatch q⟩
    · rw [q]; exact ⟨_, hTI, fun v q => nomatch q⟩
    · rw [q]; exact ⟨_, hTO, fun v q => nomatch q⟩
    · rw [q]; exact h1.obj
    · rw [q]; exact h2.obj
  keep := fun i h h' st k => by
    obtain ⟨hz, hTI, ⟨x, y, hTO⟩, h1, h2⟩ := st
    exact ⟨k z (by simp) _ hz, k TI (by simp) _ hTI, ⟨x, y, k TO (by simp) _ hTO⟩, h1.at fun o q => k i1 (by simp) o q, h2.at fun o q => k i2 (by simp) o q⟩
  item := by
    intro X hP hw hK hc i pins s σ H E I hf st hg
    subst hP hw hK
    obtain ⟨hz, hTI, ⟨x0, y0, hTO⟩, h1, h2⟩ := st
    obtain ⟨xs, ys, x, y, hqx, hqy, hx, hy⟩ := hg
    have hh : X.A.in1.handled = none := I.ok.hd hc
    obtain ⟨its, St1, rv, D1, in1, out1⟩ := side (A := X.A.in1) hh t1 i1 a D.l1i1 I hqx
    obtain ⟨its2, St2, rv2, D2, in2, out2⟩ := side (A := X.A.in1) hh t2 i2 b D.l2i2 I hqy
    obtain ⟨u, hu, ru⟩ := rv.get hx
    obtain ⟨u2, hu2, ru2⟩ := rv2.get hy
    have hzl : z < s.heap.objs.size := Heap.lt_size hz
    refine wpAny_pyNext_zipD2_item (zsep D) D1 D2 hz hTI hTO (in1 i h1) (in2 i h2) (List.getElem?_eq_some_iff.mp hu).1 (List.getElem?_eq_some_iff.mp hu2).1 fun x1 x2 h' tk y1 y2 z' TO' h1' h2' hT hsz hk => ?_
    rw [hu] at y1; cases y1
    rw [hu2] at y2; cases y2
    refine ⟨_, rfl, wpAny_letOwnedTupleGo_zip (s := { s with heap := h', toks := tk }) z' fun h'' z'' sb => ?_⟩
    have hT2 : h''.get? s.heap.objs.size = some { cls := .type "tuple", data := .seq #[u, u2] } := (sb.2 _ (Nat.ne_of_gt hzl)).trans hT
    have new : ObjOk X.prog X.w (upd H s.heap.objs.size (.tup [x, y])) h'' s.heap.objs.size (.tup [x, y]) :=
      ⟨by show 2 ≤ sizeLine; decide, [u, u2], .cons ru (.cons ru2 .nil), ⟨_, hT2, rfl, _, rfl⟩⟩
    have I1 : Inv X pins σ (upd H s.heap.objs.size (.tup [x, y])) { s with heap := h'', toks := tk } :=
      I.turnedNew (t' := tk) (ch := [z, TI, TO, i1, i2]) (fun c o hb q => (sb.2 c (fun q' => hb (by simp [q']))).trans (hk c o (fun q' => hb (by simp [q'])) (fun q' => hb (by simp [q'])) (fun q' => hb (by simp [q'])) (fun q' => hb (by simp [q'])) q)) hf (Nat.le_refl _) new
    refine ⟨.ref s.heap.objs.size, _, I1, rfl, ⟨_, x, y, rfl, I.hok.fresh (Nat.le_refl _), rfl, fun l hl => by rw [SqK.inj I hl hqx]; exact hx, fun l hl => by rw [SqK.inj I hl hqy]; exact hy⟩, ⟨z'', ?_, ⟨u, u2, ?_⟩, ?_, ?_⟩, fun c hcm => ?_⟩
    · exact (sb.2 _ D.TIz).trans (hk _ _ D.TIz D.TITO D.TIi1 D.TIi2 hTI)
    · exact (sb.2 _ D.TOz).trans TO'
    · exact (out1 _ _ h1').at fun o q => (sb.2 _ D.i1z).trans q
    · exact (out2 _ _ h2').at fun o q => (sb.2 _ D.i2z).trans q
    · have hlt : c < s.heap.objs.size := by
        have e' : c = z ∨ c = TI ∨ c = TO ∨ c = i1 ∨ c = i2 := by simpa using hcm
        rcases e' with q | q | q | q | q
        · rw [q]; exact hzl
        · rw [q]; exact Heap.lt_size hTI
        · rw [q]; exact Heap.lt_size hTO
        · rw [q]; obtain ⟨_, e1, _⟩ := h1.obj; exact Heap.lt_size e1
        · rw [q]; obtain ⟨_, e2, _⟩ := h2.obj; exact Heap.lt_size e2
      rw [upd_ne (Nat.ne_of_lt hlt)]
      exact (hf c hcm).1
  done := by
    intro X hP hw hK hc i pins s σ H E I hf st hg
    subst hP hw hK
    obtain ⟨hz, hTI, ⟨x0, y0, hTO⟩, h1, h2⟩ := st
    obtain ⟨xs, ys, hqx, hqy, l1, l2, hend⟩ := hg
    have hh : X.A.in1.handled = none := I.ok.hd hc
    obtain ⟨its, St1, rv, D1, in1, out1⟩ := side (A := X.A.in1) hh t1 i1 a D.l1i1 I hqx
    obtain ⟨its2, St2, rv2, D2, in2, out2⟩ := side (A := X.A.in1) hh t2 i2 b D.l2i2 I hqy
    have e1 := rv.length
    have e2 := rv2.length
    exact wpAny_pyNext_zipD2_end (zsep D) D1 D2 hz hTI hTO (in1 i h1) (in2 i h2) (by omega) (by omega) (by omega) fun h' tk hk => ⟨rfl, I.turnedL (t' := tk) (ch := [z, TI, TO, i1, i2]) (fun c o hb q =>
      hk c o (fun q' => hb (by simp [q'])) (fun q' => hb (by simp [q'])) (fun q' => hb (by simp [q'])) (fun q' => hb (by simp [q'])) q) hf⟩
  self := fun A i s Q E st h => wpAny_pyIter_zip st.1 h
def iZipM (K : PySem.W.Frag) (ta : TA) : TI := fun σ H R => ta σ H fun vs H1 => ∃ a b xs ys t1 t2, vs = [.ref a, .ref b] ∧ SqK K t1 H1 a xs ∧ SqK K t2 H1 b ys ∧ R (IzM K t1 t2 a b) H1
def itO (t : Bool) (a : Addr) : Obj := match t with
  | true => { cls := .type "tuple_iterator", data := .fields #[.ref a, .int 0 0] }
  | false => { cls := .type "list_iterator", data := .fields #[.ref a, .int 0 0] }
theorem begs {X : Cx} {pins : List (Addr × Obj)} {σ : L2.St} {H : Hp} {s : Shared} {t : Bool} {a : Addr} {xs : List V} (I : Inv X pins σ H s) (q : SqK X.K t H a xs) : ∃ H1 : Heap → Prop, Begins (.ref a) (itO t a) H1 ∧ H1 s.heap ∧ a < s.heap.objs.size := by
  cases t with
  | true =>
    obtain ⟨its, rv, p, _⟩ := I.tuple q
    obtain ⟨o, ho, _⟩ := id p
    exact ⟨_, begins_tuple a its.toArray, p, Heap.lt_size ho⟩
  | false =>
    obtain ⟨its, rv, p, _⟩ := I.list q
    exact ⟨_, begins_list a its.toArray, p.isList, p.lt⟩
theorem itk0 {h : Heap} {t : Bool} {it a : Addr} (e : h.get? it = some (itO t a)) : ItK t h it a 0 := by
  cases t with
  | true => exact ⟨_, e, rfl, rfl⟩
  | false => exact ⟨_, e, rfl, rfl⟩
theorem pi_zipM {X : Cx} {e e2 : Expr} {ta : TA} {p pos tpos : Pos} {elts : List Expr} {kk : Nat} (hg : Gl X "zip") (hm : X.mg "zip" = none) (ha : PA X [e, e2] ta)
    (hs : starEach [e, e2] X.env = (false, eval e X.env) :: starEach [e2] X.env) (hpl : (backTo pos (starEach [e2] X.env)).any (·.1) = false) :
    PI X (.Tuple elts kk tpos) (.Call (.Name "zip" p) [e, e2] [] pos) (iZipM X.K ta) := by
  refine ⟨fun pins s σ H R I h => ?_⟩
  refine Call_ (ld_blt I hg hm PyProof.Rows.boot_zip (PyProof.Rows.callWith_type1 (thn (ha.run pos pins s σ H _ I h) fun us s1 ⟨vs, H1, I1, r1, q1⟩ => ?_) hs hpl))
  obtain ⟨a, b, xs, ys, t1, t2, ex, hqx, hqy, q⟩ := q1
  subst ex
  cases r1 with
  | cons r rr =>
    cases rr with
    | cons r' rr =>
      cases rr
      cases r
      cases r'
      obtain ⟨C1, B1, b1, la⟩ := begs I1 hqx
      obtain ⟨C2, B2, b2, lb⟩ := begs I1 hqy
      refine zip_begins2 B1 B2 b1 b2 fun h' hz hTI hTO h1 h2 hsz hk => wpAny_pyIter_zip hz ?_
      have I2 : Inv X pins σ H1 { s1 with heap := h' } := I1.kept (t' := s1.toks) hk
      refine ⟨s1.heap.objs.size + 4, [s1.heap.objs.size + 4, s1.heap.objs.size + 2, s1.heap.objs.size + 3, s1.heap.objs.size, s1.heap.objs.size + 1], _, _, H1, rfl, I2, turn_zipM (PySem.W.ktu_apart s1.heap.objs.size a b la lb), ⟨hz, hTI, ⟨_, _, hTO⟩, itk0 h1, itk0 h2⟩, fun c hcm => ?_, q⟩
      have e' : c = s1.heap.objs.size + 4 ∨ c = s1.heap.objs.size + 2 ∨ c = s1.heap.objs.size + 3 ∨ c = s1.heap.objs.size ∨ c = s1.heap.objs.size + 1 := by simpa using hcm
      have hle : s1.heap.objs.size ≤ c := by
        rcases e' with z | z | z | z | z
        · rw [z]; exact Nat.le_add_right _ _
        · rw [z]; exact Nat.le_add_right _ _
        · rw [z]; exact Nat.le_add_right _ _
        · rw [z]; exact Nat.le_refl _
        · rw [z]; exact Nat.le_add_right _ _
      exact I1.fpOk hle (I1.hok.fresh hle)

/-! ### enumerate of a list or a tuple -/
def IteK (K : PySem.W.Frag) (t : Bool) (a : Addr) : It :=
  ⟨fun i H => ∃ (xs : List V) (x : V), SqK K t H a xs ∧ xs[i]? = some x, fun i H v H' => ∃ T x, v = .ref T ∧ H T = none ∧ H' = upd H T (.tup [.int (i : Nat), x]) ∧ ∀ xs, SqK K t H a xs → xs[i]? = some x, fun i H => ∃ xs : List V, SqK K t H a xs ∧ xs.length = i⟩
theorem turn_enumK {P : Program} {w : World} {K : PySem.W.Frag} {elts : List Expr} {kk : Nat} {tpos : Pos} {t : Bool} {a e it : Addr} (ne : e ≠ it) (na : a ≠ it) (ea : e ≠ a) :
    Turn P w K (.Tuple elts kk tpos) (IteK K t a) [e, it] e (fun i h => (∃ old, IsEnum h e it ((i : Nat) : Int) old) ∧ ItK t h it a i) where
  mem := by simp
  obj := fun i h st b hb => by
    obtain ⟨⟨old, he⟩, hi⟩ := st
    have e' : b = e ∨ b = it := by simpa using hb
    rcases e' with z | z
    · rw [z]; exact ⟨_, he, fun v q => nomatch q⟩
    · rw [z]; exact hi.obj
  keep := fun i h h' st k => let ⟨⟨old, he⟩, hi⟩ := st; ⟨⟨old, k e (by simp) _ he⟩, hi.at fun o q => k it (by simp) o q⟩
  item := by
    intro X hP hw hK hc i pins s σ H E I hf st hg
    subst hP hw hK
    obtain ⟨⟨old, he⟩, hit⟩ := st
    obtain ⟨xs, x, hq, hx⟩ := hg
    have hh : X.A.in1.handled = none := I.ok.hd hc
    obtain ⟨its, St, rv, D, in1, out1⟩ := side (A := X.A.in1) hh t it a na I hq
    obtain ⟨u, hu, ru⟩ := rv.get hx
    have hel : e < s.heap.objs.size := Heap.lt_size he
    have hil : it < s.heap.objs.size := by obtain ⟨_, q, _⟩ := hit.obj; exact Heap.lt_size q
    refine wpAny_pyNext_enum_itemD D he (in1 i hit) (List.getElem?_eq_some_iff.mp hu).1 ne (by simp [ne, ea]) fun u' h' tk hP ho hs' hT hsz hk => ?_
    rw [hu] at hP; cases hP
    refine ⟨_, rfl, wpAny_letOwnedTupleGo_enum (s := { s with heap := h', toks := tk + 1 }) ho fun h'' he' sb => ?_⟩
    have hT2 : h''.get? s.heap.objs.size = some { cls := .type "tuple", data := .seq #[.int i tk, u] } := (sb.2 _ (Nat.ne_of_gt hel)).trans hT
    have new : ObjOk X.prog X.w (upd H s.heap.objs.size (.tup [.int (i : Nat), x])) h'' s.heap.objs.size (.tup [.int (i : Nat), x]) :=
      ⟨by show 2 ≤ sizeLine; decide, [.int i tk, u], .cons ⟨_, rfl⟩ (.cons ru .nil), ⟨_, hT2, rfl, _, rfl⟩⟩
    have I1 : Inv X pins σ (upd H s.heap.objs.size (.tup [.int (i : Nat), x])) { s with heap := h'', toks := tk + 1 } :=
      I.turnedNew (t' := tk + 1) (ch := [e, it]) (fun b ob hb q => (sb.2 b (fun z => hb (by simp [z]))).trans (hk b ob (fun z => hb (by simp [z])) (fun z => hb (by simp [z])) q)) hf (Nat.le_refl _) new
    refine ⟨.ref s.heap.objs.size, _, I1, rfl, ⟨_, x, rfl, I.hok.fresh (Nat.le_refl _), rfl, fun ys hy => by rw [SqK.inj I hy hq]; exact hx⟩, ⟨⟨u, ?_⟩, (out1 _ _ hs').at fun o q => (sb.2 it (Ne.symm ne)).trans q⟩, fun b hb => ?_⟩
    · have e1 : ((i + 1 : Nat) : Int) = (i : Int) + 1 := by omega
      rw [e1]; exact he'
    · have hb' : b < s.heap.objs.size := by
        have e' : b = e ∨ b = it := by simpa using hb
        rcases e' with z | z
        · rw [z]; exact hel
        · rw [z]; exact hil
      rw [upd_ne (Nat.ne_of_lt hb')]
      exact (hf b hb).1
  done := by
    intro X hP hw hK hc i pins s σ H E I hf st hg
    subst hP hw hK
    obtain ⟨⟨old, he⟩, hit⟩ := st
    obtain ⟨xs, hq, hx⟩ := hg
    have hh : X.A.in1.handled = none := I.ok.hd hc
    obtain ⟨its, St, rv, D, in1, out1⟩ := side (A := X.A.in1) hh t it a na I hq
    obtain ⟨f0, f1, f2, f3, f4, f5⟩ := hf it (by simp)
    have hl := rv.length
    have e1 : its.length = i := by omega
    rw [e1] at D
    exact wpAny_pyNext_enum_endD D he (in1 i hit) fun h' eb => ⟨rfl, I.turned (t' := s.toks) (fun b o hb q => eb b o hb q) f0 f1 f3 f4 f5⟩
  self := fun A i s Q E st h => let ⟨⟨_, he⟩, _⟩ := st; wpAny_pyIter_enum he h
set_option maxHeartbeats 1000000 in
theorem enum_new1B {v : Value} {o : Obj} {H : Heap → Prop} (B : Begins v o H) :
    Meets (Builtin.«enumerate.__new__» ⟨[.type "enumerate", v], []⟩) (fun _ R s => H s.heap ∧
      R (.ok (.ret (.ref (s.heap.push o).objs.size))) { s with heap := (s.heap.push o).push { cls := .type "enumerate", data := .fields #[.none, .bool false, .ref s.heap.objs.size, rawInt 0, .none, .none] } }) :=
  .of_wp fun prog w A R s h => by
    obtain ⟨hp, g, d, tk, os⟩ := s; obtain ⟨h1, h⟩ := h
    have hsub := sub_enumerate
    have q1 : ∀ {A' : Around} {E : Value → Shared → Prop} {Q : Value → Shared → Prop}, Q (.ref hp.objs.size) ⟨hp.push o, g, d, tk, os⟩ → wpAny (model prog w) A' (pyIter v) Q E ⟨hp, g, d, tk, os⟩ :=
      fun q => B.iter prog w _ _ ⟨hp, g, d, tk, os⟩ _ h1 q
    wp_walk using q1
    refine wpAny_stack_any fun st => wpAny_pure ?_
    split
    · rename_i c _ _ _ _ _
      cases (c == Value.type "enumerate")
      · wp_walk using q1
        exact ⟨_, rfl, h⟩
      · wp_walk using q1
        exact ⟨_, rfl, h⟩
    · wp_walk using q1
      exact ⟨_, rfl, h⟩
theorem enum_call1 {prog : Program} {w : World} {A : Around} {E : Value → Shared → Prop} {s : Shared} {v : Value} {o : Obj} {H : Heap → Prop} {Q : Value → Shared → Prop} (B : Begins v o H) (h1 : H s.heap)
    (h : ∀ h', IsEnum h' (s.heap.objs.size + 1) s.heap.objs.size 0 .none → h'.get? s.heap.objs.size = some o → h'.objs.size = s.heap.objs.size + 2 →
      (∀ b o, s.heap.get? b = some o → h'.get? b = some o) → Q (.ref (s.heap.objs.size + 1)) { s with heap := h' }) :
    wpAny (model prog w) A (call (.type "enumerate") [v]) Q E s := by
  refine callType_new F.called_enumerate (by decide) (F.typeCall_enumerate_1 _) (F.newCall_enumerate_1 _) (fun obj => F.args_object_init_2 obj _) F.entry_enumerate_new
    (enum_new1B B) ⟨h1, ?_⟩
  have hz : (s.heap.push o).objs.size = s.heap.objs.size + 1 := Heap.size_push ..
  show _ ∧ _
  rw [hz]
  have he : IsEnum ((s.heap.push o).push { cls := .type "enumerate", data := .fields #[.none, .bool false, .ref s.heap.objs.size, rawInt 0, .none, .none] }) (s.heap.objs.size + 1) s.heap.objs.size 0 .none := by
    have := Heap.get?_push_size (s.heap.push o) (o := { cls := .type "enumerate", data := .fields #[.none, .bool false, .ref s.heap.objs.size, rawInt 0, .none, .none] }) rfl
    rw [hz] at this; exact this
  refine ⟨⟨_, he, rfl⟩, h _ he (Heap.get?_push_of_some _ (Heap.get?_push_size _ B.free)) (by rw [Heap.size_push, hz]) fun b o x => Heap.get?_push_of_some _ (Heap.get?_push_of_some _ x)⟩
def iEnumK (K : PySem.W.Frag) (ta : TA) : TI := fun σ H R => ta σ H fun vs H1 => ∃ a xs t, vs = [.ref a] ∧ SqK K t H1 a xs ∧ R (IteK K t a) H1
theorem pi_enumK {X : Cx} {e : Expr} {ta : TA} {p pos tpos : Pos} {elts : List Expr} {kk : Nat} (hg : Gl X "enumerate") (hm : X.mg "enumerate" = none) (ha : PA X [e] ta) (hs : starEach [e] X.env = [(false, eval e X.env)] := by rfl) :
    PI X (.Tuple elts kk tpos) (.Call (.Name "enumerate" p) [e] [] pos) (iEnumK X.K ta) := by
  refine ⟨fun pins s σ H R I h => ?_⟩
  refine Call_ (ld_blt I hg hm boot_enumerate (PyProof.Rows.callWith_type1 (thn (ha.run pos pins s σ H _ I h) fun us s1 ⟨vs, H1, I1, r1, q1⟩ => ?_) hs rfl))
  obtain ⟨a, xs, t, ex, hq, q⟩ := q1
  subst ex
  cases r1 with
  | cons r rr =>
    cases rr
    cases r
    obtain ⟨C1, B1, b1, la⟩ := begs I1 hq
    refine enum_call1 B1 b1 fun h' he hit hsz hk => wpAny_pyIter_enum he ?_
    have I2 : Inv X pins σ H1 { s1 with heap := h' } := I1.kept (t' := s1.toks) hk
    refine ⟨s1.heap.objs.size + 1, [s1.heap.objs.size + 1, s1.heap.objs.size], _, _, H1, rfl, I2, turn_enumK (a := a) (Nat.succ_ne_self _) (Nat.ne_of_lt la) (Nat.ne_of_gt (Nat.lt_succ_of_lt la)), ⟨⟨.none, he⟩, itk0 hit⟩, fun b hb => ?_, q⟩
    have e' : b = s1.heap.objs.size + 1 ∨ b = s1.heap.objs.size := by simpa using hb
    have hle : s1.heap.objs.size ≤ b := by
      rcases e' with z | z
      · rw [z]; exact Nat.le_add_right _ _
      · rw [z]; exact Nat.le_refl _
    exact I1.fpOk hle (I1.hok.fresh hle)
end CT

set_option maxRecDepth 100000
/-! What is walked, beside the evaluator's items. -/
namespace CT
open PySem L2 PyProof.Rows
variable {T : TT} {k : Nat}
def SrcOk (st : Store) : Option (Nat × O) → Prop
  | none => True
  | some (a, o) => st[a]? = some o
/-- other things may be hidden later: nothing that stands now -/
def Hid (T T' : TT) (H : Hp) : Prop := ∃ hs, T' = T.hide hs ∧ ∀ p ∈ hs, p ∈ T.hid ∨ H p = none
theorem Hid.refl (T : TT) (H : Hp) : Hid T T H := ⟨T.hid, rfl, fun p h => .inl h⟩
/-- the iterator gives the items -/
structure Feeds (T : TT) (J : It) (wk : Wk) (ms : List Addr) (H : Hp) : Prop where
  fin : ∀ T' ms' st' H', Hid T T' H → Evo ms H ms' H' → AH T' ms' st' H' → SrcOk st' wk.2 → J.stop wk.1.length H'
  go : ∀ T' ms' st' H' (i : Nat) d, Hid T T' H → Evo ms H ms' H' → AH T' ms' st' H' → SrcOk st' wk.2 → wk.1[i]? = some d → J.go i H' ∧ ∀ v H'', J.yld i H' v H'' → ∃ ms'', Evo ms' H' ms'' H'' ∧ AH T' ms'' st' H'' ∧ RD T' ms'' H'' d v
/-- a list, a tuple, as it stands later -/
structure Holds (T : TT) (t : Bool) (p : Addr) (xs : List D) (src : Option (Nat × O)) (ms : List Addr) (H : Hp) : Prop where
  at_ : ∀ T' ms' st' H', Hid T T' H → Evo ms H ms' H' → AH T' ms' st' H' → SrcOk st' src → ∃ vs, SqK T'.K t H' p vs ∧ RDs T' ms' H' xs vs ∧ (t = false → xs.length ≤ LIM)
section
variable {ms : List Addr} {H : Hp} {T' : TT}
theorem no_hid {p : Addr} (h : Hid T T' H) (n : T.no ms p) (hp : H p ≠ none) : T'.no ms p := by
  obtain ⟨hs, rfl, hh⟩ := h
  refine ⟨n.1, fun z => ?_⟩
  rcases hh p z with h | h
  · exact n.2 h
  · exact hp h
theorem rd_none {p : Addr} {u : HO} (h : Rd H p u) : H p ≠ none := by
  rcases h with h | ⟨o, h⟩ <;> (rw [h]; simp)
theorem FT.hid {p vs} (h : Hid T T' H) (f : FT T ms H p vs) : FT T' ms H p vs := by
  rcases f with ⟨n, r⟩ | f
  · exact .inl ⟨no_hid h n (rd_none r), r⟩
  · obtain ⟨hs, rfl, _⟩ := h; exact .inr f
theorem FL.hid {p vs} (h : Hid T T' H) (f : FL T ms H p vs) : FL T' ms H p vs := by
  rcases f with ⟨n, r⟩ | f
  · exact .inl ⟨no_hid h n (rd_none r), r⟩
  · obtain ⟨hs, rfl, _⟩ := h; exact .inr f
mutual
theorem RD.hid (h : Hid T T' H) : ∀ {d : D} {v : V}, RD T ms H d v → RD T' ms H d v
  | _, _, .non => .non
  | _, _, .bl b => .bl b
  | _, _, .int i => .int i
  | _, _, .str s z => .str s z
  | _, _, .tup f r => .tup (f.hid h) (RDs.hid h r)
  | _, _, .lst f r z => .lst (f.hid h) (RDs.hid h r) z
  | _, _, .dct n e r z => .dct (no_hid h n (by rw [e]; simp)) e (RDk.hid h r) z
  | _, _, .obj n e c r k => by
    have n' := no_hid h n (by rw [e]; simp)
    have r' := RDs.hid h r
    obtain ⟨hs, rfl, _⟩ := h
    exact .obj n' e c r' k
  | _, _, .exc n e r => by
    have n' := no_hid h n (by rw [e]; simp)
    have r' := RX.hid h r
    obtain ⟨hs, rfl, _⟩ := h
    exact .exc n' e r'
  | _, _, .fn f => by
    obtain ⟨hs, rfl, _⟩ := h
    exact .fn (T := T.hide hs) f
  | _, _, .ref e => .ref e
theorem RDs.hid (h : Hid T T' H) : ∀ {d : List D} {v : List V}, RDs T ms H d v → RDs T' ms H d v
  | _, _, .nil => .nil
  | _, _, .cons r s => .cons (RD.hid h r) (RDs.hid h s)
theorem RDk.hid (h : Hid T T' H) : ∀ {d : List (Ky × D)} {v : List (Key × V)}, RDk T ms H d v → RDk T' ms H d v
  | _, _, .nil => .nil
  | _, _, .cons kb r s => .cons kb (RD.hid h r) (RDk.hid h s)
theorem RX.hid (h : Hid T T' H) : ∀ {c : Nat} {pl : List D} {dd : Option Addr}, RX T ms H c pl dd → RX T' ms H c pl dd
  | _, _, _, .no e => by
    obtain ⟨hs, rfl, _⟩ := h
    exact .no (T := T.hide hs) e
  | _, _, _, .one e n q r => by
    have n' := no_hid h n (by rw [q]; simp)
    have r' := RD.hid h r
    obtain ⟨hs, rfl, _⟩ := h
    exact .one (T := T.hide hs) e n' q r'
end
end
theorem hid_K {T T' : TT} {H : Hp} (h : Hid T T' H) : T'.K = T.K := by
  obtain ⟨hs, rfl, _⟩ := h; rfl
theorem holds_lst {ms H st d v xs} (A : AH T ms st H) (r : RD T ms H d v) (h : look st d = .lst xs) : ∃ p, v = .ref p ∧ Holds T false p xs (srcOf st d) ms H := by
  cases r with
  | lst f s z =>
    cases h
    exact ⟨_, rfl, ⟨fun T' ms' st' H' hh ev _ _ => ⟨_, ((f.hid hh).mono ev).sq, (s.hid hh).mono ev, fun _ => z⟩⟩⟩
  | ref hp =>
    rename_i a p
    simp only [look] at h
    cases e : st[a]? with
    | none => rw [e] at h; cases h
    | some o =>
      rw [e] at h
      cases o with
      | lst ds =>
        cases h
        refine ⟨p, rfl, ⟨fun T' ms' st' H' hh ev A' hs => ?_⟩⟩
        have hs' : st'[a]? = some (.lst xs) := by
          simp only [srcOf, e, Option.map_some] at hs
          exact hs
        cases A'.at_ a p _ (ev.at hp) hs' with
        | lst h1 h2 h3 => exact ⟨_, .of h1, h2, fun _ => h3⟩
      | dct _ => cases h
      | ins _ _ => cases h
  | _ => cases h
theorem holds_tup {ms H st d v xs} {src : Option (Nat × O)} (A : AH T ms st H) (r : RD T ms H d v) (h : look st d = .tup xs) : ∃ p, v = .ref p ∧ Holds T true p xs src ms H := by
  obtain ⟨p, vs, rfl, f, s⟩ := vw_tup A r h
  exact ⟨p, rfl, ⟨fun T' ms' st' H' hh ev _ _ => ⟨vs, ((f.hid hh).mono ev).sq, (s.hid hh).mono ev, fun h => by cases h⟩⟩⟩
theorem feeds_list {p xs src ms H} (h : Holds T false p xs src ms H) : Feeds T (Itl T.K p) (xs, src) ms H := by
  refine ⟨fun T' ms' st' H' hh ev A hs => ?_, fun T' ms' st' H' i d hh ev A hs hd => ?_⟩
  · have eK := hid_K hh
    obtain ⟨vs, q, r, _⟩ := h.at_ T' ms' st' H' hh ev A hs
    rw [eK] at q
    exact ⟨vs, q, by rw [← r.length]; exact Nat.le_refl _⟩
  · have eK := hid_K hh
    obtain ⟨vs, q, r, _⟩ := h.at_ T' ms' st' H' hh ev A hs
    rw [eK] at q
    obtain ⟨v, hv, rv⟩ := r.get hd
    refine ⟨⟨vs, v, q, hv⟩, fun u H'' y => ?_⟩
    obtain ⟨rfl, y⟩ := y
    have e := y vs q
    rw [hv] at e; cases e
    exact ⟨ms', .refl, A, rv⟩
theorem feeds_tup {p xs src ms H} (h : Holds T true p xs src ms H) : Feeds T (Itt T.K p) (xs, src) ms H := by
  refine ⟨fun T' ms' st' H' hh ev A hs => ?_, fun T' ms' st' H' i d hh ev A hs hd => ?_⟩
  · have eK := hid_K hh
    obtain ⟨vs, q, r, _⟩ := h.at_ T' ms' st' H' hh ev A hs
    rw [eK] at q
    exact ⟨vs, q, by rw [← r.length]; exact Nat.le_refl _⟩
  · have eK := hid_K hh
    obtain ⟨vs, q, r, _⟩ := h.at_ T' ms' st' H' hh ev A hs
    rw [eK] at q
    obtain ⟨v, hv, rv⟩ := r.get hd
    refine ⟨⟨vs, v, q, hv⟩, fun u H'' y => ?_⟩
    obtain ⟨rfl, y⟩ := y
    have e := y vs q
    rw [hv] at e; cases e
    exact ⟨ms', .refl, A, rv⟩
theorem feeds_str {s : List Nat} {src : Option (Nat × O)} {ms H} : Feeds T (Its (tx s)) (s.map fun c => .str [c], src) ms H := by
  refine ⟨fun T' ms' st' H' hh ev A hs => ?_, fun T' ms' st' H' i d hh ev A hs hd => ?_⟩
  · show (tx s).cps.size ≤ (s.map fun c => D.str [c]).length
    simp
  · simp only [List.getElem?_map] at hd
    obtain ⟨c, hc, rfl⟩ := Option.map_eq_some_iff.mp hd
    have hl : i < s.length := (List.getElem?_eq_some_iff.mp hc).1
    refine ⟨by show i < (tx s).cps.size; simpa using hl, fun u H'' y => ?_⟩
    obtain ⟨rfl, c2, hc2, rfl⟩ := y
    have : s[i]? = some c2 := by simpa using hc2
    rw [hc] at this; cases this
    exact ⟨ms', .refl, A, .str [c] (show 1 ≤ 16777216 by omega)⟩
theorem feeds_rng {lo : Int} {n : Nat} {src : Option (Nat × O)} {ms H} : Feeds T (Itr lo n) (rngL lo n 1, src) ms H := by
  refine ⟨fun T' ms' st' H' hh ev A hs => ?_, fun T' ms' st' H' i d hh ev A hs hd => ?_⟩
  · show n ≤ (rngL lo n 1).length
    simp [rngL]
  · simp only [rngL, List.getElem?_map] at hd
    obtain ⟨j, hj, rfl⟩ := Option.map_eq_some_iff.mp hd
    obtain ⟨hl, he⟩ := List.getElem?_eq_some_iff.mp hj
    simp at hl he
    subst he
    refine ⟨hl, fun u H'' y => ?_⟩
    obtain ⟨rfl, rfl⟩ := y
    rw [Int.mul_one]
    exact ⟨ms', .refl, A, .int _⟩
theorem feeds_rngC {lo c : Int} {n : Nat} {src : Option (Nat × O)} {ms H} : Feeds T (Itc lo c n) (rngL lo n c, src) ms H := by
  refine ⟨fun T' ms' st' H' hh ev A hs => ?_, fun T' ms' st' H' i d hh ev A hs hd => ?_⟩
  · show n ≤ (rngL lo n c).length
    simp [rngL]
  · simp only [rngL, List.getElem?_map] at hd
    obtain ⟨j, hj, rfl⟩ := Option.map_eq_some_iff.mp hd
    obtain ⟨hl, he⟩ := List.getElem?_eq_some_iff.mp hj
    simp at hl he
    subst he
    refine ⟨hl, fun u H'' y => ?_⟩
    obtain ⟨rfl, rfl⟩ := y
    exact ⟨ms', .refl, A, .int _⟩
theorem zipD_get : ∀ {xs ys : List D} {i : Nat} {d : D}, (zipD xs ys)[i]? = some d → ∃ x y, xs[i]? = some x ∧ ys[i]? = some y ∧ d = .tup [x, y]
  | [], _, i, d, h => by simp [zipD] at h
  | _ :: _, [], i, d, h => by simp [zipD] at h
  | x :: xs, y :: ys, 0, d, h => by simp [zipD] at h; exact ⟨x, y, rfl, rfl, h.symm⟩
  | x :: xs, y :: ys, i + 1, d, h => by
    obtain ⟨a, b, h1, h2, h3⟩ := zipD_get (xs := xs) (ys := ys) (i := i) (by simpa [zipD] using h)
    exact ⟨a, b, by simpa using h1, by simpa using h2, h3⟩
theorem zipD_len : ∀ (xs ys : List D), (zipD xs ys).length = min xs.length ys.length
  | [], ys => by simp [zipD]
  | _ :: _, [] => by simp [zipD]
  | x :: xs, y :: ys => by simp [zipD, zipD_len xs ys]
theorem feeds_zip {t1 t2 p q xs ys ms H} (h1 : Holds T t1 p xs none ms H) (h2 : Holds T t2 q ys none ms H) : Feeds T (IzM T.K t1 t2 p q) (zipD xs ys, none) ms H := by
  refine ⟨fun T' ms' st' H' hh ev A hs => ?_, fun T' ms' st' H' i d hh ev A hs hd => ?_⟩
  · have eK := hid_K hh
    obtain ⟨vs, q1, r1, _⟩ := h1.at_ T' ms' st' H' hh ev A trivial
    obtain ⟨ws, q2, r2, _⟩ := h2.at_ T' ms' st' H' hh ev A trivial
    rw [eK] at q1 q2
    have e1 := r1.length
    have e2 := r2.length
    have e3 := zipD_len xs ys
    refine ⟨vs, ws, q1, q2, ?_, ?_, ?_⟩
    · show (zipD xs ys).length ≤ _; omega
    · show (zipD xs ys).length ≤ _; omega
    · show _ = (zipD xs ys).length ∨ _ = (zipD xs ys).length; omega
  · have eK := hid_K hh
    obtain ⟨vs, q1, r1, _⟩ := h1.at_ T' ms' st' H' hh ev A trivial
    obtain ⟨ws, q2, r2, _⟩ := h2.at_ T' ms' st' H' hh ev A trivial
    rw [eK] at q1 q2
    obtain ⟨x, y, hx, hy, rfl⟩ := zipD_get hd
    obtain ⟨v, hv, rv⟩ := r1.get hx
    obtain ⟨w, hw, rw'⟩ := r2.get hy
    refine ⟨⟨vs, ws, v, w, q1, q2, hv, hw⟩, fun u H'' yy => ?_⟩
    obtain ⟨Ta, a, b, rfl, hT, rfl, y1, y2⟩ := yy
    have e1 := y1 vs q1
    rw [hv] at e1; cases e1
    have e2 := y2 ws q2
    rw [hw] at e2; cases e2
    have ev2 := Evo.new (o := .tup [v, w]) A hT
    exact ⟨ms', ev2, A.new hT, .tup (.inl ⟨A.fresh hT, .inl upd_same⟩) (.cons (rv.mono ev2) (.cons (rw'.mono ev2) .nil))⟩
theorem feeds_enum {t p xs src ms H} (h : Holds T t p xs src ms H) : Feeds T (IteK T.K t p) (zipD (rngL 0 xs.length 1) xs, src) ms H := by
  have hl : (rngL 0 xs.length 1).length = xs.length := by simp [rngL]
  refine ⟨fun T' ms' st' H' hh ev A hs => ?_, fun T' ms' st' H' i d hh ev A hs hd => ?_⟩
  · have eK := hid_K hh
    obtain ⟨vs, q, r, _⟩ := h.at_ T' ms' st' H' hh ev A hs
    rw [eK] at q
    refine ⟨vs, q, ?_⟩
    show vs.length = (zipD (rngL 0 xs.length 1) xs).length
    rw [zipD_len, hl, ← r.length]; omega
  · have eK := hid_K hh
    obtain ⟨vs, q, r, _⟩ := h.at_ T' ms' st' H' hh ev A hs
    rw [eK] at q
    obtain ⟨x, y, hx, hy, rfl⟩ := zipD_get hd
    obtain ⟨v, hv, rv⟩ := r.get hy
    simp only [rngL, List.getElem?_map] at hx
    obtain ⟨j, hj, rfl⟩ := Option.map_eq_some_iff.mp hx
    obtain ⟨hl, he⟩ := List.getElem?_eq_some_iff.mp hj
    simp at hl he
    subst he
    refine ⟨⟨vs, v, q, hv⟩, fun u H'' yy => ?_⟩
    obtain ⟨Ta, a, rfl, hT, rfl, y1⟩ := yy
    have e1 := y1 vs q
    rw [hv] at e1; cases e1
    have ev2 := Evo.new (o := .tup [.int (i : Nat), v]) A hT
    refine ⟨ms', ev2, A.new hT, .tup (.inl ⟨A.fresh hT, .inl upd_same⟩) (.cons ?_ (.cons (rv.mono ev2) .nil))⟩
    have e : (0 : Int) + (i : Int) * 1 = ((i : Nat) : Int) := by omega
    rw [e]
    exact .int _
theorem feeds_rev {p xs src ms H} (h : Holds T false p xs src ms H) : Feeds T (Itv T.K p xs.length) (xs.reverse, src) ms H := by
  refine ⟨fun T' ms' st' H' hh ev A hs => ?_, fun T' ms' st' H' i d hh ev A hs hd => ?_⟩
  · show xs.length ≤ xs.reverse.length
    simp
  · have eK := hid_K hh
    obtain ⟨vs, q, r, _⟩ := h.at_ T' ms' st' H' hh ev A hs
    rw [eK] at q
    have hi : i < xs.length := by simpa using (List.getElem?_eq_some_iff.mp hd).1
    have hd2 : xs[xs.length - 1 - i]? = some d := by
      rw [List.getElem?_reverse hi] at hd; exact hd
    obtain ⟨v, hv, rv⟩ := r.get hd2
    refine ⟨⟨hi, vs, v, q, hv⟩, fun u H'' y => ?_⟩
    obtain ⟨rfl, y⟩ := y
    have e := y vs q
    rw [hv] at e; cases e
    exact ⟨ms', .refl, A, rv⟩

/-! ### the walks -/
def tI (T : TT) (k : Nat) (W : WX) (it : I) : TI := fun τ H R => ∃ ms σ st, At T σ st ms τ H ∧ Pst T W τ ms H (evI T.P (runF T.P k) σ it st) (fun ms H (wk : Wk) J => Feeds T J wk ms H) R
structure SI (T : TT) (k : Nat) (it : I) : Prop where
  pi : ∀ (W : WX) (c : MC) (X : Cx) (t x : Expr), Good T k W c X → c.cm = true → mI c it t x = true → PI X t x (tI T k W it)
theorem PI.imp {X : Cx} {t e : Expr} {w w' : TI} (h : PI X t e w) (i : ∀ σ H R, w' σ H R → w σ H R) : PI X t e w' := ⟨fun pins s σ H R I hq => h.run pins s σ H R I (i _ _ _ hq)⟩
/-- e itself walked: a list, a tuple or a text -/
theorem pi_any {X : Cx} {tg l : Expr} {tl : TE} (hl : PE X l tl) : PI X tg l (fun σ H R => tl σ H fun x H1 => (∃ a xs, x = .ref a ∧ SqL X.K H1 a xs ∧ R (Itl X.K a) H1) ∨ (∃ a xs, x = .ref a ∧ SqT X.K H1 a xs ∧ R (Itt X.K a) H1) ∨ ∃ s, x = .str s ∧ R (Its s) H1) := by
  refine ⟨fun pins s σ H R I h => ?_⟩
  refine thn (hl.run pins s σ H _ I h) fun v s1 ⟨x, H1, I1, r1, q1⟩ => ?_
  rcases q1 with ⟨a, xs, e, hq, q⟩ | ⟨a, xs, e, hq, q⟩ | ⟨x0, ex, q⟩
  · subst e
    cases r1
    obtain ⟨its, rv, p, hz⟩ := I1.list hq
    exact wpAny_pyIter_list p.isList (pi_one (tk := s1.toks) I1 _ (turn_list a _) ⟨_, Heap.get?_push_size _ rfl, rfl, rfl⟩ q)
  · subst e
    cases r1
    obtain ⟨its, rv, p, hz⟩ := I1.tuple hq
    exact wpAny_pyIter_tuple (show s1.heap.IsTuple a its.toArray from p) (pi_one (tk := s1.toks) I1 _ (turn_tuple a _) ⟨_, Heap.get?_push_size _ rfl, rfl, rfl⟩ q)
  · subst ex
    obtain ⟨t, rfl⟩ := r1
    cases ha : x0.cps.all (· < 128)
    · exact wpAny_pyIter_wide ha (pi_one (tk := s1.toks) I1 _ (turn_str _ x0 t "str_iterator" (.inr rfl)) ⟨_, Heap.get?_push_size _ rfl, rfl, rfl⟩ q)
    · exact wpAny_pyIter_ascii ha (pi_one (tk := s1.toks) I1 _ (turn_str _ x0 t "str_ascii_iterator" (.inl rfl)) ⟨_, Heap.get?_push_size _ rfl, rfl, rfl⟩ q)
theorem src_of (st : Store) (d : D) : SrcOk st (srcOf st d) := by
  cases d with
  | ref a =>
    simp only [srcOf]
    cases e : st[a]? with
    | none => trivial
    | some o => exact e
  | _ => trivial
theorem si_seq {e : E} (he : SE T k e) : SI T k (.seq e) := by
  refine ⟨fun W c X t x g hcm h => ?_⟩
  simp only [mI] at h
  refine PI.imp (pi_any (he.pe W c X x g h)) ?_
  rintro τ H R ⟨ms, σ, st, A, p⟩
  simp only [evI] at p
  refine ⟨ms, σ, st, A, Pst.bind p fun d st1 v ms1 H1 _ ev ah rd p1 => ?_⟩
  rw [g.K]
  unfold seqI at p1
  generalize hd : look st1 d = ld at p1
  cases ld <;> first | exact p1.elim | skip
  case lst xs =>
    obtain ⟨q, rfl, hh⟩ := holds_lst ah rd hd
    obtain ⟨vs, hq, _, _⟩ := hh.at_ T _ _ _ (.refl _ _) .refl ah (src_of st1 d)
    exact .inl ⟨q, vs, rfl, hq, Pst.ok p1 ah (feeds_list hh)⟩
  case tup xs =>
    obtain ⟨q, rfl, hh⟩ := holds_tup (src := none) ah rd hd
    obtain ⟨vs, hq, _, _⟩ := hh.at_ T _ _ _ (.refl _ _) .refl ah trivial
    exact .inr (.inl ⟨q, vs, rfl, hq, Pst.ok p1 ah (feeds_tup hh)⟩)
  case str s =>
    obtain ⟨rfl, _⟩ := vw_str rd hd
    exact .inr (.inr ⟨_, rfl, Pst.ok p1 ah feeds_str⟩)

/-- the argument lists of range, zip, .. -/
theorem star1 {env : PySem.Env} {a : Expr} (h : noStar a = true) : starEach [a] env = [(false, eval a env)] := star_cons [] env h
theorem star2 {env : PySem.Env} {a : Expr} (b : Expr) (h : noStar a = true) : starEach [a, b] env = (false, eval a env) :: starEach [b] env := star_cons [b] env h
theorem star22 {env : PySem.Env} {a b : Expr} (h : noStar a = true) (h2 : noStar b = true) : starEach [a, b] env = [(false, eval a env), (false, eval b env)] := by rw [star2 b h, star1 h2]
theorem star3 {env : PySem.Env} {a : Expr} (b c : Expr) (h : noStar a = true) : starEach [a, b, c] env = (false, eval a env) :: starEach [b, c] env := star_cons [b, c] env h
theorem small_int {i : Int} (h : smallI i = true) : -(2 ^ 40) ≤ i ∧ i < 2 ^ 40 := by
  unfold smallI at h
  have h := of_decide_eq_true h
  constructor <;> omega
theorem rg_ok {a b c : Int} (ha : smallI a = true) (hb : smallI b = true) (h0 : 0 < c) (h1 : c < 2 ^ 20) : RgC a b c (rngN a b c) := by
  obtain ⟨a1, a2⟩ := small_int ha
  obtain ⟨b1, b2⟩ := small_int hb
  have e : Builtin.Range.rangeSize a b c = ((rngN a b c : Nat) : Int) := by
    unfold Builtin.Range.rangeSize rngN
    rw [if_pos h0]
    split
    · rename_i hlt
      have e2 : b - a + c - 1 = (b - a - 1) + c := by omega
      rw [e2, Int.add_ediv_of_dvd_right (Int.dvd_refl c), Int.ediv_self (by omega)]
      have : 0 ≤ (b - a - 1) / c := Int.ediv_nonneg (by omega) (by omega)
      omega
    · rename_i hlt
      have : (b - a + c - 1) / c ≤ 0 := by
        have h3 : b - a + c - 1 < c := by omega
        have := Int.ediv_lt_of_lt_mul h0 (show b - a + c - 1 < 1 * c by omega)
        omega
      omega
  have hn : ((rngN a b c : Nat) : Int) ≤ 2 ^ 42 := by
    rw [← e]
    unfold Builtin.Range.rangeSize
    rw [if_pos h0]
    split
    · have := Int.ediv_le_self c (show 0 ≤ b - a - 1 by omega)
      omega
    · omega
  refine ⟨by omega, by omega, ?_, e⟩
  unfold Builtin.Range.small
  rw [e]
  simp only [Builtin.Range.rangeFitsLong, Bool.and_eq_true, Bool.or_eq_true, decide_eq_true_eq, beq_iff_eq, if_pos h0]
  omega
theorem si_rng1 {a : E} (ha : SE T k a) : SI T k (.rng1 a) := by
  refine ⟨fun W c X t x g hcm h => ?_⟩
  simp only [mI] at h
  split at h <;> first | (cases h; done) | skip
  simp only [Bool.and_eq_true, decide_eq_true_eq, Bool.not_eq_true', beq_iff_eq, bne_iff_ne, ne_eq] at h
  obtain ⟨⟨⟨h1, h2⟩, h3⟩, h4⟩ := h
  subst h1
  obtain ⟨g1, g2, g3⟩ := g.gl h2
  refine PI.imp (pi_range1 g1 (by rw [g.mg]; exact g.tok.blt _ (by simp)) (pa_cons (ha.pe W c X _ g h3) pa_nil (star1 h4)) (star1 h4)) ?_
  rintro τ H R ⟨ms, σ, st, A, p⟩
  simp only [evI] at p
  refine ⟨ms, σ, st, A, Pst.bind p fun d st1 v ms1 H1 _ ev ah rd p1 => ?_⟩
  cases d with
  | int n =>
    cases rd
    simp only at p1
    split at p1
    · rename_i hs
      obtain ⟨a1, a2⟩ := small_int hs
      exact ⟨n, rfl, by omega, by omega, Pst.ok p1 ah feeds_rng⟩
    · exact p1.elim
  | _ => exact p1.elim
theorem si_rng2 {a b : E} (ha : SE T k a) (hb : SE T k b) : SI T k (.rng2 a b) := by
  refine ⟨fun W c X t x g hcm h => ?_⟩
  simp only [mI] at h
  split at h <;> first | (cases h; done) | skip
  simp only [Bool.and_eq_true, decide_eq_true_eq, Bool.not_eq_true', beq_iff_eq, bne_iff_ne, ne_eq] at h
  obtain ⟨⟨⟨⟨⟨h1, h2⟩, h3⟩, h4⟩, h5⟩, h6⟩ := h
  subst h1
  obtain ⟨g1, g2, g3⟩ := g.gl h2
  have s2 := star1 (env := X.env) h6
  have s1 := star22 (env := X.env) h4 h6
  refine PI.imp (pi_range2 g1 (by rw [g.mg]; exact g.tok.blt _ (by simp)) (pa_cons (ha.pe W c X _ g h3) (pa_cons (hb.pe W c X _ g h5) pa_nil s2) (star2 _ h4)) s1 s2) ?_
  rintro τ H R ⟨ms, σ, st, A, p⟩
  simp only [evI] at p
  refine ⟨ms, σ, st, A, Pst.bind p fun d st1 v ms1 H1 he1 ev ah rd p1 => ?_⟩
  clear he1
  refine ⟨ms1, σ, st1, A.go ev ah, Pst.bind p1 fun e st2 w ms2 H2 he2 ev2 ah2 re p2 => ?_⟩
  clear he2
  cases d <;> cases e <;> first | exact p2.elim | skip
  case int.int i n =>
    cases rd
    cases re
    simp only at p2
    split at p2
    · rename_i hs
      rw [Bool.and_eq_true] at hs
      obtain ⟨a1, a2⟩ := small_int hs.1
      obtain ⟨b1, b2⟩ := small_int hs.2
      exact ⟨i, n, rfl, ⟨by omega, by omega, by omega, by omega⟩, Pst.ok p2 ah2 feeds_rng⟩
    · exact p2.elim
theorem si_rng3 {a b d : E} (ha : SE T k a) (hb : SE T k b) (hd : SE T k d) : SI T k (.rng3 a b d) := by
  refine ⟨fun W c X t x g hcm h => ?_⟩
  simp only [mI] at h
  split at h <;> first | (cases h; done) | skip
  simp only [Bool.and_eq_true, decide_eq_true_eq, Bool.not_eq_true', beq_iff_eq, bne_iff_ne, ne_eq] at h
  obtain ⟨⟨⟨⟨⟨⟨⟨h1, h2⟩, h3⟩, h4⟩, h5⟩, h6⟩, h7⟩, h8⟩ := h
  subst h1
  obtain ⟨g1, g2, g3⟩ := g.gl h2
  have s3 := star1 (env := X.env) h8
  refine PI.imp (pi_range3 g1 (by rw [g.mg]; exact g.tok.blt _ (by simp)) (pa_cons (ha.pe W c X _ g h3) (pa_cons (hb.pe W c X _ g h5) (pa_cons (hd.pe W c X _ g h7) pa_nil s3) (star2 _ h6)) (star3 _ _ h4)) (star3 _ _ h4) (by rw [star2 _ h6, s3]; rfl)) ?_
  rintro τ H R ⟨ms, σ, st, A, p⟩
  simp only [evI] at p
  refine ⟨ms, σ, st, A, Pst.bind p fun d st1 v ms1 H1 he1 ev ah rd p1 => ?_⟩
  clear he1
  refine ⟨ms1, σ, st1, A.go ev ah, Pst.bind p1 fun e st2 w ms2 H2 he2 ev2 ah2 re p2 => ?_⟩
  clear he2
  refine ⟨ms2, σ, st2, (A.go ev ah).go ev2 ah2, Pst.bind p2 fun f st3 u ms3 H3 he3 ev3 ah3 rf p3 => ?_⟩
  clear he3
  cases d <;> cases e <;> cases f <;> first | exact p3.elim | skip
  case int.int.int i n q =>
    cases rd
    cases re
    cases rf
    simp only at p3
    split at p3
    · rename_i hs
      simp only [Bool.and_eq_true, decide_eq_true_eq] at hs
      exact ⟨i, n, q, _, rfl, rg_ok hs.1.1.1 hs.1.1.2 hs.1.2 hs.2, Pst.ok p3 ah3 feeds_rngC⟩
    · exact p3.elim
theorem isTup_of {t : Expr} (h : isTup t = true) : ∃ elts kk p, t = .Tuple elts kk p := by
  cases t <;> first | exact ⟨_, _, _, rfl⟩ | (simp [isTup] at h)
theorem si_zip {a b : E} (ha : SE T k a) (hb : SE T k b) : SI T k (.zip a b) := by
  refine ⟨fun W c X t x g hcm h => ?_⟩
  simp only [mI] at h
  split at h <;> first | (cases h; done) | skip
  simp only [Bool.and_eq_true, decide_eq_true_eq, Bool.not_eq_true', beq_iff_eq, bne_iff_ne, ne_eq] at h
  obtain ⟨⟨⟨⟨⟨⟨h0, h1⟩, h2⟩, h3⟩, h4⟩, h5⟩, h6⟩ := h
  subst h1
  obtain ⟨elts, kk, tp, rfl⟩ := isTup_of h0
  obtain ⟨g1, g2, g3⟩ := g.gl h2
  have s2 := star1 (env := X.env) h6
  refine PI.imp (pi_zipM g1 (by rw [g.mg]; exact g.tok.blt _ (by simp)) (pa_cons (ha.pe W c X _ g h3) (pa_cons (hb.pe W c X _ g h5) pa_nil s2) (star2 _ h4)) (star2 _ h4) (by rw [s2]; rfl)) ?_
  rintro τ H R ⟨ms, σ, st, A, p⟩
  simp only [evI] at p
  refine ⟨ms, σ, st, A, Pst.bind p fun d st1 v ms1 H1 he1 ev ah rd p1 => ?_⟩
  clear he1
  refine ⟨ms1, σ, st1, A.go ev ah, Pst.bind p1 fun e st2 w ms2 H2 he2 ev2 ah2 re p2 => ?_⟩
  clear he2
  have rd2 := rd.mono ev2
  rw [g.K]
  have L : ∀ {d : D} {v : V} {xs : List D}, RD T ms2 H2 d v → d = .lst xs → ∃ q, v = .ref q ∧ Holds T false q xs none ms2 H2 := fun {d v xs} r e => by
    subst e
    exact holds_lst (st := st2) ah2 r rfl
  have U : ∀ {d : D} {v : V} {xs : List D}, RD T ms2 H2 d v → d = .tup xs → ∃ q, v = .ref q ∧ Holds T true q xs none ms2 H2 := fun {d v xs} r e => by
    subst e
    exact holds_tup (st := st2) ah2 r rfl
  have fin : ∀ {t1 t2 q1 q2 xs ys}, v = .ref q1 → w = .ref q2 → Holds T t1 q1 xs none ms2 H2 → Holds T t2 q2 ys none ms2 H2 → Pst T W τ ms2 H2 (CT.R.ok (zipD xs ys, none) st2) (fun ms H (wk : Wk) J => Feeds T J wk ms H) R →
      ∃ a b xs ys t1 t2, [v, w] = [V.ref a, V.ref b] ∧ SqK T.K t1 H2 a xs ∧ SqK T.K t2 H2 b ys ∧ R (IzM T.K t1 t2 a b) H2 := fun {t1 t2 q1 q2 xs ys} e1 e2 a1 a2 p => by
    subst e1; subst e2
    obtain ⟨vs, k1, _, _⟩ := a1.at_ T _ _ _ (.refl _ _) .refl ah2 trivial
    obtain ⟨ws, k2, _, _⟩ := a2.at_ T _ _ _ (.refl _ _) .refl ah2 trivial
    exact ⟨q1, q2, vs, ws, t1, t2, rfl, k1, k2, Pst.ok p ah2 (feeds_zip a1 a2)⟩
  cases d <;> cases e <;> first | exact p2.elim | skip
  case tup.tup xs ys =>
    obtain ⟨q1, e1, a1⟩ := U rd2 rfl
    obtain ⟨q2, e2, a2⟩ := U re rfl
    exact fin e1 e2 a1 a2 p2
  case tup.lst xs ys =>
    obtain ⟨q1, e1, a1⟩ := U rd2 rfl
    obtain ⟨q2, e2, a2⟩ := L re rfl
    exact fin e1 e2 a1 a2 p2
  case lst.tup xs ys =>
    obtain ⟨q1, e1, a1⟩ := L rd2 rfl
    obtain ⟨q2, e2, a2⟩ := U re rfl
    exact fin e1 e2 a1 a2 p2
  case lst.lst xs ys =>
    obtain ⟨q1, e1, a1⟩ := L rd2 rfl
    obtain ⟨q2, e2, a2⟩ := L re rfl
    exact fin e1 e2 a1 a2 p2
theorem si_rev {a : E} (ha : SE T k a) : SI T k (.rev a) := by
  refine ⟨fun W c X t x g hcm h => ?_⟩
  simp only [mI] at h
  split at h <;> first | (cases h; done) | skip
  simp only [Bool.and_eq_true, decide_eq_true_eq, Bool.not_eq_true', beq_iff_eq, bne_iff_ne, ne_eq] at h
  obtain ⟨⟨⟨h1, h2⟩, h3⟩, h4⟩ := h
  subst h1
  obtain ⟨g1, g2, g3⟩ := g.gl h2
  refine PI.imp (pi_reversed g1 (by rw [g.mg]; exact g.tok.blt _ (by simp)) (pa_cons (ha.pe W c X _ g h3) pa_nil (star1 h4)) (star1 h4)) ?_
  rintro τ H R ⟨ms, σ, st, A, p⟩
  simp only [evI] at p
  refine ⟨ms, σ, st, A, Pst.bind p fun d st1 v ms1 H1 _ ev ah rd p1 => ?_⟩
  rw [g.K]
  generalize hd : look st1 d = ld at p1
  cases ld <;> first | exact p1.elim | skip
  case lst xs =>
    obtain ⟨q, rfl, hh⟩ := holds_lst ah rd hd
    obtain ⟨vs, hq, r, _⟩ := hh.at_ T _ _ _ (.refl _ _) .refl ah (src_of st1 d)
    refine ⟨q, vs, rfl, hq, ?_⟩
    rw [← r.length]
    exact Pst.ok p1 ah (feeds_rev hh)
theorem si_enm {a : E} (ha : SE T k a) : SI T k (.enm a) := by
  refine ⟨fun W c X t x g hcm h => ?_⟩
  simp only [mI] at h
  split at h <;> first | (cases h; done) | skip
  simp only [Bool.and_eq_true, decide_eq_true_eq, Bool.not_eq_true', beq_iff_eq, bne_iff_ne, ne_eq] at h
  obtain ⟨⟨⟨⟨h0, h1⟩, h2⟩, h3⟩, h4⟩ := h
  subst h1
  obtain ⟨elts, kk, tp, rfl⟩ := isTup_of h0
  obtain ⟨g1, g2, g3⟩ := g.gl h2
  refine PI.imp (pi_enumK g1 (by rw [g.mg]; exact g.tok.blt _ (by simp)) (pa_cons (ha.pe W c X _ g h3) pa_nil (star1 h4)) (star1 h4)) ?_
  rintro τ H R ⟨ms, σ, st, A, p⟩
  simp only [evI] at p
  refine ⟨ms, σ, st, A, Pst.bind p fun d st1 v ms1 H1 _ ev ah rd p1 => ?_⟩
  rw [g.K]
  generalize hd : look st1 d = ld at p1
  cases ld <;> first | exact p1.elim | skip
  case lst xs =>
    obtain ⟨q, rfl, hh⟩ := holds_lst ah rd hd
    obtain ⟨vs, hq, r, _⟩ := hh.at_ T _ _ _ (.refl _ _) .refl ah (src_of st1 d)
    exact ⟨q, vs, false, rfl, hq, Pst.ok p1 ah (feeds_enum hh)⟩
  case tup xs =>
    have ed : d = .tup xs := by
      cases d with
      | tup ds => cases hd; rfl
      | ref a =>
        simp only [look] at hd
        cases e : st1[a]? with
        | none => rw [e] at hd; cases hd
        | some o => rw [e] at hd; cases o <;> cases hd
      | _ => cases hd
    subst ed
    have hx : ∃ q, v = .ref q ∧ Holds T true q xs none ms1 H1 := holds_tup (st := st1) ah rd rfl
    obtain ⟨q, rfl, hh⟩ := hx
    obtain ⟨vs, hq, r, _⟩ := hh.at_ T _ _ _ (.refl _ _) .refl ah trivial
    exact ⟨q, vs, true, rfl, hq, Pst.ok p1 ah (feeds_enum hh)⟩
end CT

set_option maxRecDepth 100000
/-! List comprehensions. -/
namespace CT
open PySem L2 PyProof.Rows
variable {T : TT} {k : Nat}

/-! ### other things hidden, other places known -/
section
variable {ms ms2 : List Addr} {H : Hp} {a b : List Addr}
theorem FT.re {p vs} (hno : ∀ p, (T.hide a).no ms p → (T.hide b).no ms2 p) (f : FT (T.hide a) ms H p vs) : FT (T.hide b) ms2 H p vs := f.imp (fun x => ⟨hno p x.1, x.2⟩) id
theorem FL.re {p vs} (hno : ∀ p, (T.hide a).no ms p → (T.hide b).no ms2 p) (f : FL (T.hide a) ms H p vs) : FL (T.hide b) ms2 H p vs := f.imp (fun x => ⟨hno p x.1, x.2⟩) id
mutual
theorem RD.re (hno : ∀ p, (T.hide a).no ms p → (T.hide b).no ms2 p) (hat : ∀ (i : Nat) (p : Addr), ms[i]? = some p → ms2[i]? = some p) : ∀ {d : D} {v : V}, RD (T.hide a) ms H d v → RD (T.hide b) ms2 H d v
  | _, _, .non => .non
  | _, _, .bl b => .bl b
  | _, _, .int i => .int i
  | _, _, .str s z => .str s z
  | _, _, .tup f r => .tup (f.re hno) (RDs.re hno hat r)
  | _, _, .lst f r z => .lst (f.re hno) (RDs.re hno hat r) z
  | _, _, .dct n e r z => .dct (hno _ n) e (RDk.re hno hat r) z
  | _, _, .obj n e c r k => .obj (hno _ n) e c (RDs.re hno hat r) k
  | _, _, .exc n e r => .exc (hno _ n) e (RX.re hno hat r)
  | _, _, .fn f => .fn (T := T.hide b) f
  | _, _, .ref e => .ref (hat _ _ e)
theorem RDs.re (hno : ∀ p, (T.hide a).no ms p → (T.hide b).no ms2 p) (hat : ∀ (i : Nat) (p : Addr), ms[i]? = some p → ms2[i]? = some p) : ∀ {d : List D} {v : List V}, RDs (T.hide a) ms H d v → RDs (T.hide b) ms2 H d v
  | _, _, .nil => .nil
  | _, _, .cons r s => .cons (RD.re hno hat r) (RDs.re hno hat s)
theorem RDk.re (hno : ∀ p, (T.hide a).no ms p → (T.hide b).no ms2 p) (hat : ∀ (i : Nat) (p : Addr), ms[i]? = some p → ms2[i]? = some p) : ∀ {d : List (Ky × D)} {v : List (Key × V)}, RDk (T.hide a) ms H d v → RDk (T.hide b) ms2 H d v
  | _, _, .nil => .nil
  | _, _, .cons kb r s => .cons kb (RD.re hno hat r) (RDk.re hno hat s)
theorem RX.re (hno : ∀ p, (T.hide a).no ms p → (T.hide b).no ms2 p) (hat : ∀ (i : Nat) (p : Addr), ms[i]? = some p → ms2[i]? = some p) : ∀ {c : Nat} {pl : List D} {dd : Option Addr}, RX (T.hide a) ms H c pl dd → RX (T.hide b) ms2 H c pl dd
  | _, _, _, .no e => .no (T := T.hide b) e
  | _, _, _, .one e n q r => .one (T := T.hide b) e (hno _ n) q (RD.re hno hat r)
end
theorem RO.re (hno : ∀ p, (T.hide a).no ms p → (T.hide b).no ms2 p) (hat : ∀ (i : Nat) (p : Addr), ms[i]? = some p → ms2[i]? = some p) {p : Addr} {o : O} (h : RO (T.hide a) ms H p o) : RO (T.hide b) ms2 H p o := by
  cases h with
  | lst e r z => exact .lst e (r.re hno hat) z
  | dct e r z => exact .dct e (r.re hno hat) z
  | ins e c r k => exact .ins (T := T.hide b) e c (r.re hno hat) k
end
/-! ### a hidden thing is changed -/
section
variable {ms : List Addr} {H : Hp} {X : Addr} {o : HO}
theorem rd_upd {p : Addr} {u : HO} (hx : p ≠ X) (h : Rd H p u) : Rd (upd H X o) p u := by
  unfold Rd
  rw [upd_ne hx]
  exact h
theorem no_ne {p : Addr} (hx : X ∈ T.hid) (n : T.no ms p) : p ≠ X := fun e => n.2 (e ▸ hx)
mutual
theorem RD.upd (hx : X ∈ T.hid) : ∀ {d : D} {v : V}, RD T ms H d v → RD T ms (L2.upd H X o) d v
  | _, _, .non => .non
  | _, _, .bl b => .bl b
  | _, _, .int i => .int i
  | _, _, .str s z => .str s z
  | _, _, .tup f r => .tup (f.imp (fun x => ⟨x.1, rd_upd (no_ne hx x.1) x.2⟩) id) (RDs.upd hx r)
  | _, _, .lst f r z => .lst (f.imp (fun x => ⟨x.1, rd_upd (no_ne hx x.1) x.2⟩) id) (RDs.upd hx r) z
  | _, _, .dct n e r z => .dct n (by rw [upd_ne (no_ne hx n)]; exact e) (RDk.upd hx r) z
  | _, _, .obj n e c r k => .obj n (by rw [upd_ne (no_ne hx n)]; exact e) c (RDs.upd hx r) k
  | _, _, .exc n e r => .exc n (by rw [upd_ne (no_ne hx n)]; exact e) (RX.upd hx r)
  | _, _, .fn f => .fn f
  | _, _, .ref e => .ref e
theorem RDs.upd (hx : X ∈ T.hid) : ∀ {d : List D} {v : List V}, RDs T ms H d v → RDs T ms (L2.upd H X o) d v
  | _, _, .nil => .nil
  | _, _, .cons r s => .cons (RD.upd hx r) (RDs.upd hx s)
theorem RDk.upd (hx : X ∈ T.hid) : ∀ {d : List (Ky × D)} {v : List (Key × V)}, RDk T ms H d v → RDk T ms (L2.upd H X o) d v
  | _, _, .nil => .nil
  | _, _, .cons kb r s => .cons kb (RD.upd hx r) (RDk.upd hx s)
theorem RX.upd (hx : X ∈ T.hid) : ∀ {c : Nat} {pl : List D} {dd : Option Addr}, RX T ms H c pl dd → RX T ms (L2.upd H X o) c pl dd
  | _, _, _, .no e => .no e
  | _, _, _, .one e n q r => .one e n (by rw [upd_ne (no_ne hx n)]; exact q) (RD.upd hx r)
end
theorem AH.updH {st : Store} (hx : X ∈ T.hid) (A : AH T ms st H) : AH T ms st (upd H X o) := by
  refine ⟨A.len, A.nd, fun q hq => ⟨upd_some (A.hd q hq).1, (A.hd q hq).2⟩, fun i p u hp hu => ?_⟩
  have hne : p ≠ X := fun e => (A.hd X hx).2 (e ▸ mem_at hp)
  cases A.at_ i p u hp hu with
  | lst e r z => exact .lst (by rw [upd_ne hne]; exact e) (r.upd hx) z
  | dct e r z => exact .dct (by rw [upd_ne hne]; exact e) (r.upd hx) z
  | ins e c r k => exact .ins (by rw [upd_ne hne]; exact e) c (r.upd hx) k
end
/-! ### the slots -/
theorem wipe_get : ∀ (vs : List Nat) (τ : L2.St) (j : Nat), (wipe τ vs)[j]? = if j ∈ vs then (if j < τ.length then some none else none) else τ[j]?
  | [], τ, j => by simp [wipe]
  | v :: vs, τ, j => by
    unfold wipe
    by_cases h : v = j
    · subst h
      by_cases hl : v < τ.length
      · rw [List.getElem?_set_self (by rw [wipe_length]; exact hl)]
        simp [hl]
      · rw [List.getElem?_eq_none (by rw [List.length_set, wipe_length]; omega)]
        simp [hl]
    · rw [List.getElem?_set_ne h, wipe_get vs τ j]
      have : (j ∈ v :: vs) ↔ j ∈ vs := by simp [Ne.symm h]
      simp only [this]
theorem wipe_slt {vs : List Nat} {τ τ' : L2.St} (h : Slt vs (wipe τ vs) τ') : wipe τ' vs = wipe τ vs := by
  apply List.ext_getElem?
  intro j
  have hl : τ'.length = τ.length := by rw [h.len, wipe_length]
  rw [wipe_get, wipe_get, hl]
  by_cases hj : j ∈ vs
  · rw [if_pos hj, if_pos hj]
  · rw [if_neg hj, if_neg hj, h.at_ j hj, wipe_get, if_neg hj]
theorem wipeE_len : ∀ (vs : List Nat) (σ : Env), (wipeE σ vs).length = σ.length
  | [], _ => rfl
  | v :: vs, σ => by unfold wipeE; rw [List.length_set, wipeE_len vs σ]
theorem as_wipe {ms H σ τ} (A : AS T ms H σ τ) : ∀ vs, AS T ms H (wipeE σ vs) (wipe τ vs)
  | [] => A
  | v :: vs => (as_wipe A vs).unset v
mutual
theorem own_slots (N : List Str) : ∀ g : G, (ownG N g).map (·.2) = slotsG g
  | .nm i => rfl
  | .tp gs => own_slotss N gs
theorem own_slotss (N : List Str) : ∀ gs : List G, (ownG.ownGs N gs).map (·.2) = slotsG.slotsGs gs
  | [] => rfl
  | g :: gs => by
    simp only [ownG.ownGs, slotsG.slotsGs, List.map_append, own_slots N g, own_slotss N gs]
end
/-! ### the loop -/
theorem src_dec (st : Store) (src : Option (Nat × O)) : srcB st src = true ↔ SrcOk st src := by
  cases src with
  | none => simp [SrcOk, srcB]
  | some p => simp [SrcOk, srcB]
theorem lcL_noex {el : Env → Store → R D} {c : Env → Store → R Bool} {g : G} {src : Option (Nat × O)} {σ : Env} : ∀ {ds : List D} {st : Store} {x : Nat} {pl : List D} {st2 : Store}, lcL el c g src σ ds st ≠ .ex x pl st2
  | [], st, x, pl, st2 => by simp [lcL]
  | d :: ds, st, x, pl, st2 => by
    intro h
    simp only [lcL] at h
    split at h
    · cases h
    · split at h
      · split at h
        · split at h
          · rename_i st3 _ _
            cases e : lcL el c g src σ ds _ with
            | ok vs s => rw [e] at h; cases h
            | ex a b s => exact lcL_noex e
            | bad => rw [e] at h; cases h
          · cases h
        · cases h
      · split at h
        · exact lcL_noex h
        · cases h
      · cases h
/-- one turn -/
theorem lcL_cons {el : Env → Store → R D} {c : Env → Store → R Bool} {g : G} {src : Option (Nat × O)} {σ : Env} {d : D} {ds out : List D} {st st2 : Store} (h : lcL el c g src σ (d :: ds) st = .ok out st2) :
    ∃ σ1 y sta, bindG g d σ = some σ1 ∧ c σ1 st = .ok y sta ∧ ((y = true ∧ ∃ v stb r, el σ1 sta = .ok v stb ∧ SrcOk stb src ∧ lcL el c g src σ ds stb = .ok r st2 ∧ out = v :: r) ∨ (y = false ∧ SrcOk sta src ∧ lcL el c g src σ ds sta = .ok out st2)) := by
  simp only [lcL] at h
  cases hb : bindG g d σ with
  | none => rw [hb] at h; cases h
  | some σ1 =>
    rw [hb] at h
    simp only at h
    cases hc : c σ1 st with
    | ex a b s => rw [hc] at h; cases h
    | bad => rw [hc] at h; cases h
    | ok y sta =>
      rw [hc] at h
      refine ⟨σ1, y, sta, rfl, hc, ?_⟩
      cases y with
      | true =>
        simp only at h
        cases he : el σ1 sta with
        | ex a b s => rw [he] at h; cases h
        | bad => rw [he] at h; cases h
        | ok v stb =>
          rw [he] at h
          simp only at h
          split at h
          · rename_i hs
            cases hr : lcL el c g src σ ds stb with
            | ex a b s => rw [hr] at h; cases h
            | bad => rw [hr] at h; cases h
            | ok r s =>
              rw [hr] at h
              cases h
              exact .inl ⟨rfl, v, stb, r, rfl, (src_dec _ _).mp hs, hr, rfl⟩
          · cases h
      | false =>
        simp only at h
        split at h
        · rename_i hs
          exact .inr ⟨rfl, (src_dec _ _).mp hs, h⟩
        · cases h
theorem evI_src {it : I} {σ : Env} {st st' : Store} {wk : Wk} {cf : CallF} {P : Pg} (h : evI P cf σ it st = .ok wk st') : SrcOk st' wk.2 := by
  have b1 : ∀ {α β : Type} {r : R α} {f : α → Store → R β} {a : β} {s : Store}, r.bind f = .ok a s → ∃ x s1, r = .ok x s1 ∧ f x s1 = .ok a s := fun {α β r f a s} h => by
    cases r with
    | ok x s1 => exact ⟨x, s1, rfl, h⟩
    | ex => cases h
    | bad => cases h
  cases it with
  | seq e =>
    simp only [evI] at h
    obtain ⟨d, s1, _, h⟩ := b1 h
    unfold seqI at h
    cases hl : look s1 d <;> rw [hl] at h <;> first | (cases h; done) | skip
    · cases h; trivial
    · cases h; trivial
    · cases h; exact src_of _ _
  | rng1 a =>
    simp only [evI] at h
    obtain ⟨d, s1, _, h⟩ := b1 h
    cases d <;> first | (cases h; done) | skip
    simp only at h
    split at h <;> cases h
    trivial
  | rng2 a b =>
    simp only [evI] at h
    obtain ⟨d, s1, _, h⟩ := b1 h
    obtain ⟨e, s2, _, h⟩ := b1 h
    cases d <;> cases e <;> first | (cases h; done) | skip
    simp only at h
    split at h <;> cases h
    trivial
  | rng3 a b c =>
    simp only [evI] at h
    obtain ⟨d, s1, _, h⟩ := b1 h
    obtain ⟨e, s2, _, h⟩ := b1 h
    obtain ⟨f, s3, _, h⟩ := b1 h
    cases d <;> cases e <;> cases f <;> first | (cases h; done) | skip
    simp only at h
    split at h <;> cases h
    trivial
  | zip a b =>
    simp only [evI] at h
    obtain ⟨d, s1, _, h⟩ := b1 h
    obtain ⟨e, s2, _, h⟩ := b1 h
    cases d <;> cases e <;> first | (cases h; done) | (cases h; trivial)
  | enm a =>
    simp only [evI] at h
    obtain ⟨d, s1, _, h⟩ := b1 h
    cases hl : look s1 d <;> rw [hl] at h <;> first | (cases h; done) | (cases h; exact src_of _ _) | (cases h; trivial)
  | rev a =>
    simp only [evI] at h
    obtain ⟨d, s1, _, h⟩ := b1 h
    cases hl : look s1 d <;> rw [hl] at h <;> first | (cases h; done) | (cases h; exact src_of _ _)
  | itm a =>
    simp only [evI] at h
    obtain ⟨d, s1, _, h⟩ := b1 h
    cases hl : look s1 d <;> rw [hl] at h <;> first | (cases h; done) | (cases h; exact src_of _ _)
  | vls a =>
    simp only [evI] at h
    obtain ⟨d, s1, _, h⟩ := b1 h
    cases hl : look s1 d <;> rw [hl] at h <;> first | (cases h; done) | (cases h; exact src_of _ _)
end CT

set_option maxRecDepth 100000
/-! List comprehensions, as expressions. -/
namespace CT
open PySem L2 PyProof.Rows
variable {T : TT} {k : Nat}
theorem TOk.hide {nm : Nm} (t : TOk T nm) (hs : List Addr) : TOk (T.hide hs) nm := { t with gl := fun g d h => t.gl g d h }
abbrev W0 : WX := fun _ _ _ _ => False
theorem good_blk {W : WX} {c : MC} {X : Cx} (g : Good T k W c X) {scope : Scope} {own : List (Str × Nat)} (ho : ownB scope c.sc own = true) (hs : List Addr) (s : Shared) (H : Hp) (C : Addr) (cl : List (Str × Addr)) (fp : List Addr) :
    Good (T.hide hs) k W0 (c.blk scope own) (X.blk s H scope (compEnvC scope cl C X.env) fp) where
  pp := g.pp
  w := g.w
  K := g.K
  mg := g.mg
  base := g.base
  N := g.N
  nd := g.nd
  sc := by
    show relabel scope X.env = relS scope c.sc
    rw [← g.sc]
    rfl
  stor := fun x hx => by
    obtain ⟨p, hp, rfl⟩ := List.mem_map.mp hx
    unfold ownB at ho
    have h := List.all_eq_true.mp ho p hp
    simp only [Bool.or_eq_true, decide_eq_true_eq] at h
    rcases h with h | h
    · exact .inl (by show (scope.names.lookup p.1 == some .cell) = true; rw [h]; rfl)
    · refine .inr ?_
      show (relabel scope X.env).names.lookup p.1 = some .local
      rw [← g.sc] at h
      exact h
  calm := g.calm
  room := g.room
  units := g.units
  grd := g.grd
  tk := takes_none5
  tok := g.tok.hide hs
  fns := fun h hs2 f => g.fns h hs2 f
/-- the readings within a block -/
def tGb (T : TT) (g : G) : TG := fun v τ H Q => ∃ hs, tG (T.hide hs) g v τ H Q
def tEb (T : TT) (k : Nat) (e : E) : TE := fun τ H Q => ∃ hs, tE (T.hide hs) k W0 e τ H Q
def tTb (T : TT) (k : Nat) (e : E) : L2.TT := fun τ H Q => ∃ hs ms σ st, At (T.hide hs) σ st ms τ H ∧ Pst (T.hide hs) W0 τ ms H (if e.isNo then .ok true st else evT T.P (runF T.P k) σ e st) relB Q
theorem as_hid {ms : List Addr} {H : Hp} {T' : TT} {σ : Env} {τ : L2.St} (h : Hid T T' H) (A : AS T ms H σ τ) : AS T' ms H σ τ := ⟨A.len, fun i d e => let ⟨v, h1, h2⟩ := A.at_ i d e; ⟨v, h1, h2.hid h⟩⟩
theorem ah_hid {ms : List Addr} {H : Hp} {T' : TT} {st : Store} (h : Hid T T' H) (hh : ∀ p ∈ T'.hid, H p ≠ none ∧ p ∉ ms) (A : AH T ms st H) : AH T' ms st H := ⟨A.len, A.nd, hh, fun i p o h1 h2 => by
  have r := A.at_ i p o h1 h2
  cases r with
  | lst e r z => exact .lst e (r.hid h) z
  | dct e r z => exact .dct e (r.hid h) z
  | ins e c r kk =>
    have r' := r.hid h
    obtain ⟨hs, rfl, _⟩ := h
    exact .ins (T := T.hide hs) e c r' kk⟩
theorem ro_hid {ms : List Addr} {H : Hp} {T' : TT} {p : Addr} {o : O} (h : Hid T T' H) (r : RO T ms H p o) : RO T' ms H p o := by
  cases r with
  | lst e r z => exact .lst e (r.hid h) z
  | dct e r z => exact .dct e (r.hid h) z
  | ins e c r kk =>
    have r' := r.hid h
    obtain ⟨hs, rfl, _⟩ := h
    exact .ins (T := T.hide hs) e c r' kk
/-- the loop's state at a turn -/
structure LcI (T : TT) (k : Nat) (el cnd : E) (tg : G) (wk : Wk) (σ : Env) (τ : L2.St) (ms1 : List Addr) (H1 : Hp) (X : Addr) (ds : List D) (st2 : Store) (i : Nat) (H : Hp) : Prop where
  le : i ≤ wk.1.length
  ex : ∃ ms' st' acc accD rest, Evo ms1 H1 ms' H ∧ AH (T.hide (X :: T.hid)) ms' st' H ∧ SrcOk st' wk.2 ∧ H X = some (.lst acc) ∧ RDs (T.hide (X :: T.hid)) ms' H accD acc ∧
    lcL (fun σ st => evE T.P (runF T.P k) σ el st) (fun σ st => if cnd.isNo then .ok true st else boolD (evE T.P (runF T.P k) σ cnd st)) tg wk.2 (wipeE σ (slotsG tg)) (wk.1.drop i) st' = .ok rest st2 ∧ accD ++ rest = ds
/-- what a comprehension's rule asks -/
structure LcP (T : TT) (k : Nat) (W : WX) (c : MC) (X : Cx) (el cnd : E) (tg : G) (it : I) (x1 t i : Expr) (ifs : List Expr) (scope : Scope) : Prop where
  cm : c.cm = true
  pi : PI X t i (tI T k W it)
  ok : BlkOk X.N X.env.scope scope (ownG c.N tg)
  hg : ∀ (s : Shared) (H : Hp) (C : Addr) (cl : List (Str × Addr)) (fp : List Addr), PG (X.blk s H scope (compEnvC scope cl C X.env) fp) t (tGb T tg)
  hel : ∀ (s : Shared) (H : Hp) (C : Addr) (cl : List (Str × Addr)) (fp : List Addr), PE (X.blk s H scope (compEnvC scope cl C X.env) fp) x1 (tEb T k el)
  ht : ∀ (s : Shared) (H : Hp) (C : Addr) (cl : List (Str × Addr)) (fp : List Addr), PTs (X.blk s H scope (compEnvC scope cl C X.env) fp) ifs (tTb T k cnd)
  set : ∀ x, foldedSetIterable i X.env x = pure x
theorem lc_parts {el cnd : E} {tg : G} {it : I} (hi : SI T k it) (he : ∀ T, SE T k el) (hc : ∀ T, SE T k cnd) {m : Bool} {W : WX} {c : MC} {X : Cx} {x1 t i : Expr} {ifs : List Expr} {scope : Scope} {pos : Pos} (g : Good T k W c X) (h : mE c (.lc m el tg it cnd) (.ListComp x1 [⟨t, i, ifs, 0⟩] scope pos) = true) :
    LcP T k W c X el cnd tg it x1 t i ifs scope := by
  simp only [mE] at h
  rw [Bool.and_eq_true, Bool.and_eq_true, Bool.and_eq_true, Bool.and_eq_true, Bool.and_eq_true, Bool.and_eq_true, Bool.and_eq_true] at h
  obtain ⟨⟨⟨⟨⟨⟨⟨h0, h1⟩, h2⟩, h3⟩, h4⟩, h5⟩, h6⟩, h7⟩ := h
  have hown := own_slots c.N tg
  have hg : ∀ (s : Shared) (H : Hp) (C : Addr) (cl : List (Str × Addr)) (fp : List Addr), PG (X.blk s H scope (compEnvC scope cl C X.env) fp) t (tGb T tg) := fun s H C cl fp =>
    ⟨fun pins s2 σ H2 v u Q I r ⟨hs, hq⟩ => (pg_g (good_blk g h4 hs s H C cl fp) tg t h5).run pins s2 σ H2 v u Q I r hq⟩
  have hel : ∀ (s : Shared) (H : Hp) (C : Addr) (cl : List (Str × Addr)) (fp : List Addr), PE (X.blk s H scope (compEnvC scope cl C X.env) fp) x1 (tEb T k el) := fun s H C cl fp =>
    ⟨fun pins s2 σ H2 Q I ⟨hs, hq⟩ => ((he (T.hide hs)).pe W0 _ _ x1 (good_blk g h4 hs s H C cl fp) h6).run pins s2 σ H2 Q I hq⟩
  have ht : ∀ (s : Shared) (H : Hp) (C : Addr) (cl : List (Str × Addr)) (fp : List Addr), PTs (X.blk s H scope (compEnvC scope cl C X.env) fp) ifs (tTb T k cnd) := fun s H C cl fp => by
    rcases ifs with _ | ⟨z, _ | ⟨z2, r⟩⟩
    · refine ⟨fun pins s2 σ H2 Q I ⟨hs, ms, σ', st, A, p⟩ => ?_⟩
      simp only at h7
      rw [if_pos h7] at p
      exact pts_nil.run pins s2 σ H2 Q I (Pst.ok p A.ah rfl)
    · simp only [Bool.and_eq_true, Bool.not_eq_true'] at h7
      refine ⟨fun pins s2 σ H2 Q I ⟨hs, ms, σ', st, A, p⟩ => ?_⟩
      rw [if_neg (by rw [h7.1]; decide)] at p
      exact (pts_one ((hc (T.hide hs)).pt W0 _ _ z (good_blk g h4 hs s H C cl fp) h7.2)).run pins s2 σ H2 Q I ⟨ms, σ', st, A, p⟩
    · cases h7
  exact ⟨h0, hi.pi W c X t i g h0 h1, by rw [g.N, g.sc]; exact blkOk_by h3, hg, hel, ht, fun x => noSet_ok h2 _ x⟩
theorem lc_red {el cnd : E} {tg : G} {it : I} {m : Bool} {W : WX} {N : List Str} : ∀ τ H Q, tE T k W (.lc m el tg it cnd) τ H Q → tLc (tI T k W it) (tGb T tg) (tTb T k cnd) (tEb T k el) ((ownG N tg).map (·.2)) τ H Q := by
  have hown := own_slots N tg
  rintro τ H Q ⟨ms, σ, st, A, pp⟩
  simp only [evE] at pp
  refine ⟨ms, σ, st, A, Pst.bind pp fun wk st1 J ms1 H1 heq ev ah fd p1 => ?_⟩
  have hsrc := evI_src heq
  clear heq pp
  intro Y hY
  cases hr : lcL (fun σ st => evE T.P (runF T.P k) σ el st) (fun σ st => if cnd.isNo then .ok true st else boolD (evE T.P (runF T.P k) σ cnd st)) tg wk.2 (wipeE σ (slotsG tg)) wk.1 st1 with
  | bad => rw [hr] at p1; exact p1.elim
  | ex a b s => exact (lcL_noex hr).elim
  | ok ds st2 =>
    rw [hr] at p1
    simp only [R.bind] at p1
    by_cases hz : ds.length ≤ LIM
    case neg => rw [if_neg hz] at p1; exact p1.elim
    rw [if_pos hz] at p1
    have hh : Hid T (T.hide (Y :: T.hid)) H1 := ⟨Y :: T.hid, rfl, fun p hp => (List.mem_cons.mp hp).elim (fun e => .inr (by rw [e]; exact hY)) .inl⟩
    have hYhid : Y ∉ T.hid := fun z => (ah.hd Y z).1 hY
    have evY : ∀ {o : HO}, Evo ms1 H1 ms1 (upd H1 Y o) := fun {o} => Evo.new ah hY
    have asW : AS T ms1 H1 σ τ := A.as.mono ev
    rw [hown]
    refine ⟨fun i mm H => mm = wk.1.length - i ∧ LcI T k el cnd tg wk σ τ ms1 H1 Y ds st2 i H, ⟨_, rfl, Nat.zero_le _, ?_⟩, ?_⟩
    · have ahY : AH (T.hide (Y :: T.hid)) ms1 st1 (upd H1 Y (.lst [])) := ⟨ah.len, ah.nd, fun p hp => by
        rcases List.mem_cons.mp hp with e | e
        · subst e; exact ⟨by rw [upd_same]; simp, ah.fresh1 hY⟩
        · exact ⟨upd_some (ah.hd p e).1, (ah.hd p e).2⟩, fun i p o h1 h2 => (ro_hid hh (ah.at_ i p o h1 h2)).mono evY (upd_ne fun e => by subst e; exact ah.fresh1 hY (mem_at h1))⟩
      exact ⟨ms1, st1, [], [], ds, evY, ahY, hsrc, upd_same, .nil, hr, rfl⟩
    · rintro i mm H2 ⟨rfl, le, ms', st', acc, accD, rest, ev2, ah2, hs2, hacc, racc, hlc, happ⟩
      have hYm : Y ∈ (T.hide (Y :: T.hid)).hid := List.mem_cons_self ..
      by_cases hlt : i < wk.1.length
      · have hd : wk.1[i]? = some wk.1[i] := List.getElem?_eq_getElem hlt
        rw [List.drop_eq_getElem_cons hlt] at hlc
        obtain ⟨σ1, y, sta, hb, hcnd, hcase⟩ := lcL_cons hlc
        obtain ⟨jgo, jy⟩ := fd.go (T.hide (Y :: T.hid)) ms' st' H2 i _ hh ev2 ah2 hs2 hd
        refine .inr ⟨jgo, fun H' => LcI T k el cnd tg wk σ τ ms1 H1 Y ds st2 (i + 1) H', fun H' w => ⟨wk.1.length - (i + 1), by omega, rfl, w⟩, fun v H3 yy => ?_⟩
        obtain ⟨ms3, ev3, ah3, rd3⟩ := jy v H3 yy
        have as2 : AS (T.hide (Y :: T.hid)) ms' H2 σ τ := (as_hid hh asW).mono ev2
        have asw := (as_wipe as2 (slotsG tg)).mono ev3
        have hY3 : H3 Y = some (.lst acc) := (ev3.keep _ _ hacc (ah2.hd Y hYm).2).1
        refine ⟨Y :: T.hid, ms3, wipeE σ (slotsG tg), st', wk.1[i], σ1, ⟨ah3, asw⟩, rd3, hb, fun ms4 τ4 H4 ev4 ah4 as4 sl4 => ⟨wipe_slt sl4, ?_⟩⟩
        have hY4 : H4 Y = some (.lst acc) := (ev4.keep _ _ hY3 (ah3.hd Y hYm).2).1
        refine ⟨Y :: T.hid, ms4, σ1, st', ⟨ah4, as4⟩, ?_⟩
        have hcnd' : (if cnd.isNo then R.ok true st' else evT T.P (runF T.P k) σ1 cnd st') = .ok y sta := hcnd
        rw [hcnd']
        intro b ms5 H5 ev5 ah5 rb
        have eb : y = b := rb
        subst eb
        have hY5 : H5 Y = some (.lst acc) := (ev5.keep _ _ hY4 (ah4.hd Y hYm).2).1
        have ev35 := ev3.trans (ev4.trans ev5)
        rcases hcase with ⟨rfl, v2, stb, r, hel2, hsb, hlc2, rfl⟩ | ⟨rfl, hsa, hlc2⟩
        · rw [if_pos rfl]
          refine ⟨Y :: T.hid, ms5, σ1, sta, ⟨ah5, as4.mono ev5⟩, ?_⟩
          have hel3 : evE (T.hide (Y :: T.hid)).P (runF (T.hide (Y :: T.hid)).P k) σ1 el sta = .ok v2 stb := hel2
          rw [hel3]
          intro w ms6 H6 ev6 ah6 rw6
          have hY6 : H6 Y = some (.lst acc) := (ev6.keep _ _ hY5 (ah5.hd Y hYm).2).1
          have e16 := ev2.trans (ev35.trans ev6)
          have hlen : acc.length < sizeLine := by
            have h1 := racc.length
            have h2 := congrArg List.length happ
            rw [List.length_append, List.length_cons] at h2
            rw [sim]; omega
          refine ⟨acc, hY6, hlen, hlt, ms6, stb, acc ++ [w], accD ++ [v2], r, ⟨e16.pre, fun p o hp hn => ?_⟩, ah6.updH hYm, hsb, upd_same, ?_, hlc2, by rw [List.append_assoc]; exact happ⟩
          · obtain ⟨k1, k2⟩ := e16.keep p o hp hn
            exact ⟨by rw [upd_ne (ne_of_none hp hY)]; exact k1, k2⟩
          · exact ((racc.mono (ev35.trans ev6)).append (.cons rw6 .nil)).upd hYm
        · rw [if_neg (by decide)]
          exact ⟨hlt, ms5, sta, acc, accD, rest, ev2.trans ev35, ah5, hsa, hY5, racc.mono ev35, hlc2, happ⟩
      · have ei : i = wk.1.length := by omega
        subst ei
        rw [List.drop_length] at hlc
        simp only [lcL] at hlc
        obtain ⟨erest, est⟩ : rest = [] ∧ st' = st2 := by cases hlc; exact ⟨rfl, rfl⟩
        subst erest
        subst est
        rw [List.append_nil] at happ
        subst happ
        refine .inl ⟨fd.fin (T.hide (Y :: T.hid)) ms' st' H2 hh ev2 ah2 hs2, ?_⟩
        have hno : ∀ p, (T.hide (Y :: T.hid)).no ms' p → (T.hide T.hid).no ms' p := fun p n => ⟨n.1, fun z => n.2 (List.mem_cons_of_mem _ z)⟩
        have hYms : Y ∉ ms' := (ah2.hd Y hYm).2
        cases m with
        | false =>
          have ahT : AH T ms' st' H2 := ⟨ah2.len, ah2.nd, fun p hp => ah2.hd p (List.mem_cons_of_mem _ hp), fun i p o h1 h2 => RO.re (b := T.hid) hno (fun _ _ e => e) (ah2.at_ i p o h1 h2)⟩
          exact p1 (.ref Y) ms' H2 ev2 ahT (.lst (.inl ⟨⟨hYms, hYhid⟩, .inl hacc⟩) (RDs.re (b := T.hid) hno (fun _ _ e => e) racc) hz)
        | true =>
          have hno2 : ∀ p, (T.hide (Y :: T.hid)).no ms' p → (T.hide T.hid).no (ms' ++ [Y]) p := fun p n => ⟨fun z => by
            rcases List.mem_append.mp z with z | z
            · exact n.1 z
            · have e : p = Y := by simpa using z
              exact n.2 (by rw [e]; exact hYm), fun z => n.2 (List.mem_cons_of_mem _ z)⟩
          have hat2 : ∀ (i : Nat) (p : Addr), ms'[i]? = some p → (ms' ++ [Y])[i]? = some p := fun i p e => by
            rw [List.getElem?_append_left (List.getElem?_eq_some_iff.mp e).1]; exact e
          have ahT : AH T (ms' ++ [Y]) (st' ++ [.lst accD]) H2 := by
            refine ⟨by simp [ah2.len], by
              rw [List.nodup_append]
              exact ⟨ah2.nd, List.nodup_cons.mpr ⟨by simp, List.nodup_nil⟩, fun a ha b hb => by
                have e : b = Y := by simpa using hb
                subst e; exact fun z => hYms (z ▸ ha)⟩, fun p hp => ⟨(ah2.hd p (List.mem_cons_of_mem _ hp)).1, fun z => by
              rcases List.mem_append.mp z with z | z
              · exact (ah2.hd p (List.mem_cons_of_mem _ hp)).2 z
              · have e : p = Y := by simpa using z
                subst e; exact hYhid hp⟩, fun i p o h1 h2 => ?_⟩
            by_cases hi : i < ms'.length
            · rw [List.getElem?_append_left hi] at h1
              rw [List.getElem?_append_left (ah2.len ▸ hi)] at h2
              exact RO.re (b := T.hid) hno2 hat2 (ah2.at_ i p o h1 h2)
            · have hi' : i < (ms' ++ [Y]).length := (List.getElem?_eq_some_iff.mp h1).1
              rw [List.length_append, List.length_singleton] at hi'
              have e : i = ms'.length := by omega
              subst e
              have hl := ah2.len
              rw [List.getElem?_append_right (Nat.le_refl _)] at h1
              rw [List.getElem?_append_right (by omega)] at h2
              simp at h1
              rw [hl] at h2
              simp at h2
              subst h1; subst h2
              exact .lst hacc (RDs.re (b := T.hid) hno2 hat2 racc) hz
          have evT : Evo ms1 H1 (ms' ++ [Y]) H2 := ⟨ev2.pre.trans (List.prefix_append _ _), fun p o hp hn => by
            obtain ⟨k1, k2⟩ := ev2.keep p o hp hn
            have hne := ne_of_none hp hY
            exact ⟨k1, by simp [k2, hne]⟩⟩
          refine p1 (.ref Y) _ H2 evT ahT (.ref ?_)
          rw [← ah2.len, List.getElem?_append_right (Nat.le_refl _)]
          simp
theorem se_lc {m : Bool} {el cnd : E} {tg : G} {it : I} (hi : SI T k it) (he : ∀ T, SE T k el) (hc : ∀ T, SE T k cnd) : SE T k (.lc m el tg it cnd) := by
  refine ⟨fun W c X x g h => ?_, no_pt fun c x => by simp only [mT]⟩
  have h0 := h
  simp only [mE] at h
  split at h <;> first | (cases h; done) | skip
  clear h
  have P := lc_parts hi he hc g h0
  exact PE.imp (pe_lc (g.calm P.cm) (by rw [g.N]; exact g.nd) P.pi P.ok P.hg P.ht P.hel P.set) lc_red
end CT

set_option maxRecDepth 100000
/-! Statements. -/
namespace CT
open PySem L2 PyProof.Rows
variable {T : TT} {k : Nat}

def PstS (T : TT) (W : WX) (ms : List Addr) (H : Hp) (r : SR) (D : Ends) : Prop := match r with
  | .nx σ st => ∀ ms' τ' H', Evo ms H ms' H' → AH T ms' st H' → AS T ms' H' σ τ' → D.nx τ' H'
  | .rt d st => ∀ v ms' H', Evo ms H ms' H' → AH T ms' st H' → RD T ms' H' d v → D.rt v H'
  | .ex c pl σ st => ∀ dd ms' τ' H', Evo ms H ms' H' → AH T ms' st H' → AS T ms' H' σ τ' → RX T ms' H' c pl dd → W (.ref (T.xa c)) dd τ' H'
  | .bad => False
section
variable {W : WX} {ms ms' : List Addr} {H H' : Hp} {α β : Type}
theorem PstS.mono {r : SR} {D : Ends} (e : Evo ms H ms' H') (h : PstS T W ms H r D) : PstS T W ms' H' r D := by
  cases r with
  | nx σ st => exact fun ms2 τ2 H2 e2 => h ms2 τ2 H2 (e.trans e2)
  | rt d st => exact fun v ms2 H2 e2 => h v ms2 H2 (e.trans e2)
  | ex c pl σ st => exact fun dd ms2 τ2 H2 e2 => h dd ms2 τ2 H2 (e.trans e2)
  | bad => exact h
theorem PstS.of {r : R α} {σ : Env} {τ : L2.St} {f : α → Store → SR} {D : Ends} {rel : List Addr → Hp → α → β → Prop} {Q : β → Hp → Prop} (h : PstS T W ms H (SR.of r σ f) D) (as : AS T ms H σ τ)
    (kk : ∀ a st1 b ms1 H1, r = .ok a st1 → Evo ms H ms1 H1 → AH T ms1 st1 H1 → AS T ms1 H1 σ τ → rel ms1 H1 a b → PstS T W ms1 H1 (f a st1) D → Q b H1) : Pst T W τ ms H r rel Q := by
  cases r with
  | ok a st => exact fun b ms1 H1 e A hr => kk a st b ms1 H1 rfl e A (as.mono e) hr (PstS.mono e h)
  | ex c pl st => exact fun dd ms1 H1 e A hx => h dd ms1 τ H1 e A (as.mono e) hx
  | bad => exact h
theorem PstS.nx {σ : Env} {τ : L2.St} {st : Store} {D : Ends} (h : PstS T W ms H (.nx σ st) D) (A : AH T ms st H) (as : AS T ms H σ τ) : D.nx τ H := h ms τ H .refl A as
end
def tS (T : TT) (k : Nat) (W : WX) (s : S) : TS := fun D τ H => ∃ ms σ st, At T σ st ms τ H ∧ PstS T W ms H (evS T.P (runF T.P k) σ s st) D
def tSs (T : TT) (k : Nat) (W : WX) (s : Ss) : TS := fun D τ H => ∃ ms σ st, At T σ st ms τ H ∧ PstS T W ms H (evSs T.P (runF T.P k) σ s st) D
theorem PS.imp {X : Cx} {s : Stmt} {t t' : TS} (h : PS X s t) (i : ∀ D σ H, t' D σ H → t D σ H) : PS X s t' := ⟨fun pins s σ H D I hq => h.run pins s σ H D I (i _ _ _ hq)⟩
theorem PSs.imp {X : Cx} {s : List Stmt} {t t' : TS} (h : PSs X s t) (i : ∀ D σ H, t' D σ H → t D σ H) : PSs X s t' := ⟨fun pins s σ H D I hq => h.run pins s σ H D I (i _ _ _ hq)⟩

/-! ### the syntax -/
/-- a comprehension whose list is stored as it is left -/
def swB (c : MC) (x : Str) (px : Pos) (scope : Scope) (pv : Pos) : Bool := decide (c.sc.names.lookup x = some .local) && (px.line == pv.line) && !(scope.names.any fun (n, k) => n == x && (k == .local || k == .cell))
def kindF (sc : Scope) : Bool := match sc.kind with
  | .function => true
  | _ => false
def isLC : Expr → Bool
  | .ListComp _ _ _ _ => true
  | _ => false
/-- several names' stores exchanged, as the text's compiler does -/
def swC (c : MC) (ts vs : List Expr) : Option (Option (List Str)) :=
  if !(ts.length == 2 || ts.length == 3) || vs.length != ts.length then some none else
  if vs.any (fun | .Starred .. => true | _ => false) then some none else
  if (ts.filterMap fun
    | .Name id pos => if c.sc.names.lookup id == some .local && pos.line == ((ts.head?.map (·.pos.line)).getD 0) then some id else none
    | _ => none).length != ts.length || (ts.filterMap fun
    | .Name id pos => if c.sc.names.lookup id == some .local && pos.line == ((ts.head?.map (·.pos.line)).getD 0) then some id else none
    | _ => none).eraseDups.length != (ts.filterMap fun
    | .Name id pos => if c.sc.names.lookup id == some .local && pos.line == ((ts.head?.map (·.pos.line)).getD 0) then some id else none
    | _ => none).length then some none else
  if vs.all (foldedForSure 8) then some none else
  if vs.all (constantsAlone 8) then none else
  some (some (ts.filterMap fun
    | .Name id pos => if c.sc.names.lookup id == some .local && pos.line == ((ts.head?.map (·.pos.line)).getD 0) then some id else none
    | _ => none))
def noSwap (c : MC) (xs : List Expr) : Expr → Bool
  | .Tuple vs _ _ => decide (swC c xs vs = some none)
  | _ => true
/-- an except clause's name -/
def slotB (c : MC) : Option Nat → Option Str → Bool
  | none, none => true
  | some i, some n => decide (c.N[i]? = some n) && decide (c.sc.names.lookup n = some .local)
  | _, _ => false
mutual
def mS (c : MC) : S → Stmt → Bool
  | .asg t e, x0 => match t with
    | .g (.nm i) => (match x0 with
      | .Assign [.Name x px] v _ => decide (c.N[i]? = some x) && locB c.sc x && decide (x ∈ c.stor) && kindF c.sc && mE c e v && (plainV v || isLC v)
      | _ => false)
    | .g (.tp gs) => (match x0 with
      | .Assign [.Tuple xs kk p] v _ => mG c (.tp gs) (.Tuple xs kk p) && (kindF c.sc && noSwap c xs v) && mE c e v
      | _ => false)
    | .sub a i => (match x0 with
      | .Assign [.Subscript o ix _] v _ => c.cm && mE c e v && mE c a o && mE c i ix && noSlice ix
      | _ => false)
    | .fld a f => (match x0 with
      | .Assign [.Attribute o n _] v _ => c.cm && mE c e v && mE c a o && decide (n = c.nm.fd f)
      | _ => false)
  | .par i j a b, x0 => match x0 with
    | .Assign [.Tuple [.Name x px, .Name y py] _ _] (.Tuple [u, v] _ _) _ => c.cm && kindF c.sc && decide (c.N[i]? = some x) && decide (c.N[j]? = some y) && decide (i ≠ j) && decide (c.sc.names.lookup x = some .local) && decide (c.sc.names.lookup y = some .local) &&
        decide (swC c [.Name x px, .Name y py] [u, v] = some (some [x, y])) && mE c a u && noStar u && mE c b v && noStar v
    | _ => false
  | .exp e, x0 => match x0 with
    | .Expr v _ => plainV v && mE c e v
    | _ => false
  | .ret e, x0 => match x0 with
    | .Return (some v) _ => mE c e v
    | _ => false
  | .iff t a b, x0 => match x0 with
    | .If z xs ys _ => mT c t z && mSs c a xs && mSs c b ys
    | _ => false
  | .fr g it b, x0 => match x0 with
    | .For tg i body [] _ => c.cm && mI c it tg i && noSet i && mG c g tg && mSs c b body
    | _ => false
  | .whl t b, x0 => match x0 with
    | .While z body [] _ => c.cm && mT c t z && mSs c b body
    | _ => false
  | .pss, x0 => match x0 with
    | .Pass _ => true
    | _ => false
  | .rse k es, x0 => match x0 with
    | .Raise (some (.Call (.Name x _) [e] [] _)) none _ => c.cm && decide (x = c.nm.xc k) && !(x == ("" : Str)) && glbB c x && mEs c es [e]
    | _ => false
  | .tr b hs, x0 => match x0 with
    | .Try body (h₀ :: hds) [] [] _ => c.cm && mSs c b body && mHs c hs (h₀ :: hds)
    | _ => false
def mSs (c : MC) : Ss → List Stmt → Bool
  | .nil, [] => true
  | .cons s r, x :: xs => mS c s x && mSs c r xs
  | _, _ => false
/-- the clauses; within their suites nothing is called -/
def mHs (c : MC) : Hs → List ExceptHandler → Bool
  | .nil, [] => true
  | .cons k i b r, .ExceptHandler (some (.Name x _)) n (s₀ :: suite) _ :: hds => decide (x = c.nm.xc k) && !(x == ("" : Str)) && glbB c x && slotB c i n && mSs { c with cm := false } b (s₀ :: suite) && mHs c r hds
  | _, _ => false
end
/-- a place within a def's body -/
structure Pas (X : Cx) : Prop where
  own : PassesOwn (model X.prog X.w) X.A X.env X.xe
  stk : X.stack = X.env :: X.outer
  frm : X.env.frame = some X.env.locals
  nex : X.ex = []
structure SS (T : TT) (k : Nat) (s : S) : Prop where
  ps : ∀ (W : WX) (c : MC) (X : Cx) (x : Stmt), Good T k W c X → Pas X → mS c s x = true → PS X x (tS T k W s)
structure SSs (T : TT) (k : Nat) (s : Ss) : Prop where
  ps : ∀ (W : WX) (c : MC) (X : Cx) (x : List Stmt), Good T k W c X → Pas X → mSs c s x = true → PSs X x (tSs T k W s)
theorem ss_nil : SSs T k .nil := ⟨fun W c X xs g hp h => by
  cases xs with
  | cons => simp only [mSs, Bool.false_eq_true] at h
  | nil =>
    refine PSs.imp pss_nil ?_
    rintro D τ H ⟨ms, σ, st, A, p⟩
    simp only [evSs] at p
    exact p.nx A.ah A.as⟩
theorem ss_cons {s : S} {r : Ss} (hs : SS T k s) (hr : SSs T k r) : SSs T k (.cons s r) := ⟨fun W c X xs g hp h => by
  cases xs with
  | nil => simp only [mSs, Bool.false_eq_true] at h
  | cons x xs =>
    simp only [mSs, Bool.and_eq_true] at h
    refine PSs.imp (pss_cons (hs.ps W c X x g hp h.1) (hr.ps W c X xs g hp h.2)) ?_
    rintro D τ H ⟨ms, σ, st, A, p⟩
    simp only [evSs] at p
    refine ⟨ms, σ, st, A, ?_⟩
    cases e : evS T.P (runF T.P k) σ s st with
    | nx σ2 st2 =>
      rw [e] at p
      simp only [SR.seq] at p
      exact fun ms2 τ2 H2 ev ah as => ⟨ms2, σ2, st2, ⟨ah, as⟩, PstS.mono ev p⟩
    | rt d st2 => rw [e] at p; exact p
    | ex a b σ2 st2 => rw [e] at p; exact p
    | bad => rw [e] at p; exact p⟩
theorem ss_pss : SS T k .pss := ⟨fun W c X x g hp h => by
  simp only [mS] at h
  split at h <;> first | (cases h; done) | skip
  refine PS.imp ps_pass ?_
  rintro D τ H ⟨ms, σ, st, A, p⟩
  simp only [evS] at p
  exact p.nx A.ah A.as⟩
theorem ss_ret {e : E} (he : SE T k e) : SS T k (.ret e) := ⟨fun W c X x g hp h => by
  simp only [mS] at h
  split at h <;> first | (cases h; done) | skip
  refine PS.imp (ps_ret (he.pe W c X _ g h)) ?_
  rintro D τ H ⟨ms, σ, st, A, p⟩
  simp only [evS] at p
  exact ⟨ms, σ, st, A, PstS.of p A.as fun d st1 v ms1 H1 _ ev ah as rd p1 => p1 v ms1 H1 .refl ah rd⟩⟩
theorem ss_exp {e : E} (he : SE T k e) : SS T k (.exp e) := ⟨fun W c X x g hp h => by
  simp only [mS] at h
  split at h <;> first | (cases h; done) | skip
  rw [Bool.and_eq_true] at h
  refine PS.imp (ps_expr (he.pe W c X _ g h.2) (swaps_no h.1 _ _ _)) ?_
  rintro D τ H ⟨ms, σ, st, A, p⟩
  simp only [evS] at p
  exact ⟨ms, σ, st, A, PstS.of p A.as fun d st1 v ms1 H1 _ ev ah as rd p1 => p1.nx ah as⟩⟩
theorem ss_iff {t : E} {a b : Ss} (ht : SE T k t) (ha : SSs T k a) (hb : SSs T k b) : SS T k (.iff t a b) := ⟨fun W c X x g hp h => by
  simp only [mS] at h
  split at h <;> first | (cases h; done) | skip
  rw [Bool.and_eq_true, Bool.and_eq_true] at h
  refine PS.imp (ps_if (ht.pt W c X _ g h.1.1) (ha.ps W c X _ g hp h.1.2) (hb.ps W c X _ g hp h.2)) ?_
  rintro D τ H ⟨ms, σ, st, A, p⟩
  simp only [evS] at p
  refine ⟨ms, σ, st, A, PstS.of (rel := relB) p A.as fun u st1 u' ms1 H1 _ ev ah as rb p1 => ?_⟩
  cases rb
  cases u with
  | true => simp only [if_true] at p1 ⊢; exact ⟨ms1, σ, st1, ⟨ah, as⟩, p1⟩
  | false => simp only [Bool.false_eq_true, if_false] at p1 ⊢; exact ⟨ms1, σ, st1, ⟨ah, as⟩, p1⟩⟩
/-! ### stores -/
theorem look_ref {st : Store} {d : D} : d = look st d ∨ ∃ a, d = .ref a := by
  cases d <;> first | exact .inl rfl | exact .inr ⟨_, rfl⟩
theorem sw_name {c : MC} {X : Cx} {W : WX} (g : Good T k W c X) (hk : kindF c.sc = true) {elt : Expr} {gs : List Comprehension} {scope : Scope} {pos py : Pos} {y : Str} {l : Nat} :
    swapsWith (.ListComp elt gs scope pos) (some (.Name y py)) l X.env = pure (swB c y py scope pos) := by
  have hk2 : X.env.scope.kind = .function := by
    rw [g.sc]
    unfold kindF at hk
    split at hk
    · assumption
    · cases hk
  have hb : X.env.blockKind = .function := by unfold Env.blockKind; rw [hk2]; rfl
  unfold swapsWith swB
  have e : X.env.kindOf y = c.sc.names.lookup y := by rw [← g.sc]; rfl
  rw [hb]
  have key : (ScopeKind.function == ScopeKind.function && X.env.kindOf y == some NameKind.local && py.line == pos.line && !(scope.names.any fun (n, k) => n == y && (k == .local || k == .cell))) = (decide (c.sc.names.lookup y = some .local) && (py.line == pos.line) && !(scope.names.any fun (n, k) => n == y && (k == .local || k == .cell))) := by
    rw [e]
    have e2 : (c.sc.names.lookup y == some NameKind.local) = decide (c.sc.names.lookup y = some .local) := by
      cases c.sc.names.lookup y with
      | none => rfl
      | some q => cases q <;> rfl
    rw [e2]
    rfl
  exact congrArg pure key
theorem put_nm {W : WX} {i : Nat} {e : E} {D : Ends} {τ : L2.St} {H : Hp} (h : tS T k W (.asg (.g (.nm i)) e) D τ H) : tAsg (tE T k W e) (gName i) D τ H := by
  obtain ⟨ms, σ, st, A, p⟩ := h
  simp only [evS] at p
  refine ⟨ms, σ, st, A, PstS.of p A.as fun d st1 v ms1 H1 _ ev ah as rd p1 => ?_⟩
  simp only [putT, bindG] at p1
  exact p1.nx ah (as.set rd i)
theorem ss_nm {i : Nat} {e : E} (he : SE T k e) (hn : ∀ m el tg it cnd, e ≠ .lc m el tg it cnd) : SS T k (.asg (.g (.nm i)) e) := by
  refine ⟨fun W c X x g hp h => ?_⟩
  simp only [mS] at h
  split at h <;> first | (cases h; done) | skip
  simp only [Bool.and_eq_true, decide_eq_true_eq, Bool.or_eq_true] at h
  obtain ⟨⟨⟨⟨⟨h1, h2⟩, h3⟩, h4⟩, h5⟩, h6⟩ := h
  rename_i v _
  have hpl : plainV v = true := by
    rcases h6 with h6 | h6
    · exact h6
    · exfalso
      cases v <;> first | (cases h6; done) | skip
      cases e <;> first | (simp [mE] at h5; done) | exact hn _ _ _ _ _ rfl
  exact PS.imp (ps_set (i := i) (by rw [g.N]; exact g.nd) (by rw [g.N]; exact h1) (by rw [g.sc]; exact loc_of h2) (he.pe W c X _ g h5) (swaps_no hpl _ _ _) (g.stor _ h3)) fun D σ H => put_nm
theorem ss_nmLc {i : Nat} {m : Bool} {el cnd : E} {tg : G} {it : I} (hi : SI T k it) (he : ∀ T, SE T k el) (hc : ∀ T, SE T k cnd) : SS T k (.asg (.g (.nm i)) (.lc m el tg it cnd)) := by
  refine ⟨fun W c X x g hp h => ?_⟩
  simp only [mS] at h
  split at h <;> first | (cases h; done) | skip
  simp only [Bool.and_eq_true, decide_eq_true_eq, Bool.or_eq_true] at h
  obtain ⟨⟨⟨⟨⟨h1, h2⟩, h3⟩, h4⟩, h5⟩, h6⟩ := h
  rename_i y py v ps
  have hv := h5
  simp only [mE] at hv
  split at hv <;> first | (cases hv; done) | skip
  clear hv
  rename_i x1 t i' ifs scope pv
  have P := lc_parts hi he hc g h5
  have hsw := sw_name g h4 (elt := x1) (gs := [⟨t, i', ifs, 0⟩]) (scope := scope) (pos := pv) (py := py) (y := y) (l := ps.line)
  cases hb : swB c y py scope pv with
  | true =>
    rw [hb] at hsw
    have hl : X.env.scope.names.lookup y = some .local := by
      unfold swB at hb
      simp only [Bool.and_eq_true, decide_eq_true_eq] at hb
      rw [g.sc]; exact hb.1.1
    exact PS.imp (ps_setLc (i := i) (g.calm P.cm) (by rw [g.N]; exact g.nd) (by rw [g.N]; exact h1) hl hsw P.pi P.ok P.hg P.ht P.hel P.set) fun D σ H hq => lc_red _ _ _ (put_nm hq)
  | false =>
    rw [hb] at hsw
    exact PS.imp (ps_set (i := i) (by rw [g.N]; exact g.nd) (by rw [g.N]; exact h1) (by rw [g.sc]; exact loc_of h2) ((se_lc hi he hc).pe W c X _ g h5) hsw (g.stor _ h3)) fun D σ H => put_nm
theorem sw_stores {c : MC} {X : Cx} {W : WX} (g : Good T k W c X) (hk : kindF c.sc = true) {ts vs : List Expr} {kt k2 : Nat} {p p2 : Pos} {o : Option (List Str)} (h : swC c ts vs = some o) :
    swappedStores [.Tuple ts kt p] (.Tuple vs k2 p2) X.env = pure o := by
  have hk2 : X.env.scope.kind = .function := by
    rw [g.sc]
    unfold kindF at hk
    split at hk
    · assumption
    · cases hk
  have hb : X.env.blockKind = .function := by unfold Env.blockKind; rw [hk2]; rfl
  have e : ∀ y, X.env.kindOf y = c.sc.names.lookup y := fun y => by rw [← g.sc]; rfl
  unfold swappedStores
  simp only [hb, e]
  unfold swC at h
  split at h
  · rename_i h1
    cases h
    exact if_pos (by rw [h1]; rfl)
  rename_i h1
  refine (if_neg (by simp only [Bool.not_eq_true] at h1; rw [h1]; decide)).trans ?_
  split at h
  · rename_i h2
    cases h
    exact if_pos h2
  rename_i h2
  refine (if_neg h2).trans ?_
  split at h
  · rename_i h3
    cases h
    rw [Bool.or_eq_true] at h3
    rcases h3 with h3 | h3
    · exact if_pos (by rw [Bool.or_eq_true]; exact .inl h3)
    · exact if_pos (by rw [Bool.or_eq_true]; exact .inr h3)
  rename_i h3
  refine (if_neg h3).trans ?_
  split at h
  · rename_i h4
    cases h
    exact if_pos h4
  rename_i h4
  refine (if_neg h4).trans ?_
  split at h
  · cases h
  rename_i h5
  cases h
  exact if_neg h5
/-- several names at once -/
theorem ss_tp {gs : List G} {e : E} (he : SE T k e) : SS T k (.asg (.g (.tp gs)) e) := by
  refine ⟨fun W c X x g hp h => ?_⟩
  simp only [mS] at h
  split at h <;> first | (cases h; done) | skip
  rw [Bool.and_eq_true, Bool.and_eq_true] at h
  obtain ⟨⟨h1, h2⟩, h3⟩ := h
  rename_i xs kk p v ps
  have hsw : swapsWithSole [Expr.Tuple xs kk p] v ps.line X.env = pure false := by
    show swapsWith v (some (.Tuple xs kk p)) ps.line X.env = pure false
    unfold swapsWith
    cases v <;> rfl
  rw [Bool.and_eq_true] at h2
  have hst : swappedStores [Expr.Tuple xs kk p] v X.env = pure none := by
    cases v with
    | Tuple vs k2 p2 => exact sw_stores g h2.1 (by simpa [noSwap] using h2.2)
    | _ => rfl
  refine PS.imp (ps_asg (he.pe W c X _ g h3) (pg_gL g gs _ _ _ h1) hsw hst (by rfl)) ?_
  rintro D τ H ⟨ms, σ, st, A, p⟩
  simp only [evS] at p
  refine ⟨ms, σ, st, A, PstS.of p A.as fun d st1 v ms1 H1 _ ev ah as rd p1 => ?_⟩
  simp only [putT] at p1
  cases hb : bindG (.tp gs) (look st1 d) σ with
  | none => rw [hb] at p1; exact p1.elim
  | some σ1 =>
    rw [hb] at p1
    exact ⟨ms1, σ, st1, d, σ1, ⟨ah, as⟩, rd, hb, fun ms2 τ2 H2 ev2 ah2 as2 _ => p1 ms2 τ2 H2 ev2 ah2 as2⟩

/-! ### o[i] = v -/
def rSub (T : TT) : TSet := fun o i v H Q => ∃ (W : WX) (ms : List Addr) (σ : Env) (τ : L2.St) (st : Store) (x y d : D) (D : Ends), AH T ms st H ∧ AS T ms H σ τ ∧ RD T ms H x o ∧ RD T ms H y i ∧ RD T ms H d v ∧
  PstS T W ms H (match x with
    | .ref a => match st[a]? with
      | some o => match subO o y d with
        | some o' => .nx σ (st.set a o')
        | none => .bad
      | none => .bad
    | _ => .bad) D ∧ ∀ H', D.nx τ H' → Q H'
theorem setS {X : Cx} (hu : X.A.units + 1 < cLine) : PSet X (rSub T) := by
  intro pins s σ H o i v ov iv u Q I ro ri rv h
  obtain ⟨W, ms, σ0, τ, st, x, y, d, D, A, as, rx, ry, rd, p, hQ⟩ := h
  cases x with
  | ref a =>
    simp only at p
    cases ho : st[a]? with
    | none => rw [ho] at p; exact p.elim
    | some ob =>
      rw [ho] at p
      simp only at p
      cases rx with
      | ref hr =>
        rename_i q
        have roo := A.at_ a q ob hr ho
        cases hs : subO ob y d with
        | none => rw [hs] at p; exact p.elim
        | some o' =>
          rw [hs] at p
          cases ob with
          | lst xs =>
            cases y with
            | int kk =>
              simp only [subO] at hs
              obtain ⟨j, hj, rfl⟩ := Option.map_eq_some_iff.mp hs
              cases ry
              cases roo with
              | lst e r z =>
                rename_i vs
                have hj2 : L2.ixN vs.length kk = some j := by rw [← r.length]; exact hj
                refine set_list pins s σ H _ _ v ov iv u Q I ro ri rv ⟨q, vs, kk, j, rfl, rfl, e, hj2, ?_⟩
                have ev := Evo.wr (H := H) (o := .lst (vs.set j v)) (mem_at hr)
                exact hQ _ (p ms τ _ ev (A.wr hr (.lst upd_same ((r.set rd j).mono ev) (by rw [List.length_set]; exact z))) (as.mono ev))
            | _ => simp [subO] at hs
          | dct kvs =>
            simp only [subO] at hs
            cases hk : keyD y with
            | none => rw [hk] at hs; cases hs
            | some kk =>
              rw [hk] at hs
              simp only [Option.bind_some] at hs
              split at hs
              · rename_i hl
                cases hs
                have ek := ky_val hk ry
                subst ek
                cases roo with
                | dct e rk z =>
                  rename_i ks
                  have ev := Evo.wr (H := H) (o := .dK (putK ks (kyK kk) v)) (mem_at hr)
                  have h3 : (kvPut kk d kvs).length ≤ kvs.length + 1 := by
                    unfold kvPut
                    split
                    · rw [List.length_map]; omega
                    · rw [List.length_append, List.length_singleton]; exact Nat.le_refl _
                  refine set_dict hu pins s σ H _ _ v ov iv u Q I ro ri rv ⟨q, _, rfl, DPut.k e (by rw [← rk.length, sim]; exact hl), ?_⟩
                  exact hQ _ (p ms τ _ ev (A.wr hr (.dct upd_same ((rdk_put (kv_bound hk ry) rd rk).mono ev) (by omega))) (as.mono ev))
              · cases hs
          | ins c fs => simp [subO] at hs
  | _ => exact p.elim
theorem ss_sub {a i e : E} (he : SE T k e) (ha : SE T k a) (hi : SE T k i) : SS T k (.asg (.sub a i) e) := by
  refine ⟨fun W c X x g hp h => ?_⟩
  simp only [mS] at h
  split at h <;> first | (cases h; done) | skip
  rw [Bool.and_eq_true, Bool.and_eq_true, Bool.and_eq_true, Bool.and_eq_true] at h
  obtain ⟨⟨⟨⟨h0, h1⟩, h2⟩, h3⟩, h4⟩ := h
  rename_i o ix ps v pv
  have hsw : swapsWithSole [Expr.Subscript o ix ps] v pv.line X.env = pure false := by
    show swapsWith v (some (.Subscript o ix ps)) pv.line X.env = pure false
    unfold swapsWith
    cases v <;> rfl
  have hst : swappedStores [Expr.Subscript o ix ps] v X.env = pure none := by
    unfold swappedStores
    cases v <;> rfl
  refine PS.imp (ps_asg (he.pe W c X _ g h1) (pg_sub (ha.pe W c X _ g h2) (hi.pe W c X _ g h3) (setS (T := T) g.hu) (by
    intro u
    cases ix <;> first | rfl | (simp [noSlice] at h4))) hsw hst rfl) ?_
  rintro D τ H ⟨ms, σ, st, A, p⟩
  simp only [evS] at p
  refine ⟨ms, σ, st, A, PstS.of p A.as fun d st1 v ms1 H1 _ ev ah as rd p1 => ?_⟩
  simp only [putT] at p1
  refine ⟨ms1, σ, st1, ⟨ah, as⟩, PstS.of p1 as fun x st2 ov ms2 H2 _ ev2 ah2 as2 rx p2 => ?_⟩
  refine ⟨ms2, σ, st2, ⟨ah2, as2⟩, PstS.of p2 as2 fun y st3 iv ms3 H3 _ ev3 ah3 as3 ry p3 => ?_⟩
  exact ⟨W, ms3, σ, τ, st3, x, y, d, D, ah3, as3, rx.mono ev3, ry, (rd.mono ev2).mono ev3, p3, fun H' h => h⟩
/-! ### loops -/
theorem ss_fr {gt : G} {it : I} {b : Ss} (hi : SI T k it) (hb : SSs T k b) : SS T k (.fr gt it b) := by
  refine ⟨fun W c X x g hp h => ?_⟩
  simp only [mS] at h
  split at h <;> first | (cases h; done) | skip
  rw [Bool.and_eq_true, Bool.and_eq_true, Bool.and_eq_true, Bool.and_eq_true] at h
  obtain ⟨⟨⟨⟨h0, h1⟩, h2⟩, h3⟩, h4⟩ := h
  refine PS.imp (ps_for hp.own (g.calm h0) (hi.pi W c X _ _ g h0 h1) (pg_g g gt _ h3) (hb.ps W c X _ g hp h4) (fun x => noSet_ok h2 _ x)) ?_
  rintro D τ H ⟨ms, σ, st, A, p⟩
  simp only [evS] at p
  refine ⟨ms, σ, st, A, PstS.of p A.as fun wk st1 J ms1 H1 heq ev ah as fd p1 => ?_⟩
  have hsrc := evI_src heq
  clear heq p
  refine ⟨fun i mm τ' H' => mm = wk.1.length - i ∧ i ≤ wk.1.length ∧ ∃ ms' σ' st', Evo ms1 H1 ms' H' ∧ At T σ' st' ms' τ' H' ∧ SrcOk st' wk.2 ∧ PstS T W ms' H' (forL (fun σ st => evSs T.P (runF T.P k) σ b st) gt wk.2 (wk.1.drop i) σ' st') D, ⟨_, rfl, Nat.zero_le _, ms1, σ, st1, .refl, ⟨ah, as⟩, hsrc, p1⟩, ?_⟩
  rintro i mm τ2 H2 ⟨rfl, le, ms', σ', st', ev2, A2, hs2, p2⟩
  by_cases hlt : i < wk.1.length
  · have hd : wk.1[i]? = some wk.1[i] := List.getElem?_eq_getElem hlt
    rw [List.drop_eq_getElem_cons hlt] at p2
    obtain ⟨jgo, jy⟩ := fd.go T ms' st' H2 i _ (.refl _ _) ev2 A2.ah hs2 hd
    simp only [forL] at p2
    cases hbd : bindG gt wk.1[i] σ' with
    | none => rw [hbd] at p2; exact p2.elim
    | some σ1 =>
      rw [hbd] at p2
      simp only at p2
      refine .inr ⟨jgo, fun τ3 H3 => i + 1 ≤ wk.1.length ∧ ∃ ms' σ' st', Evo ms1 H1 ms' H3 ∧ At T σ' st' ms' τ3 H3 ∧ SrcOk st' wk.2 ∧ PstS T W ms' H3 (forL (fun σ st => evSs T.P (runF T.P k) σ b st) gt wk.2 (wk.1.drop (i + 1)) σ' st') D, fun τ3 H3 w => ⟨wk.1.length - (i + 1), by omega, rfl, w⟩, fun v H3 yy => ?_⟩
      obtain ⟨ms3, ev3, ah3, rd3⟩ := jy v H3 yy
      refine ⟨ms3, σ', st', wk.1[i], σ1, ⟨ah3, A2.as.mono ev3⟩, rd3, hbd, fun ms4 τ4 H4 ev4 ah4 as4 _ => ?_⟩
      refine ⟨ms4, σ1, st', ⟨ah4, as4⟩, ?_⟩
      have e24 := ev3.trans ev4
      cases hbod : evSs T.P (runF T.P k) σ1 b st' with
      | nx σ5 st5 =>
        rw [hbod] at p2
        simp only at p2
        intro ms5 τ5 H5 ev5 ah5 as5
        split at p2
        · rename_i hsb
          exact ⟨hlt, ms5, σ5, st5, (ev2.trans e24).trans ev5, ⟨ah5, as5⟩, (src_dec _ _).mp hsb, PstS.mono (e24.trans ev5) p2⟩
        · exact p2.elim
      | rt d st5 => rw [hbod] at p2; exact PstS.mono e24 p2
      | ex a2 b2 σ5 st5 => rw [hbod] at p2; exact PstS.mono e24 p2
      | bad => rw [hbod] at p2; exact p2.elim
  · have ei : i = wk.1.length := by omega
    subst ei
    rw [List.drop_length] at p2
    simp only [forL] at p2
    exact .inl ⟨fd.fin T ms' st' H2 (.refl _ _) ev2 A2.ah hs2, p2.nx A2.ah A2.as⟩
end CT

set_option maxRecDepth 100000
/-! while; fields; several names at once. -/
namespace CT
open PySem L2 PyProof.Rows
variable {T : TT} {k : Nat}
/-- a while loop of so many turns at the most -/
def whileF (c : Env → Store → R Bool) (b : Env → Store → SR) : Nat → Env → Store → Option SR
  | 0, _, _ => none
  | n + 1, σ, st => match c σ st with
    | .ok true st1 => match b σ st1 with
      | .nx σ2 st2 => whileF c b n σ2 st2
      | r => some r
    | .ok false st1 => some (.nx σ st1)
    | .ex k pl st1 => some (.ex k pl σ st1)
    | .bad => some .bad
theorem whileF_of {c : Env → Store → R Bool} {b : Env → Store → SR} : ∀ (σ : Env) (st : Store) (r : SR), whileL c b σ st = some r → ∃ n, whileF c b n σ st = some r := by
  apply whileL.partial_correctness
  intro f ih σ st r h
  cases hc : c σ st with
  | ok y st1 =>
    cases y with
    | true =>
      simp only [hc] at h
      cases hb : b σ st1 with
      | nx σ2 st2 =>
        simp only [hb] at h
        obtain ⟨n, hn⟩ := ih σ2 st2 r h
        exact ⟨n + 1, by simp only [whileF, hc, hb]; exact hn⟩
      | rt d s => simp only [hb] at h; exact ⟨1, by simp only [whileF, hc, hb]; exact h⟩
      | ex a b2 c2 s => simp only [hb] at h; exact ⟨1, by simp only [whileF, hc, hb]; exact h⟩
      | bad => simp only [hb] at h; exact ⟨1, by simp only [whileF, hc, hb]; exact h⟩
    | false => simp only [hc] at h; exact ⟨1, by simp only [whileF, hc]; exact h⟩
  | ex a b2 s => simp only [hc] at h; exact ⟨1, by simp only [whileF, hc]; exact h⟩
  | bad => simp only [hc] at h; exact ⟨1, by simp only [whileF, hc]; exact h⟩
theorem ss_whl {t : E} {b : Ss} (ht : SE T k t) (hb : SSs T k b) : SS T k (.whl t b) := by
  refine ⟨fun W c X x g hp h => ?_⟩
  simp only [mS] at h
  split at h <;> first | (cases h; done) | skip
  rw [Bool.and_eq_true, Bool.and_eq_true] at h
  refine PS.imp (ps_while hp.own (ht.pt W c X _ g h.1.2) (hb.ps W c X _ g hp h.2)) ?_
  rintro D τ H ⟨ms, σ, st, A, p⟩
  simp only [evS] at p
  cases hw : whileL (fun σ st => evT T.P (runF T.P k) σ t st) (fun σ st => evSs T.P (runF T.P k) σ b st) σ st with
  | none => rw [hw] at p; exact p.elim
  | some r =>
    rw [hw] at p
    simp only [Option.getD_some] at p
    obtain ⟨n, hn⟩ := whileF_of _ _ _ hw
    refine ⟨fun m τ2 H2 => ∃ ms' σ' st' r', At T σ' st' ms' τ2 H2 ∧ whileF (fun σ st => evT T.P (runF T.P k) σ t st) (fun σ st => evSs T.P (runF T.P k) σ b st) m σ' st' = some r' ∧ PstS T W ms' H2 r' D, ⟨n, ms, σ, st, r, A, hn, p⟩, ?_⟩
    rintro m τ2 H2 ⟨ms', σ', st', r', A2, h2, p2⟩
    cases m with
    | zero => cases h2
    | succ m =>
      simp only [whileF] at h2
      refine ⟨ms', σ', st', A2, ?_⟩
      cases hc : evT T.P (runF T.P k) σ' t st' with
      | ok y st1 =>
        rw [hc] at h2
        intro y' ms3 H3 ev3 ah3 rb
        cases rb
        cases y with
        | true =>
          rw [if_pos rfl]
          simp only at h2
          refine ⟨fun τ4 H4 => ∃ ms' σ' st' r', At T σ' st' ms' τ4 H4 ∧ whileF (fun σ st => evT T.P (runF T.P k) σ t st) (fun σ st => evSs T.P (runF T.P k) σ b st) m σ' st' = some r' ∧ PstS T W ms' H4 r' D, fun τ4 H4 w => ⟨m, Nat.lt_succ_self _, w⟩, ?_⟩
          refine ⟨ms3, σ', st1, ⟨ah3, A2.as.mono ev3⟩, ?_⟩
          cases hbd : evSs T.P (runF T.P k) σ' b st1 with
          | nx σ5 st5 =>
            rw [hbd] at h2
            simp only at h2
            exact fun ms5 τ5 H5 ev5 ah5 as5 => ⟨ms5, σ5, st5, r', ⟨ah5, as5⟩, h2, PstS.mono (ev3.trans ev5) p2⟩
          | rt d s => rw [hbd] at h2; cases h2; exact PstS.mono ev3 p2
          | ex a1 a2 a3 s => rw [hbd] at h2; cases h2; exact PstS.mono ev3 p2
          | bad => rw [hbd] at h2; cases h2; exact p2.elim
        | false =>
          rw [if_neg (by decide)]
          simp only at h2
          cases h2
          exact p2 ms3 τ2 H3 ev3 ah3 (A2.as.mono ev3)
      | ex a1 a2 s =>
        rw [hc] at h2
        cases h2
        exact fun dd ms3 H3 ev3 ah3 rx => p2 dd ms3 τ2 H3 ev3 ah3 (A2.as.mono ev3) rx
      | bad => rw [hc] at h2; cases h2; exact p2.elim

/-! ### o.f = v -/
theorem setF_ok {ms : List Addr} {H : Hp} (inj : ∀ a b, T.fnm a = T.fnm b → a = b) {f : Nat} {d : D} {v : V} (rd : RD T ms H d v) : ∀ {fs : List (Str × V)} {fields : List Nat} {ds ds' : List D} {i : Nat}, RDs T ms H ds (fs.map (·.2)) → fs.map (·.1) = (fields.take ds.length).map T.fnm →
    fields.findIdx? (· == f) = some i → setF ds i d = some ds' → RDs T ms H ds' ((putF (T.fnm f) v fs).map (·.2)) ∧ (putF (T.fnm f) v fs).map (·.1) = (fields.take ds'.length).map T.fnm
  | [], fields, ds, ds', i, r, hn, hi, hs => by
    cases r
    cases fields with
    | nil => simp at hi
    | cons a fields =>
      unfold setF at hs
      rw [if_neg (by simp)] at hs
      split at hs
      · rename_i h0
        cases hs
        simp at h0
        subst h0
        rw [List.findIdx?_cons] at hi
        split at hi
        · rename_i hb
          have e : a = f := by simpa using hb
          subst e
          exact ⟨.cons rd .nil, rfl⟩
        · obtain ⟨j, _, hj⟩ := Option.map_eq_some_iff.mp hi
          omega
      · cases hs
  | (n, v0) :: fs, fields, ds, ds', i, r, hn, hi, hs => by
    cases r with
    | cons r s =>
      rename_i d0 ds
      cases fields with
      | nil => simp at hn
      | cons a fields =>
        simp only [List.map_cons, List.length_cons, List.take_succ_cons] at hn
        injection hn with hn1 hn2
        have hn1 : n = T.fnm a := hn1
        by_cases ha : a = f
        · subst ha
          rw [List.findIdx?_cons] at hi
          have hb : (a == a) = true := by simp
          rw [hb, if_pos rfl] at hi
          cases hi
          unfold setF at hs
          rw [if_pos (by simp)] at hs
          cases hs
          have e : putF (T.fnm a) v ((n, v0) :: fs) = (n, v) :: fs := by
            rw [hn1]; simp [putF]
          rw [e]
          refine ⟨.cons rd s, ?_⟩
          simp only [List.map_cons, List.set_cons_zero, List.length_cons, List.take_succ_cons]
          rw [hn1, hn2]
        · rw [List.findIdx?_cons] at hi
          have hb : (a == f) = false := by simpa using ha
          rw [hb] at hi
          simp only [Bool.false_eq_true, if_false] at hi
          obtain ⟨j, hj, rfl⟩ := Option.map_eq_some_iff.mp hi
          have hs' : ∃ ds2, setF ds j d = some ds2 ∧ ds' = d0 :: ds2 := by
            unfold setF at hs ⊢
            by_cases h1 : j < ds.length
            · rw [if_pos (by simp; exact h1)] at hs
              cases hs
              exact ⟨_, by rw [if_pos h1], by simp⟩
            · rw [if_neg (by simp; omega)] at hs
              split at hs
              · rename_i h2
                cases hs
                have h3 : j = ds.length := by simpa using h2
                exact ⟨_, by rw [if_neg h1, if_pos h3], by simp⟩
              · cases hs
          obtain ⟨ds2, h1, rfl⟩ := hs'
          obtain ⟨q1, q2⟩ := setF_ok inj rd s hn2 hj h1
          have hne : ¬ n = T.fnm f := by
            rw [hn1]; exact fun z => ha (inj _ _ z)
          have e : putF (T.fnm f) v ((n, v0) :: fs) = (n, v0) :: putF (T.fnm f) v fs := by
            simp [putF, hne]
          rw [e]
          refine ⟨.cons r q1, ?_⟩
          simp only [List.map_cons, List.length_cons, List.take_succ_cons]
          rw [hn1, q2]

theorem putF_len (f : Str) (v : V) : ∀ fs : List (Str × V), (putF f v fs).length ≤ fs.length + 1
  | [] => by simp [putF]
  | (g, x) :: r => by
    have := putF_len f v r
    unfold putF
    split <;> simp <;> omega
theorem ss_fld {a e : E} {f : Nat} (he : SE T k e) (ha : SE T k a) : SS T k (.asg (.fld a f) e) := by
  refine ⟨fun W c X x g hp h => ?_⟩
  simp only [mS] at h
  split at h <;> first | (cases h; done) | skip
  rw [Bool.and_eq_true, Bool.and_eq_true, Bool.and_eq_true, decide_eq_true_eq] at h
  obtain ⟨⟨⟨h0, h1⟩, h2⟩, h3⟩ := h
  subst h3
  refine PS.imp (ps_fld (ha.pe W c X _ g h2) (he.pe W c X _ g h1) (by
    rename_i v _
    unfold swapsWith
    cases v <;> rfl)) ?_
  rintro D τ H ⟨ms, σ, st, A, p⟩
  simp only [evS] at p
  refine ⟨ms, σ, st, A, PstS.of p A.as fun d st1 v ms1 H1 _ ev ah as rd p1 => ?_⟩
  simp only [putT] at p1
  refine ⟨ms1, σ, st1, ⟨ah, as⟩, PstS.of p1 as fun x st2 ov ms2 H2 _ ev2 ah2 as2 rx p2 => ?_⟩
  cases x with
  | ref a =>
    simp only at p2
    cases ho : st2[a]? with
    | none => rw [ho] at p2; exact p2.elim
    | some ob =>
      rw [ho] at p2
      cases ob with
      | ins cc fs0 =>
        simp only at p2
        cases rx with
        | ref hr =>
          rename_i q
          cases ah2.at_ a q _ hr ho with
          | ins e0 ec r kk =>
            rename_i dx C fs
            obtain ⟨cl, hcl, hn⟩ := kk
            subst ec
            cases hs : (fldIx T.P cc f).bind fun i => setF fs0 i d with
            | none => rw [hs] at p2; exact p2.elim
            | some fs1 =>
              rw [hs] at p2
              simp only at p2
              unfold fldIx at hs
              rw [hcl] at hs
              simp only [Option.bind_some] at hs
              cases hi : cl.fields.findIdx? (· == f) with
              | none => rw [hi] at hs; cases hs
              | some i =>
                rw [hi] at hs
                simp only [Option.bind_some] at hs
                have rd2 := rd.mono ev2
                obtain ⟨q1, q2⟩ := setF_ok g.tok.finj rd2 r hn hi hs
                have hlen : fs.length < 1000 := by
                  have h1 := congrArg List.length hn
                  simp only [List.length_map, List.length_take] at h1
                  have h2 := g.tok.flen cc cl hcl
                  omega
                have ev3 := Evo.wr (H := H2) (o := .ins (T.ca cc) dx (putF (T.fnm f) v fs)) (mem_at hr)
                rw [g.K, g.tok.fd]
                refine ⟨q, T.ca cc, dx, fs, rfl, e0, (g.tok.cl cc cl hcl).2.2, g.tok.na cc cl f hcl (ix_mem hi), hlen, ?_⟩
                exact p2 ms2 τ _ ev3 (ah2.wr hr (.ins upd_same rfl (q1.mono ev3) ⟨cl, hcl, q2⟩)) (as2.mono ev3)
      | lst _ => exact p2.elim
      | dct _ => exact p2.elim
  | _ => exact p2.elim
theorem ss_par {i j : Nat} {a b : E} (ha : SE T k a) (hb : SE T k b) : SS T k (.par i j a b) := by
  refine ⟨fun W c X x g hp h => ?_⟩
  simp only [mS] at h
  split at h <;> first | (cases h; done) | skip
  simp only [Bool.and_eq_true, decide_eq_true_eq] at h
  obtain ⟨⟨⟨⟨⟨⟨⟨⟨⟨⟨⟨h0, hk⟩, h1⟩, h2⟩, h3⟩, h4⟩, h5⟩, h6⟩, h7⟩, h8⟩, h9⟩, h10⟩ := h
  have s2 := star1 (env := X.env) h10
  refine PS.imp (ps_par (i := i) (j := j) (g.calm h0) (by rw [g.N]; exact g.nd) (by rw [g.N]; exact h1) (by rw [g.N]; exact h2) h3 (by rw [g.sc]; exact h4) (by rw [g.sc]; exact h5) (pa_cons (ha.pe W c X _ g h7) (pa_cons (hb.pe W c X _ g h9) pa_nil s2) (star2 _ h8)) (sw_stores g hk h6) (by
    unfold swapsWithSole swapsWith
    rfl)) ?_
  rintro D τ H ⟨ms, σ, st, A, p⟩
  simp only [evS] at p
  refine ⟨ms, σ, st, A, PstS.of p A.as fun d st1 v ms1 H1 _ ev ah as rd p1 => ?_⟩
  refine ⟨ms1, σ, st1, ⟨ah, as⟩, PstS.of p1 as fun e st2 w ms2 H2 _ ev2 ah2 as2 re p2 => ?_⟩
  exact ⟨v, w, rfl, p2.nx ah2 ((as2.set (rd.mono ev2) i).set re j)⟩
end CT

set_option maxRecDepth 100000
/-! Dict displays; a list times a number. -/
namespace CT
open PySem L2 PyProof.Rows
variable {T : TT} {k : Nat}

/-! ### what was hidden comes to light -/
theorem ah_out {Y : Addr} {ms : List Addr} {st : Store} {H : Hp} (A : AH (T.hide (Y :: T.hid)) ms st H) : AH T ms st H :=
  ⟨A.len, A.nd, fun p hp => A.hd p (List.mem_cons_of_mem _ hp), fun i p o h1 h2 => RO.re (b := T.hid) (fun p n => ⟨n.1, fun z => n.2 (List.mem_cons_of_mem _ z)⟩) (fun _ _ e => e) (A.at_ i p o h1 h2)⟩
theorem no_in {Y : Addr} {ms : List Addr} : ∀ p, (T.hide (Y :: T.hid)).no ms p → (T.hide T.hid).no (ms ++ [Y]) p := fun p n => ⟨fun z => by
  rcases List.mem_append.mp z with z | z
  · exact n.1 z
  · have e : p = Y := by simpa using z
    exact n.2 (by rw [e]; exact List.mem_cons_self ..), fun z => n.2 (List.mem_cons_of_mem _ z)⟩
theorem at_in {Y : Addr} {ms : List Addr} : ∀ (i : Nat) (p : Addr), ms[i]? = some p → (ms ++ [Y])[i]? = some p := fun i p e => by
  rw [List.getElem?_append_left (List.getElem?_eq_some_iff.mp e).1]; exact e
theorem ah_in {Y : Addr} {ms : List Addr} {st : Store} {H : Hp} {u : O} (A : AH (T.hide (Y :: T.hid)) ms st H) (hYhid : Y ∉ T.hid) (r : RO T (ms ++ [Y]) H Y u) : AH T (ms ++ [Y]) (st ++ [u]) H := by
  have hYms : Y ∉ ms := (A.hd Y (List.mem_cons_self ..)).2
  refine ⟨by simp [A.len], by
    rw [List.nodup_append]
    exact ⟨A.nd, List.nodup_cons.mpr ⟨by simp, List.nodup_nil⟩, fun a ha b hb => by
      have e : b = Y := by simpa using hb
      subst e; exact fun z => hYms (z ▸ ha)⟩, fun p hp => ⟨(A.hd p (List.mem_cons_of_mem _ hp)).1, fun z => by
    rcases List.mem_append.mp z with z | z
    · exact (A.hd p (List.mem_cons_of_mem _ hp)).2 z
    · have e : p = Y := by simpa using z
      subst e; exact hYhid hp⟩, fun i p o h1 h2 => ?_⟩
  by_cases hi : i < ms.length
  · rw [List.getElem?_append_left hi] at h1
    rw [List.getElem?_append_left (A.len ▸ hi)] at h2
    exact RO.re (b := T.hid) no_in at_in (A.at_ i p o h1 h2)
  · have hi' : i < (ms ++ [Y]).length := (List.getElem?_eq_some_iff.mp h1).1
    rw [List.length_append, List.length_singleton] at hi'
    have e : i = ms.length := by omega
    subst e
    have hl := A.len
    rw [List.getElem?_append_right (Nat.le_refl _)] at h1
    rw [List.getElem?_append_right (by omega)] at h2
    simp at h1
    rw [hl] at h2
    simp at h2
    subst h1; subst h2
    exact r
theorem ah_hide {Y : Addr} {ms : List Addr} {st : Store} {H : Hp} {o : HO} (A : AH T ms st H) (hY : H Y = none) : AH (T.hide (Y :: T.hid)) ms st (upd H Y o) ∧ Hid T (T.hide (Y :: T.hid)) H := by
  have hh : Hid T (T.hide (Y :: T.hid)) H := ⟨Y :: T.hid, rfl, fun p hp => (List.mem_cons.mp hp).elim (fun e => .inr (by rw [e]; exact hY)) .inl⟩
  exact ⟨⟨A.len, A.nd, fun p hp => by
    rcases List.mem_cons.mp hp with e | e
    · subst e; exact ⟨by rw [upd_same]; simp, A.fresh1 hY⟩
    · exact ⟨upd_some (A.hd p e).1, (A.hd p e).2⟩, fun i p o h1 h2 => (ro_hid hh (A.at_ i p o h1 h2)).mono (Evo.new A hY) (upd_ne fun e => by subst e; exact A.fresh1 hY (mem_at h1))⟩, hh⟩

/-! ### the pairs -/
inductive KP (T : TT) (ms : List Addr) (H : Hp) : List D → List (V × V) → Prop
  | nil : KP T ms H [] []
  | cons {x y a b ds ps} : RD T ms H x a → RD T ms H y b → KP T ms H ds ps → KP T ms H (.tup [x, y] :: ds) ((a, b) :: ps)
def tEh (T : TT) (k : Nat) (W : WX) (e : E) : TE := fun τ H Q => ∃ hs, tE (T.hide hs) k W e τ H Q
def trK (T : TT) (k : Nat) (W : WX) : Kv → List (TE × TE)
  | .nil => []
  | .cons a b r => (tEh T k W a, tEh T k W b) :: trK T k W r
structure SK (k : Nat) (kvs : Kv) : Prop where
  pp : ∀ (T : TT) (W : WX) (c : MC) (X : Cx) (pos : Pos) (ks : List (Option Expr)) (vs : List Expr), Good T k W c X → mKv c kvs ks vs = true → PPs X pos ks vs (trK T k W kvs)
theorem Good.hide {W : WX} {c : MC} {X : Cx} (g : Good T k W c X) (hs : List Addr) : Good (T.hide hs) k W c X := { g with tok := g.tok.hide hs, fns := fun h hs2 f => g.fns h hs2 f }
theorem pe_h {W : WX} {c : MC} {X : Cx} {e : E} {x : Expr} (g : Good T k W c X) (he : ∀ T, SE T k e) (h : mE c e x = true) : PE X x (tEh T k W e) :=
  ⟨fun pins s σ H Q I ⟨hs, hq⟩ => ((he (T.hide hs)).pe W c X x (g.hide hs) h).run pins s σ H Q I hq⟩
theorem sk_nil : SK k .nil := ⟨fun T W c X pos ks vs g h => by
  cases ks <;> cases vs <;> first | (simp only [mKv, Bool.false_eq_true] at h; done) | exact pps_nil⟩
theorem sk_cons {a b : E} {r : Kv} (ha : ∀ T, SE T k a) (hb : ∀ T, SE T k b) (hr : SK k r) : SK k (.cons a b r) := ⟨fun T W c X pos ks vs g h => by
  cases ks with
  | nil => cases vs <;> simp only [mKv, Bool.false_eq_true] at h
  | cons x ks =>
    cases x with
    | none => cases vs <;> simp only [mKv, Bool.false_eq_true] at h
    | some x =>
      cases vs with
      | nil => simp only [mKv, Bool.false_eq_true] at h
      | cons y vs =>
        simp only [mKv, Bool.and_eq_true] at h
        exact pps_cons (pe_h g ha h.1.1) (pe_h g hb h.1.2) (hr.pp T W c X pos ks vs g h.2)⟩
theorem mKv_len {c : MC} : ∀ {kvs : Kv} {ks : List (Option Expr)} {vs : List Expr}, mKv c kvs ks vs = true → ks.all (·.isSome) = true ∧ ks.length = vs.length
  | .nil, [], [], _ => ⟨rfl, rfl⟩
  | .nil, [], _ :: _, h => by simp only [mKv, Bool.false_eq_true] at h
  | .nil, _ :: _, _, h => by simp only [mKv, Bool.false_eq_true] at h
  | .cons a b r, [], _, h => by simp only [mKv, Bool.false_eq_true] at h
  | .cons a b r, none :: _, _, h => by simp only [mKv, Bool.false_eq_true] at h
  | .cons a b r, some _ :: _, [], h => by simp only [mKv, Bool.false_eq_true] at h
  | .cons a b r, some x :: ks, y :: vs, h => by
    simp only [mKv, Bool.and_eq_true] at h
    obtain ⟨h1, h2⟩ := mKv_len h.2
    exact ⟨by simp [h1], by simp [h2]⟩
/-- the reading of the pairs, other things hidden -/
theorem kv_red {hs : List Addr} {W : WX} : ∀ (kvs : Kv) (τ : L2.St) (H : Hp) (Q : List (V × V) → Hp → Prop) (ms : List Addr) (σ : Env) (st : Store), At (T.hide hs) σ st ms τ H →
    Pst (T.hide hs) W τ ms H (evKv T.P (runF T.P k) σ kvs st) (KP (T.hide hs)) Q → tPairs (trK T k W kvs) τ H Q
  | .nil, τ, H, Q, ms, σ, st, A, p => by
    simp only [evKv] at p
    exact Pst.ok p A.ah .nil
  | .cons a b r, τ, H, Q, ms, σ, st, A, p => by
    simp only [evKv] at p
    refine ⟨hs, ms, σ, st, A, Pst.bind p fun x st1 v ms1 H1 _ ev ah rx p1 => ?_⟩
    refine ⟨hs, ms1, σ, st1, A.go ev ah, Pst.bind p1 fun y st2 w ms2 H2 _ ev2 ah2 ry p2 => ?_⟩
    refine kv_red r τ H2 _ ms2 σ st2 ((A.go ev ah).go ev2 ah2) (Pst.bind p2 fun ds st3 ps ms3 H3 _ ev3 ah3 rk p3 => ?_)
    exact Pst.ok p3 ah3 (.cons ((rx.mono ev2).mono ev3) (ry.mono ev3) rk)
theorem kp_pairs {ms : List Addr} {H : Hp} : ∀ {ds : List D} {ps : List (V × V)} {kvs : List (Ky × D)}, KP T ms H ds ps → pairsOf ds = some kvs → ∃ kvsV : List (Key × V), ps = kvsV.map (fun kv => (kV kv.1, kv.2)) ∧ RDk T ms H kvs kvsV
  | [], _, kvs, r, h => by cases r; cases h; exact ⟨[], rfl, .nil⟩
  | d :: ds, _, kvs, r, h => by
    cases r with
    | cons rx ry rk =>
      rename_i x y a b ps
      simp only [pairsOf] at h
      cases hk : keyD x with
      | none => rw [hk] at h; cases h
      | some q =>
        rw [hk] at h
        simp only [Option.bind_some] at h
        obtain ⟨m, h1, rfl⟩ := Option.map_eq_some_iff.mp h
        obtain ⟨kvsV, rfl, r2⟩ := kp_pairs rk h1
        have ek := ky_val hk rx
        subst ek
        exact ⟨(kyK q, b) :: kvsV, rfl, .cons (kv_bound hk rx) ry r2⟩
theorem evKv_len {c : MC} : ∀ {kvs : Kv} {ks : List (Option Expr)} {vs : List Expr} {σ : Env} {st st' : Store} {ds : List D}, mKv c kvs ks vs = true → evKv T.P (runF T.P k) σ kvs st = .ok ds st' → ds.length = ks.length
  | .nil, ks, vs, σ, st, st', ds, h, e => by
    cases ks with
    | nil => simp only [evKv] at e; cases e; rfl
    | cons => cases vs <;> simp only [mKv, Bool.false_eq_true] at h
  | .cons a b r, ks, vs, σ, st, st', ds, h, e => by
    cases ks with
    | nil => cases vs <;> simp only [mKv, Bool.false_eq_true] at h
    | cons x ks =>
      cases x with
      | none => cases vs <;> simp only [mKv, Bool.false_eq_true] at h
      | some x =>
        cases vs with
        | nil => simp only [mKv, Bool.false_eq_true] at h
        | cons y vs =>
          simp only [mKv, Bool.and_eq_true] at h
          simp only [evKv] at e
          cases h1 : evE T.P (runF T.P k) σ a st with
          | bad => rw [h1] at e; cases e
          | ex => rw [h1] at e; cases e
          | ok u s1 =>
            rw [h1] at e
            simp only [R.bind] at e
            cases h2 : evE T.P (runF T.P k) σ b s1 with
            | bad => rw [h2] at e; cases e
            | ex => rw [h2] at e; cases e
            | ok w s2 =>
              rw [h2] at e
              simp only at e
              cases h3 : evKv T.P (runF T.P k) σ r s2 with
              | bad => rw [h3] at e; cases e
              | ex => rw [h3] at e; cases e
              | ok l s3 =>
                rw [h3] at e
                cases e
                exact congrArg (· + 1) (evKv_len h.2 h3)
theorem kp_len {ms : List Addr} {H : Hp} : ∀ {ds : List D} {ps : List (V × V)}, KP T ms H ds ps → ds.length = ps.length
  | _, _, .nil => rfl
  | _, _, .cons _ _ r => congrArg (· + 1) (kp_len r)
theorem se_dct {m : Bool} {kvs : Kv} (hk : SK k kvs) : SE T k (.dct m kvs) := by
  refine ⟨fun W c X x g h => ?_, no_pt fun c x => by simp only [mT]⟩
  simp only [mE] at h
  split at h <;> first | (cases h; done) | skip
  rw [Bool.and_eq_true, decide_eq_true_eq] at h
  obtain ⟨h1, h2⟩ := h
  rename_i ks vs pos
  by_cases h0 : ks = []
  · subst h0
    cases kvs with
    | cons => cases vs <;> simp only [mKv, Bool.false_eq_true] at h1
    | nil =>
      cases vs with
      | cons => simp only [mKv, Bool.false_eq_true] at h1
      | nil =>
        refine PE.imp pe_dnewK ?_
        rintro τ H Q ⟨ms, σ, st, A, p⟩
        simp only [evE, evKv, R.bind, pairsOf, dictOf, List.foldl_nil] at p
        exact fun q hq => pst_dct p A.ah .nil (Nat.zero_le _) hq
  · obtain ⟨h3, h4⟩ := mKv_len h1
    refine PE.imp (pe_disp (hk.pp T W c X pos ks vs g h1) h3 h4 h0 h2) ?_
    rintro τ H Q ⟨ms, σ, st, A, p⟩
    simp only [evE] at p
    intro Y hY
    obtain ⟨ahY, hh⟩ := ah_hide (o := .dK []) A.ah hY
    have hYhid : Y ∉ T.hid := fun z => (A.ah.hd Y z).1 hY
    have evY : Evo ms H ms (upd H Y (.dK [])) := Evo.new A.ah hY
    refine kv_red (hs := Y :: T.hid) kvs τ _ _ ms σ st ⟨ahY, (as_hid hh A.as).mono evY⟩ ?_
    have hYm : Y ∈ (T.hide (Y :: T.hid)).hid := List.mem_cons_self ..
    have hno : ∀ {ms' : List Addr} p, (T.hide (Y :: T.hid)).no ms' p → (T.hide T.hid).no ms' p := fun {ms'} p n => ⟨n.1, fun z => n.2 (List.mem_cons_of_mem _ z)⟩
    cases hev : evKv T.P (runF T.P k) σ kvs st with
    | bad => rw [hev] at p; exact p.elim
    | ex cx pl st1 =>
      rw [hev] at p
      exact fun dd ms2 H2 ev2 ah2 rx => p dd ms2 H2 (evY.trans ev2) (ah_out ah2) (RX.re (b := T.hid) hno (fun _ _ e => e) rx)
    | ok ds st1 =>
      rw [hev] at p
      simp only [R.bind] at p
      intro ps ms2 H2 ev2 ah2 kp
      have hY2 : H2 Y = some (.dK []) := (ev2.keep _ _ upd_same (ahY.hd Y hYm).2).1
      cases hp : pairsOf ds with
      | none => rw [hp] at p; exact p.elim
      | some kk =>
        rw [hp] at p
        simp only at p
        have hl : ps.length ≤ 15 := by
          have e1 := kp_len kp
          have e2 := evKv_len h1 hev
          omega
        obtain ⟨kvsV, rfl, rk⟩ := kp_pairs kp hp
        rw [List.length_map] at hl
        have rm : RDk (T.hide (Y :: T.hid)) ms2 H2 (dictOf kk) (mergeK [] kvsV) := rdk_merge rk .nil
        have rm2 := rm.upd hYm (o := .dK (mergeK [] kvsV))
        have ahU : AH (T.hide (Y :: T.hid)) ms2 st1 (upd H2 Y (.dK (mergeK [] kvsV))) := ah2.updH hYm
        have e12 := evY.trans ev2
        have hz : (dictOf kk).length ≤ LIM := by
          rw [rm.length]
          have h5 := length_mergeK kvsV []
          rw [List.length_nil] at h5
          exact Nat.le_trans h5 (Nat.le_trans (by omega : 0 + kvsV.length ≤ 15) (by decide))
        have hYms : Y ∉ ms2 := (ah2.hd Y hYm).2
        refine ⟨hY2, kvsV, rfl, hl, ?_⟩
        cases m with
        | false =>
          refine p (.ref Y) ms2 _ ⟨e12.pre, fun p o hp hn => ?_⟩ (ah_out ahU) (.dct ⟨hYms, hYhid⟩ upd_same (RDk.re (b := T.hid) hno (fun _ _ e => e) rm2) hz)
          obtain ⟨k1, k2⟩ := e12.keep p o hp hn
          exact ⟨by rw [upd_ne (ne_of_none hp hY)]; exact k1, k2⟩
        | true =>
          refine p (.ref Y) (ms2 ++ [Y]) _ ⟨e12.pre.trans (List.prefix_append _ _), fun p o hp hn => ?_⟩ (ah_in ahU hYhid (.dct upd_same (RDk.re (b := T.hid) no_in at_in rm2) hz)) (.ref ?_)
          · obtain ⟨k1, k2⟩ := e12.keep p o hp hn
            have hne := ne_of_none hp hY
            exact ⟨by rw [upd_ne hne]; exact k1, by simp [k2, hne]⟩
          · rw [← ah2.len, List.getElem?_append_right (Nat.le_refl _)]
            simp
end CT

set_option maxRecDepth 100000
/-! The last expressions; all of them. -/
namespace CT
open PySem L2 PyProof.Rows
variable {T : TT} {k : Nat}
theorem evens_pick {α : Type} : ∀ xs : List α, (List.range ((xs.length + 1) / 2)).filterMap (fun m => xs[2 * m]?) = evens xs
  | [] => by simp [evens]
  | [x] => by simp [evens, List.range_succ]
  | x :: y :: r => by
    have ih := evens_pick r
    have e : ((x :: y :: r).length + 1) / 2 = (r.length + 1) / 2 + 1 := by simp only [List.length_cons]; omega
    rw [e, List.range_succ_eq_map, List.filterMap_cons]
    have e2 : ((fun m => (x :: y :: r)[2 * m]?) ∘ Nat.succ) = fun m => r[2 * m]? := by
      funext m
      show (x :: y :: r)[2 * (m + 1)]? = _
      rw [show 2 * (m + 1) = 2 * m + 1 + 1 by omega, List.getElem?_cons_succ, List.getElem?_cons_succ]
    rw [List.filterMap_map, e2, ih]
    rfl
theorem evens_len {α : Type} : ∀ xs : List α, (evens xs).length ≤ xs.length
  | [] => Nat.le_refl _
  | [x] => Nat.le_refl _
  | x :: y :: r => by have := evens_len r; simp only [evens, List.length_cons]; omega
theorem vals_evens : ∀ {vs : List V} {us : List Value}, Vals vs us → Vals (evens vs) (evens us)
  | [], _, r => by cases r; exact .nil
  | [x], _, r => by cases r with | cons a r => cases r; exact .cons a .nil
  | x :: y :: l, _, r => by cases r with | cons a r => cases r with | cons b r => exact .cons a (vals_evens r)
theorem rds_evens {ms : List Addr} {H : Hp} : ∀ {ds : List D} {vs : List V}, RDs T ms H ds vs → RDs T ms H (evens ds) (evens vs)
  | [], _, r => by cases r; exact .nil
  | [x], _, r => by cases r with | cons a r => cases r; exact .cons a .nil
  | x :: y :: l, _, r => by cases r with | cons a r => cases r with | cons b r => exact .cons a (rds_evens r)
theorem adj2 (n : Nat) : Builtin.Slice.sliceAdjust none none 2 (n : Int) = (0, (n : Int)) := by
  unfold Builtin.Slice.sliceAdjust
  rfl
theorem plc2 (n : Nat) : Builtin.Slice.slicePlaces 0 (n : Int) 2 = (n + 1) / 2 := by
  unfold Builtin.Slice.slicePlaces
  by_cases h : n = 0
  · subst h; rfl
  · rw [if_pos (by decide), if_pos (by omega)]
    omega
section
variable {prog : Program} {w : World} {A : Around} {E : Value → Shared → Prop} {s : Shared}
theorem app2 {sl : Addr} {v1 v2 v3 : Value} {n : Nat} {Q : Int × Int × Nat → Shared → Prop} (hs : s.heap.IsSliceOf sl v1 v2 v3) (p1 : IsPart v1 none) (p2 : IsPart v2 none) (p3 : IsPart v3 (some 2))
    (h : Q (0, 2, (n + 1) / 2) s) : wpAny (model prog w) A (Builtin.Slice.sliceApplied (.ref sl) (pure (n : Int))) Q E s := by
  obtain ⟨ob, hob, hcl, hda⟩ := id hs
  unfold Builtin.Slice.sliceApplied Builtin.Slice.sliceFields
  refine wpAny_bind (wpAny_bind (wpAny_field hob hda (x := v1) rfl (wpAny_bind (wpAny_field hob hda (x := v2) rfl (wpAny_bind (wpAny_field hob hda (x := v3) rfl (wpAny_pure ?_)))))))
  refine wpAny_bind (HT.slicePart_ p3 ?_)
  show wpAny _ _ (if ((2 : Int) == 0) = true then _ else _) _ _ s
  rw [if_neg (by decide)]
  refine wpAny_bind (HT.slicePart_ p1 (wpAny_bind (HT.slicePart_ p2 (wpAny_bind (wpAny_pure ?_)))))
  show wpAny _ _ (match Builtin.Slice.sliceAdjust none none 2 (n : Int) with | (x, y) => pure (x, (2 : Int), Builtin.Slice.slicePlaces x y 2)) _ _ s
  rw [adj2 n]
  show wpAny _ _ (pure ((0 : Int), (2 : Int), Builtin.Slice.slicePlaces 0 (n : Int) 2)) _ _ s
  rw [plc2]
  exact wpAny_pure h
theorem pick2 (xs : Array Value) : ((List.range ((xs.size + 1) / 2)).filterMap fun (m : Nat) => xs[((0 : Int) + (m : Int) * 2).toNat]?).toArray = (evens xs.toList).toArray := by
  have e : (fun (m : Nat) => xs[((0 : Int) + (m : Int) * 2).toNat]?) = fun m => xs.toList[2 * m]? := by
    funext m
    have : ((0 : Int) + (m : Int) * 2).toNat = 2 * m := by omega
    rw [this, Array.getElem?_toList]
  rw [e, ← Array.length_toList, evens_pick]
theorem get2 {t sl : Addr} {items : Array Value} {v1 v2 v3 : Value} {Q : Value → Shared → Prop} (ht : IsTup s.heap t items) (hs : s.heap.IsSliceOf sl v1 v2 v3) (p1 : IsPart v1 none) (p2 : IsPart v2 none) (p3 : IsPart v3 (some 2))
    (h : Q (.ref s.heap.objs.size) { s with heap := s.heap.push { cls := .type "tuple", data := .seq (evens items.toList).toArray } })
    (hsz : items.size ≤ sizeLine) : wpAny (model prog w) A (getItem (.ref t) (.ref sl)) Q E s := by
  have hz2 : sizeOk (.seq (evens items.toList).toArray) := by
    show (evens items.toList).toArray.size ≤ sizeLine
    rw [List.size_toArray]
    have := evens_len items.toList
    have hsl : items.toList.length = items.size := Array.length_toList
    omega
  obtain ⟨ob, hob, hcl, hda⟩ := id hs
  have hty : s.TypeIs (.ref sl) "slice" := ⟨ob, hob, hcl⟩
  unfold getItem
  try with_reducible refine wpAny_holding ?_
  first | refine wpAny_bind (wpAny_pure ?_) | skip
  refine wpAny_bind (wpAny_sequenceKey (ht.typeIs) (by decide) ?_)
  refine wpAny_bind (wpAny_callSpecial?_slot (name := Str.ofString "__getitem__") (ht.typeIs) (PyProof.Rows.slot_tuple_getitem)
    (wpAny_call_entry (PyProof.Rows.slot_tuple_getitem) (ht.typeIs) entry_tuple_getitem ?_ (args_tuple_getitem _ _)))
  show wpAny _ _ (Builtin.Tuple.tupleItemsOf (.ref t) >>= _) _ _ _
  refine wpAny_bind (tupleItemsOf_ (ht) ?_)
  refine wpAny_bind (wpAny_typeOf (hty) ?_)
  rw [if_pos (by decide)]
  refine wpAny_bind (app2 hs p1 p2 p3 ?_)
  show wpAny _ _ (if ((0 : Int) == 0 && (2 : Int) == 1 && ((items.size + 1) / 2) == items.size) = true then _ else _) _ _ _
  rw [if_neg (by simp), pick2]
  first
    | exact wpAny_bind (m := Builtin.Tuple.tupleExact _) (wpAny_newObj_type (wpAny_pure ⟨_, rfl, wpAny_pure h⟩) hz2)
    | exact wpAny_bind (m := Builtin.Tuple.tupleExact _) (wpAny_newObj_type (wpAny_bind (wpAny_pure (wpAny_pure ⟨_, rfl, wpAny_pure h⟩))) hz2)
    | exact wpAny_bind (wpAny_bind (m := Builtin.Tuple.tupleExact _) (wpAny_newObj_type (wpAny_pure (wpAny_pure ⟨_, rfl, wpAny_pure h⟩)) hz2))
    | exact wpAny_bind (wpAny_bind (m := Builtin.Tuple.tupleExact _) (wpAny_newObj_type (wpAny_pure ⟨_, rfl, wpAny_pure h⟩) hz2))
end
def tEv2 (K : PySem.W.Frag) (te : TE) : TE := fun σ H Q => te σ H fun x H1 => ∃ a xs, x = .ref a ∧ SqT K H1 a xs ∧ ∀ p, H1 p = none → Q (.ref p) (upd H1 p (.tup (evens xs)))
theorem pe_ev2 {X : Cx} {e : Expr} {te : TE} {k : Nat} {p1 p3 pos : Pos} (he : PE X e te) : PE X (.Subscript e (.Slice none none (some (.Constant (.int 2) k p1)) p3) pos) (tEv2 X.K te) := by
  refine ⟨fun pins s σ H Q I h => ?_⟩
  refine Subscript_ (thn (he.run pins s σ H _ I h) fun v s1 ⟨x, H1, I1, rx, qx⟩ => ?_)
  obtain ⟨a, xs, ex, hx, q⟩ := qx
  subst ex
  cases rx
  have hst : PO X (some (.Constant (.int 2) k p1)) (tPart (tC (.int 2))) := po_some pe_int
  refine wpAny_Slice (thn (po_none.run pins s1 σ H1 (fun o G => o = none ∧ G = H1) I1 ⟨rfl, rfl⟩) fun vl s2 ⟨l, H2, I2, pl, el, e2⟩ => ?_)
  subst el e2
  refine thn (po_none.run pins s2 σ H2 (fun o G => o = none ∧ G = H2) I2 ⟨rfl, rfl⟩) fun vu s3 ⟨u, H3, I3, pu, eu, e3⟩ => ?_
  subst eu e3
  refine thn (hst.run pins s3 σ H3 (fun o G => o = some 2 ∧ G = H3) I3 ⟨2, rfl, rfl, rfl⟩) fun vs s4 ⟨o, H4, I4, ps, eo, e4⟩ => ?_
  subst eo e4
  have I5 : Inv X pins σ H4 { s4 with heap := s4.heap.push { cls := .type "slice", data := .fields #[vl, vu, vs] } } := I4.kept (t' := s4.toks) (fun b ob q => Heap.get?_push_of_some _ q)
  obtain ⟨its, r, ht, hz⟩ := I5.tuple hx
  have hlen := r.length
  show wpAny (model X.prog X.w) X.A (subscriptTail e (.Slice none none (some (.Constant (.int 2) k p1)) p3) (.ref a) (.ref s4.heap.objs.size)) (EP X pins σ Q) X.xe { s4 with heap := s4.heap.push { cls := .type "slice", data := .fields #[vl, vu, vs] } }
  refine tail_any (ops := [.ref a, .ref s4.heap.objs.size]) (ht.typeIs) (PyProof.Rows.slot_tuple_getitem.lookup) ?_ (by with_unfolding_all rfl)
  refine get2 ht (Heap.IsSliceOf.new _ vl vu vs) pl pu ps ?_ (by rw [List.size_toArray]; omega)
  refine ⟨.ref _, _, I5.laid (t' := s4.toks) (o := .tup (evens xs)) (fun b ob q => Heap.get?_push_of_some _ q) (Nat.le_refl _) ?_, rfl, q _ (I5.hok.fresh (Nat.le_refl _))⟩
  exact ⟨Nat.le_trans (evens_len xs) hz, _, vals_evens r, IsTup.new _ _⟩
theorem rds_rep {ms : List Addr} {H : Hp} {ds : List D} {vs : List V} (r : RDs T ms H ds vs) : ∀ n : Nat, RDs T ms H (List.replicate n ds).flatten (List.replicate n vs).flatten
  | 0 => .nil
  | n + 1 => by
    rw [List.replicate_succ, List.replicate_succ, List.flatten_cons, List.flatten_cons]
    exact r.append (rds_rep r n)
theorem se_rpl {m : Bool} {es : Es} {n : E} (ha : SA T k es) (hn : SE T k n) : SE T k (.rpl m es n) := by
  refine ⟨fun W c X x g h => ?_, no_pt fun c x => by simp only [mT]⟩
  (simp only [mE] at h; split at h <;> first | (cases h; done) | skip); (simp only [Bool.and_eq_true, decide_eq_true_eq, Bool.not_eq_true', beq_iff_eq, bne_iff_ne, ne_eq] at h)
  obtain ⟨⟨h1, h2⟩, h3⟩ := h
  refine PE.imp (pe_op op_rep (pe_lst (ha.pa W c X _ g h1)) (hn.pe W c X _ g h3)) ?_
  rintro τ H Q ⟨ms, σ, st, A, p⟩
  simp only [evE] at p
  refine ⟨ms, σ, st, A, Pst.bind p fun ds st1 vs ms1 H1 he ev ah rd p1 => ?_⟩
  have hl : ds.length ≤ LIM := by rw [sa_len h1 he]; exact Nat.le_trans h2 (by decide)
  refine ⟨by rw [← rd.length, sim]; exact hl, fun q hq => ?_⟩
  have evq := Evo.new (o := .lst vs) ah hq
  refine ⟨ms1, σ, st1, (A.go ev ah).go evq (ah.new hq), Pst.bind (Pst.mono evq p1) fun y st2 w ms2 H2 _ ev2 ah2 ry p2 => ?_⟩
  cases y with
  | int i =>
    cases ry
    simp only at p2
    split at p2
    · rename_i hc
      obtain ⟨c1, c2, c3⟩ := hc
      have hq2 : H2 q = some (.lst vs) := (ev2.keep _ _ upd_same (ah.fresh1 hq)).1
      refine ⟨q, i, vs, rfl, rfl, hq2, by omega, by omega, by rw [← rd.length, sim]; exact c3, fun q' hq' => ?_⟩
      have hlen : (rep ds i).length ≤ LIM := by
        unfold rep
        rw [List.length_flatten]
        simp [Nat.mul_comm] at c3 ⊢
        exact c3
      exact pst_lst p2 ah2 (rds_rep ((rd.mono evq).mono ev2) i.toNat) hlen hq'
    · exact p2.elim
  | _ => exact p2.elim
theorem se_stp {m : Bool} {a : E} {j : Int} (ha : SE T k a) : SE T k (.stp m a j) := by
  refine ⟨fun W c X x g h => ?_, no_pt fun c x => by simp only [mT]⟩
  simp only [mE] at h
  split at h <;> first | (cases h; done) | skip
  · rw [Bool.and_eq_true, decide_eq_true_eq] at h
    obtain ⟨h1, rfl⟩ := h
    refine PE.imp (pe_revL (ha.pe W c X _ g h1)) ?_
    rintro τ H Q ⟨ms, σ, st, A, p⟩
    simp only [evE] at p
    refine ⟨ms, σ, st, A, Pst.bind p fun d st1 v ms1 H1 _ ev ah rd p1 => ?_⟩
    rw [g.K]
    generalize hd : look st1 d = ld at p1
    cases ld <;> first | exact p1.elim | skip
    case lst xs =>
      obtain ⟨q, vs, rfl, q1, r1, z1⟩ := vw_lst ah rd hd
      exact ⟨q, vs, rfl, q1, fun q' hq' => pst_lst p1 ah r1.reverse (by rw [List.length_reverse]; exact z1) hq'⟩
  · rw [Bool.and_eq_true, Bool.and_eq_true, decide_eq_true_eq, Bool.not_eq_true'] at h
    obtain ⟨⟨h1, rfl⟩, rfl⟩ := h
    refine PE.imp (pe_ev2 (ha.pe W c X _ g h1)) ?_
    rintro τ H Q ⟨ms, σ, st, A, p⟩
    simp only [evE] at p
    refine ⟨ms, σ, st, A, Pst.bind p fun d st1 v ms1 H1 _ ev ah rd p1 => ?_⟩
    rw [g.K]
    generalize hd : look st1 d = ld at p1
    cases ld <;> first | exact p1.elim | skip
    case tup xs =>
      obtain ⟨q, vs, rfl, q1, r1⟩ := vw_tup ah rd hd
      exact ⟨q, vs, rfl, q1.sq, fun q' hq' => pst_tup p1 ah (rds_evens r1) hq'⟩
theorem si_itm {a : E} : SI T k (.itm a) := ⟨fun W c X t x g hcm h => by simp only [mI, Bool.false_eq_true] at h⟩
theorem si_vls {a : E} : SI T k (.vls a) := ⟨fun W c X t x g hcm h => by simp only [mI, Bool.false_eq_true] at h⟩
mutual
theorem se_all (k : Nat) : ∀ (e : E) (T : TT), SE T k e
  | .no, _ => se_no
  | .var i, _ => se_var i
  | .non, _ => se_non
  | .bl b, _ => se_bl b
  | .int i, _ => se_int i
  | .str s, _ => se_str s
  | .tup es, T => se_tup (sa_all k es T)
  | .lst m es, T => se_lst (sa_all k es T)
  | .dct m kvs, T => se_dct (sk_all k kvs)
  | .bin m o a b, T => se_bin (se_all k a T) (se_all k b T)
  | .rpl m es n, T => se_rpl (sa_all k es T) (se_all k n T)
  | .neg a, T => se_neg (se_all k a T)
  | .nt a, T => se_nt (se_all k a T)
  | .cmp o a b, T => se_cmp (se_all k a T) (se_all k b T)
  | .chn o p a b c, T => se_chn (se_all k a T) (se_all k b T) (se_all k c T)
  | .isn y a, T => se_isn (se_all k a T)
  | .isb y c a, T => se_isb (se_all k a T)
  | .andE a b, T => se_and (se_all k a T) (se_all k b T)
  | .orE a b, T => se_or (se_all k a T) (se_all k b T)
  | .ife c a b, T => se_ife (se_all k c T) (se_all k a T) (se_all k b T)
  | .idx a b, T => se_idx (se_all k a T) (se_all k b T)
  | .slc m a lo hi, T => se_slc (se_all k a T) (se_all k lo T) (se_all k hi T)
  | .stp m a j, T => se_stp (se_all k a T)
  | .atr a f, T => se_atr (se_all k a T)
  | .call f es, T => se_call (sa_all k es T)
  | .mth a n es, T => se_mth (se_all k a T) (sa_all k es T)
  | .mk z c es, T => se_mk (sa_all k es T)
  | .bi m b es, T => se_bi (sa_all k es T)
  | .bm m b a es, T => se_bm (se_all k a T) (sa_all k es T)
  | .isi a t, T => se_isi (se_all k a T)
  | .lc m el tg it c, T => se_lc (si_all k it T) (fun T => se_all k el T) (fun T => se_all k c T)
  | .glb g, T => se_glb
  | .fnv f, T => se_fnv
  | .clv i es, T => se_clv (sa_all k es T)
theorem sa_all (k : Nat) : ∀ (es : Es) (T : TT), SA T k es
  | .nil, _ => sa_nil
  | .cons e r, T => sa_cons (se_all k e T) (sa_all k r T)
theorem sk_all (k : Nat) : ∀ (kvs : Kv), SK k kvs
  | .nil => sk_nil
  | .cons a b r => sk_cons (fun T => se_all k a T) (fun T => se_all k b T) (sk_all k r)
theorem si_all (k : Nat) : ∀ (it : I) (T : TT), SI T k it
  | .seq e, T => si_seq (se_all k e T)
  | .rng1 a, T => si_rng1 (se_all k a T)
  | .rng2 a b, T => si_rng2 (se_all k a T) (se_all k b T)
  | .rng3 a b c, T => si_rng3 (se_all k a T) (se_all k b T) (se_all k c T)
  | .zip a b, T => si_zip (se_all k a T) (se_all k b T)
  | .enm a, T => si_enm (se_all k a T)
  | .rev a, T => si_rev (se_all k a T)
  | .itm a, T => si_itm
  | .vls a, T => si_vls
end
end CT

set_option maxRecDepth 100000
/-! try: a caught exception is tracked from its suite on. -/
namespace CT
open PySem L2 PyProof.Rows
section
variable {X : Cx} {pins : List (Addr × Obj)} {σ : L2.St} {H : Hp} {s : Shared} {a : Addr} {cls : Value} {d : Option Addr} {oe : Obj} {vs : Array Value}
theorem exH_ok {P : Program} {w : World} {G : Hp} {h : Heap} (e : h.get? a = some oe) (z : Zc cls d oe) (f : oe.data = .fields vs) : ObjOk P w G h a (exH cls d a) :=
  ⟨⟨oe, vs, e, z, f⟩, ⟨oe, e⟩, fun _ _ ⟨o, v, q, r⟩ k => ⟨o, v, k o q, r⟩⟩
/-- an object that was not tracked, new since the entry, is tracked from now on -/
theorem inv_track (I : Inv X pins σ H s) (na : H a = none) (fresh : X.s_0.heap.get? a = none) (e : s.heap.get? a = some oe) (z : Zc cls d oe) (f : oe.data = .fields vs) (np : ∀ p ∈ X.pn ++ pins, p.1 ≠ a) : Inv X pins σ (upd H a (exH cls d a)) s := by
  have off : ∀ b, b ≠ a → upd H a (exH cls d a) b = H b := fun b h => upd_ne h
  have nl : X.env.locals ≠ a := fun q => by
    obtain ⟨m, ⟨o, es, ep, ho, hd, _⟩, _⟩ := id I.loc
    rw [q, e] at ho
    cases ho
    rw [f] at hd
    cases hd
  have nc : ∀ x c, X.env.cells.lookup x = some c → c ≠ a := fun x c hc q => by
    obtain ⟨v, o, ho, hd⟩ := I.cell x c hc
    rw [q, e] at ho
    cases ho
    rw [f] at hd
    cases hd
  exact {
    ok := I.ok, os := I.os, bare := I.bare, loc := I.loc, cell := I.cell, len := I.len
    base := {
      keep := I.base.keep, slot := I.base.slot, there := I.base.there
      free := fun b o q n hx => by
        rw [off b fun z => by rw [z, fresh] at q; cases q]
        exact I.base.free b o q n hx
      tups := fun b xs q => by
        have r := I.base.tups b xs q
        rw [off b (ne_of_none r na)]
        exact r
      frzs := fun b o u q => by
        have r := I.base.frzs b o u q
        rw [off b (ne_of_none r na)]
        exact r
      tbls := fun b ps q => by
        obtain ⟨more, r⟩ := I.base.tbls b ps q
        exact ⟨more, by rw [off b (ne_of_none r na)]; exact r⟩ }
    free := by rw [off _ nl]; exact I.free
    freeC := fun x c hc => by rw [off _ (nc x c hc)]; exact I.freeC x c hc
    pin := fun p hp => by
      obtain ⟨h1, h2, h3⟩ := I.pin p hp
      exact ⟨h1, by rw [off _ (np p hp)]; exact h2, h3⟩
    hok := I.hok.laidN (fun _ _ q => q) na (exH_ok e z f) }
theorem inv_suite (I : Inv X pins σ H s) (b : Addr) : Inv (X.suite b (X.pn ++ pins)) [] σ H s :=
  ⟨I.ok.suite _ _, I.os, I.bare, I.base, I.loc, I.cell, I.free, I.freeC, fun p hp => I.pin p (by rw [List.append_nil] at hp; exact hp), I.hok, I.len⟩
theorem inv_unsuite {b : Addr} {pn' : List (Addr × Obj)} (I : Inv (X.suite b (X.pn ++ pins)) pn' σ H s) (ok : X.Ok) : Inv X pins σ H s :=
  ⟨ok, I.os, I.bare, I.base, I.loc, I.cell, I.free, I.freeC, fun p hp => I.pin p (List.mem_append_left _ hp), I.hok, I.len⟩
end
/-- one clause: its class, the slot of its name, its suite's reading -/
structure Cl1 where
  c : Value
  i : Option Nat
  ts : Addr → Value → Option Addr → TS
/-- behind a suite the name is gone -/
def endsOf (D : Ends) : Option Nat → Ends
  | none => D
  | some i => { nx := fun σ H => D.nx (σ.set i none) H, rt := D.rt, bk := fun σ H => D.bk (σ.set i none) H, ct := fun σ H => D.ct (σ.set i none) H }
def inSlot (a : Addr) (σ : L2.St) : Option Nat → L2.St
  | none => σ
  | some i => σ.set i (some (.ref a))
/-- what the clauses wish of an exception -/
def wCl (K : PySem.W.Frag) (Wo : WX) (D : Ends) : List Cl1 → WX
  | [] => Wo
  | q :: r => fun cls d σ H => ∃ b, PySem.W.exmOne K cls q.c = some b ∧ (b = true → ∀ a, H a = none → q.ts a cls d (endsOf D q.i) (inSlot a σ q.i) (upd H a (exH cls d a))) ∧ (b = false → wCl K Wo D r cls d σ H)
inductive ClOk (X : Cx) : List ExceptHandler → List Cl1 → Prop
  | nil : ClOk X [] []
  | cons {x : Str} {n : Option Str} {q : Cl1} {b₀ : Stmt} {suite : List Stmt} {p1 p2 : Pos} {hds : List ExceptHandler} {l : List Cl1} : Names X x q.c →
      (match n, q.i with
        | none, none => True
        | some n, some i => X.N[i]? = some n ∧ X.env.kindOf n = some .local
        | _, _ => False) →
      (∀ (a : Addr) (cls : Value) (d : Option Addr) (pn : List (Addr × Obj)), PSs (X.suite a pn) (b₀ :: suite) (q.ts a cls d)) → ClOk X hds l →
      ClOk X (.ExceptHandler (some (.Name x p1)) n (b₀ :: suite) p2 :: hds) (q :: l)
section
variable {X : Cx} {body : List Stmt} {h₀ : ExceptHandler} {hds : List ExceptHandler} {l : List Cl1} {pos : Pos} {tb : WX → TS} {Wo : WX}
theorem ps_tryX (hs : X.stack = X.env :: X.outer) (hf : X.env.frame = some X.env.locals) (hx : X.ex = []) (hN : X.N.Nodup) (tk : Takes X Wo)
    (hb : ∀ (W : WX) (pn : List (Addr × Obj)) (xe : Value → Shared → Prop), Takes (X.tr pn xe) W → PassesOwn (model X.prog X.w) X.A X.env xe → PSs (X.tr pn xe) body (tb W))
    (hh : ClOk X (h₀ :: hds) l) : PS X (.Try body (h₀ :: hds) [] [] pos) (fun D σ H => tb (wCl X.K Wo D l) D σ H) := by
  refine ⟨fun pins s σ H D I rd => ?_⟩
  have ok := I.ok
  have fr : X.A.frames = some (X.env :: X.outer) := by rw [ok.frames, hs]
  have run := (hb (wCl X.K Wo D l) (X.pn ++ pins) (fun e t1 => wpAny (model X.prog X.w) X.A (noteFrame e X.env) (fun _ t2 => wpAny (model X.prog X.w) X.A (setFlight e none) (fun _ t3 =>
    wpAny (model X.prog X.w) X.A (handleBy e X.env (h₀ :: hds)) (SP X pins D) X.xe t3) X.xe t2) X.xe t1) (fun u s' xx => ?_) PassesOwn.looking).run [] s σ H D (I.toTry _) rd
  · refine wpAny_Try_except (wpAny_mono run (fun f t1 hsp => ?_) (fun e t1 he => he))
    match f, hsp with
    | .next, ⟨σ', H', J, q⟩ => exact wpAny_execs_nil ⟨σ', H', J.ofTry ok, q⟩
    | .brk, ⟨σ', H', J, q⟩ => exact ⟨σ', H', J.ofTry ok, q⟩
    | .cont, ⟨σ', H', J, q⟩ => exact ⟨σ', H', J.ofTry ok, q⟩
    | .ret u, ⟨v, σ', H', J, r, q⟩ => exact ⟨v, σ', H', J.ofTry ok, r, q⟩
  · -- caught
    obtain ⟨a, B, sI, pins', σ', H', cls, d, rfl, J0, nb, up, sky0, na, os, ag, w⟩ := xx
    have J : Inv X pins σ' H' sI := J0.ofTry ok
    have sky : Sky B (X.env :: X.outer) a (Zc cls d) X.env.locals s'.heap := hs ▸ sky0
    show wpAny (model X.prog X.w) X.A (noteFrame (.ref a) X.env) _ _ _
    refine Sky.land Zc.steady fr hf sky fun g1 fl1 up1 => ?_
    have J1 : Inv X pins σ' H' { s' with heap := g1 } := J.landed nb fl1.1 (up.trans up1) os ag
    obtain ⟨o1, v1, at1, z1, f1⟩ := fl1.there
    have offFr : a ∉ frs (X.env :: X.outer) := fun hm => by
      obtain ⟨_, o', e', hn⟩ := fl1.2.2.1.mem hm
      rw [at1] at e'
      cases e'
      exact hn _ f1
    have newI : sI.heap.get? a = none := by
      cases q : sI.heap.get? a with
      | none => rfl
      | some o =>
        have z := nb a o q (hs ▸ offFr)
        rw [fl1.2.1] at z
        cases z
    have fresh : X.s_0.heap.get? a = none := by
      cases q : X.s_0.heap.get? a with
      | none => rfl
      | some o =>
        obtain ⟨o', r⟩ := J.base.there a o q (by rw [hx]; simp)
        rw [newI] at r
        cases r
    have np : ∀ p ∈ X.pn ++ pins, p.1 ≠ a := fun p hp z => by
      have r := (J.pin p hp).1
      rw [z, newI] at r
      cases r
    have walk : ∀ {hds' : List ExceptHandler} {l' : List Cl1}, ClOk X hds' l' → wCl X.K Wo D l' cls d σ' H' → wpAny (model X.prog X.w) X.A (handleBy (.ref a) X.env hds') (SP X pins D) X.xe { s' with heap := g1 } := by
      intro hds' l' hk
      induction hk with
      | nil =>
        intro w
        obtain ⟨k1, k2, k3, o2, v2, tb2, otb, ts2, e2, zz2, f2, tr2, rr⟩ := id fl1
        refine wpAny_handleBy_nil ?_
        unfold PySem.passOn
        refine wpAny_bind (wpAny_field e2 f2 tr2 ?_)
        rw [if_neg (show ¬ ((Value.ref tb2 == Value.none) = true) by simp)]
        have last : wpAny (model X.prog X.w) X.A (setFlight (.ref a) X.env.frame) (fun _ t4 => wpAny (model X.prog X.w) X.A (throw (.ref a) : Sem Flow) (SP X pins D) X.xe t4) X.xe { s' with heap := g1 } := by
          rw [hf]
          exact HandSPX.setFlight_upZ fl1 fun g4 hold up4 => wpAny_throw (tk _ _ ⟨a, B, sI, pins, σ', H', cls, d, rfl, J, nb, (up.trans up1).trans up4, .inr (.inr (hs.symm ▸ hold)), na, os, ag, w⟩)
        first
          | exact wpAny_bind (wpAny_pure (wpAny_bind last))
          | exact wpAny_bind last
      | @cons x n q b₀ suite p1 p2 hds2 l2 names slot body2 rest ih =>
        intro w
        obtain ⟨b, eb, yes, no⟩ := w
        refine wpAny_handleBy_cons (codeAny_handlers_test ?_) (by intro z; cases z)
        have ty : PySem.W.Looks (model X.prog X.w) g1 (typeOf (.ref a)) cls := fun A' Q' E' s2 keep done => wpAny_typeOf_ref (keep _ _ at1) (by rw [z1.1]; exact done)
        have test := PySem.W.exm_one (M := model X.prog X.w) J1.kIn ty eb
        have S1 := inv_suite J1 a
        have name : ∀ {Q : Value → Shared → Prop} {E : Value → Shared → Prop}, Q q.c { s' with heap := g1 } → wpAny (model X.prog X.w) (X.A.mark (some (.ref a))) (eval (.Name x p1) X.env) Q E { s' with heap := g1 } := by
          intro Q E done
          obtain ⟨gl, nd, hm | ⟨hm, hv, nn⟩⟩ := names
          · exact ld_glob (X := X.suite a (X.pn ++ pins)) S1 gl hm done nd
          · exact ld_blt (X := X.suite a (X.pn ++ pins)) S1 gl hm hv done nn nd
        refine name (test.here ?_)
        cases b with
        | false =>
          show wpAny _ X.A (handleBy (.ref a) X.env hds2) _ _ _
          exact ih (no rfl)
        | true =>
          have wish := yes rfl a na
          obtain ⟨qc, qi, qts⟩ := q
          match n, qi, slot with
          | none, none, _ =>
            refine codeAny_handlers_suite (HandSPX.lands_againZ fl1 fun g4 fl4 up4 => ?_)
            have J4 : Inv X pins σ' H' { s' with heap := g4 } := J.landed nb fl4.1 ((up.trans up1).trans up4) os ag
            obtain ⟨o4, v4, at4, z4, f4⟩ := fl4.there
            have S4 := inv_suite (inv_track J4 na fresh at4 z4 f4 np) a
            refine wpAny_mono ((body2 a cls d (X.pn ++ pins)).run [] _ _ _ _ S4 wish) (fun f t6 hsp => ?_) (fun _ _ z => False.elim z)
            match f, hsp with
            | .next, ⟨σ6, H6, S6, q6⟩ => exact ⟨_, _, inv_unsuite S6 ok, q6⟩
            | .brk, ⟨σ6, H6, S6, q6⟩ => exact ⟨_, _, inv_unsuite S6 ok, q6⟩
            | .cont, ⟨σ6, H6, S6, q6⟩ => exact ⟨_, _, inv_unsuite S6 ok, q6⟩
            | .ret u, ⟨v6, σ6, H6, S6, r6, q6⟩ => exact ⟨_, _, _, inv_unsuite S6 ok, r6, q6⟩
          | some n, some i, ⟨hi, hl⟩ =>
            refine codeAny_handlers_suite_as (HandSPX.lands_againZ fl1 fun g4 fl4 up4 => ?_)
            have J4 : Inv X pins σ' H' { s' with heap := g4 } := J.landed nb fl4.1 ((up.trans up1).trans up4) os ag
            obtain ⟨o4, v4, at4, z4, f4⟩ := fl4.there
            have S4 := inv_suite (inv_track J4 na fresh at4 z4 f4 np) a
            refine store_ok (X := X.suite a (X.pn ++ pins)) (v := .ref a) S4 hN hi (.inl hl) rfl (fun t5 S5 => ?_) (.inr hl)
            refine wpAny_mono ((body2 a cls d (X.pn ++ pins)).run [] t5 _ _ _ S5 wish) (fun f t6 hsp => ?_) (fun _ _ z => False.elim z)
            have gone : ∀ {σ6 : L2.St} {H6 : Hp} {Q : Shared → Prop}, Inv (X.suite a (X.pn ++ pins)) [] σ6 H6 t6 → (∀ t7, Inv X pins (σ6.set i none) H6 t7 → Q t7) →
                wpAny (model X.prog X.w) X.A (do bindName X.env n .none; unbindBehindTheSuite X.env n p2) (fun _ t7 => Q t7) X.xe t6 := fun S6 done => gone_ok (inv_unsuite S6 ok) hN hi hl done
            match f, hsp with
            | .next, ⟨σ6, H6, S6, q6⟩ => exact gone S6 fun t7 J7 => ⟨_, _, J7, q6⟩
            | .brk, ⟨σ6, H6, S6, q6⟩ => exact gone S6 fun t7 J7 => ⟨_, _, J7, q6⟩
            | .cont, ⟨σ6, H6, S6, q6⟩ => exact gone S6 fun t7 J7 => ⟨_, _, J7, q6⟩
            | .ret u, ⟨v6, σ6, H6, S6, r6, q6⟩ => exact gone S6 fun t7 J7 => ⟨_, _, _, J7, r6, q6⟩
    exact walk hh w
end
end CT

set_option maxRecDepth 100000
/-! raise. -/
namespace CT
open PySem L2 PyProof.Rows
variable {T : TT} {k : Nat}
/-- what an exception's own __init__ does -/
def spIni (K : PySem.W.Frag) (f : Str) : Sp := fun vs H Q _ => ∃ (a C : Addr) (v : V), vs = [.ref a, v] ∧ OexC K C ∧ PySem.W.findIn K (.ref C) f = some none ∧ H a = some (exo a C none) ∧
  ∀ dx, H dx = none → dx ≠ a → Q .non (upd (upd H dx (exd dx [(f, v)])) a (exo a C (some dx)))
theorem ini_fn {P : Program} {w : World} {K : PySem.W.Frag} {mg : Str → Option Value} {base : Heap} {f n1 n2 name qual : Str} {params : Arguments} {scope : Scope} {kV doc pm cdv ct oc : Value} {an od : Option Addr} {osl : Array (Option Value)} {p1 p2 p3 p4 : Pos} {fI : Addr}
    (lk : K.lookup fI = some ⟨oc, od, .func (PySem.W.fnOf name qual params [.Assign [.Attribute (.Name n1 p1) f p2] (.Name n2 p3) p4] scope .none kV doc pm an cdv ct), osl⟩) (cd : PySem.W.codeIn K cdv qual = true) (S : FnScope [n1, n2] [n1, n2] scope)
    (d1 : (n1 == ("__debug__" : Str)) = false) (d2 : (n1 == ("__classdict__" : Str)) = false) (d3 : (n2 == ("__debug__" : Str)) = false) (d4 : (n2 == ("__classdict__" : Str)) = false) :
    FnOk P w K mg base CX0 1 fI (PySem.W.fnOf name qual params [.Assign [.Attribute (.Name n1 p1) f p2] (.Name n2 p3) p4] scope .none kV doc pm an cdv ct) [n1, n2] (spIni K f) := by
  refine fn_of lk cd S (fun vs H Q E h => ?_) fun A outer s H vs Q E hr h => ?_
  · obtain ⟨a, C, v, rfl, _⟩ := h
    rfl
  · obtain ⟨a, C, v, rfl, T, nof, e, q⟩ := h
    have v1 : Vis (cxOf CX0 P w K mg base [n1, n2] qual scope fI cdv A outer s H E).env.scope n1 := (S.par n1 (by simp)).elim .inl fun z => .inr (.inl z)
    have v2 : Vis (cxOf CX0 P w K mg base [n1, n2] qual scope fI cdv A outer s H E).env.scope n2 := (S.par n2 (by simp)).elim .inl fun z => .inr (.inl z)
    refine ⟨_, pss_cons (ps_ost (pe_var (i := 0) rfl v1 d1 d2) (pe_var (i := 1) rfl v2 d3 d4)) pss_nil, ?_⟩
    refine ⟨v, rfl, .ref a, rfl, a, C, rfl, T, nof, .inl ⟨e, fun dx n ne => ?_⟩⟩
    exact q dx n ne
theorem rse_no {W : WX} {c : MC} {X : Cx} (g : Good T k W c X) {j : Nat} {x : Str} {e : Expr} {a : E} {p pos pp : Pos} (ha : SE T k a) (hcm : c.cm = true) (hx : x = c.nm.xc j) (hne : (x == ("" : Str)) = false) (hgl : glbB c x = true) (hm : mE c a e = true) (hst : noStar e = true) (hxf : T.P.xf j = none) :
    PS X (.Raise (some (.Call (.Name x p) [e] [] pos)) none pp) (tS T k W (.rse j (.cons a .nil))) := by
  subst hx
  obtain ⟨gx, okc⟩ := g.tok.xg j (by simpa using hne)
  obtain ⟨⟨B, newId, initId, bmB, F, xi⟩, kC, exC, tyC⟩ := g.tok.xno j hxf okc
  obtain ⟨gl, nd, _⟩ := g.gl hgl
  refine PS.imp (ps_raise (g.calm hcm) g.tk (SkE.pmk_own1 (C := T.xa j) F (by rw [g.K]; exact xi) (by rw [g.mg]; exact gx) (by rw [g.K]; exact kC) (raises_own (by rw [g.K]; exact exC) (by rw [g.K]; exact tyC)) gl (ha.pe W c X e g hm) (star_cons _ _ hst) nd)) ?_
  rintro D τ H ⟨ms, σ, st, A, q⟩
  simp only [evS, okc, if_true, evEs, hxf, Option.isSome_none, Bool.false_eq_true, if_false] at q
  refine ⟨ms, σ, st, A, ?_⟩
  cases r : evE T.P (runF T.P k) σ a st with
  | ok d st1 =>
    simp only [r, R.bind, SR.of] at q
    exact fun v ms1 H1 ev ah rd => q none ms1 τ H1 ev ah (A.as.mono ev) (.no hxf)
  | ex cc pl st1 =>
    simp only [r, R.bind, SR.of] at q
    exact fun dd ms1 H1 ev ah rx => q dd ms1 τ H1 ev ah (A.as.mono ev) rx
  | bad =>
    simp only [r, R.bind, SR.of] at q
    exact q.elim
theorem rse_ini {W : WX} {c : MC} {X : Cx} (g : Good T k W c X) {j f : Nat} {x : Str} {e : Expr} {es : Es} {p pos pp : Pos} (ha : SA T k es) (hcm : c.cm = true) (hx : x = c.nm.xc j) (hne : (x == ("" : Str)) = false) (hgl : glbB c x = true) (hm : mEs c es [e] = true) (hst : noStar e = true) (hxf : T.P.xf j = some f) :
    PS X (.Raise (some (.Call (.Name x p) [e] [] pos)) none pp) (tS T k W (.rse j es)) := by
  subst hx
  obtain ⟨gx, okc⟩ := g.tok.xg j (by simpa using hne)
  obtain ⟨oex, nof, fI, name, qual, n1, n2, params, scope, kV, doc, pm, cdv, ct, oc, an, od, osl, p1, p2, p3, p4, iC, tI, lk, cd, S, d1, d2, d3, d4, bnd⟩ := g.tok.xin j f hxf okc
  obtain ⟨gl, nd, _⟩ := g.gl hgl
  have K := g.K
  have F1 := ini_fn (P := X.prog) (w := X.w) (K := X.K) (mg := X.mg) (base := X.base) (K ▸ lk) (K ▸ cd) S d1 d2 d3 d4
  have hb : Binds X.K (PySem.W.fnOf name qual params [.Assign [.Attribute (.Name n1 p1) (T.fnm f) p2] (.Name n2 p3) p4] scope .none kV doc pm an cdv ct) [n1, n2] [] := .all fun us hl => by
    match us, hl with
    | [u1, u2], _ => exact bnd u1 u2
  refine PS.imp (ps_raise (g.calm hcm) g.tk (pmk_oex (C := T.xa j) (k := 1) (by rw [K]; exact oex) (by rw [K]; exact iC) (by rw [K]; exact tI) F1 ((g.room hcm).mono (by omega)) hb .nil pass0 gl (by rw [g.mg]; exact gx) (ha.pa W c X [e] g hm) nd (star_cons _ _ hst))) ?_
  rintro D τ H ⟨ms, σ, st, A, q⟩
  simp only [evS, okc, if_true] at q
  refine ⟨ms, σ, st, A, ?_⟩
  cases r : evEs T.P (runF T.P k) σ es st with
  | ok ds st1 =>
    simp only [r, SR.of] at q
    rw [if_pos (show (T.P.xf j).isSome = true by rw [hxf]; rfl)] at q
    intro vs ms1 H1 ev ah rds
    have hl := sa_len hm r
    match ds, vs, hl, rds with
    | [d0], [v0], _, .cons rd .nil =>
      refine ⟨by simp, fun a na => ⟨a, T.xa j, v0, rfl, by rw [K]; exact oex, by rw [K]; exact nof, upd_same, fun dx nx ne => ?_⟩⟩
      have nx1 : H1 dx = none := by rw [← nx, upd_ne ne]
      refine ⟨rfl, dx, [(T.fnm f, v0)], upd_same, by rw [upd_ne ne, upd_same], nx1, ?_⟩
      have eH : upd (del (upd (upd (upd H1 a (exo a (T.xa j) none)) dx (exd dx [(T.fnm f, v0)])) a (exo a (T.xa j) (some dx))) a) dx (.xd [(T.fnm f, v0)]) = upd H1 dx (.xd [(T.fnm f, v0)]) := by
        funext b
        by_cases hb : b = dx
        · rw [hb, upd_same, upd_same]
        · rw [upd_ne hb, upd_ne hb]
          by_cases hb2 : b = a
          · rw [hb2, del_same, na]
          · rw [del_ne hb2, upd_ne hb2, upd_ne hb, upd_ne hb2]
      rw [eH]
      refine q (some dx) ms1 τ _ (ev.trans (Evo.new ah nx1)) (ah.new nx1) (A.as.mono (ev.trans (Evo.new ah nx1))) ?_
      exact .one hxf (ah.fresh nx1) upd_same (rd.mono (Evo.new ah nx1))
  | ex cc pl st1 =>
    simp only [r, SR.of] at q
    exact fun dd ms1 H1 ev ah rx => q dd ms1 τ H1 ev ah (A.as.mono ev) rx
  | bad =>
    simp only [r, SR.of] at q
    exact q.elim
theorem ss_rse {j : Nat} {es : Es} (hs : SA T k es) (he : ∀ e, SE T k e) : SS T k (.rse j es) := ⟨fun W c X x g hp h => by
  simp only [mS] at h
  split at h <;> first | (cases h; done) | skip
  simp only [Bool.and_eq_true, decide_eq_true_eq, Bool.not_eq_true'] at h
  obtain ⟨⟨⟨⟨h1, h2⟩, h3⟩, h4⟩, h5⟩ := h
  cases es with
  | nil => simp [mEs] at h5
  | cons a r =>
    have h6 := h5
    simp only [mEs, Bool.and_eq_true] at h6
    cases r with
    | nil =>
      cases hxf : T.P.xf j with
      | none => exact rse_no g (he a) h1 h2 h3 h4 h6.1.1 h6.1.2 hxf
      | some f => exact rse_ini g hs h1 h2 h3 h4 h5 h6.1.2 hxf
    | cons => simp [mEs] at h6⟩
end CT

set_option maxRecDepth 100000
/-! try. -/
namespace CT
open PySem L2 PyProof.Rows
variable {T : TT} {k : Nat}
theorem takes_no {X : Cx} : Takes X W0 := fun _ _ ⟨_, _, _, _, _, _, _, _, _, _, _, _, _, _, _, _, w⟩ => w.elim
theorem good_tr {W W' : WX} {c : MC} {X : Cx} {pn : List (Addr × Obj)} {xe : Value → Shared → Prop} (g : Good T k W c X) (tk : Takes (X.tr pn xe) W') : Good T k W' c (X.tr pn xe) :=
  { g with pp := g.pp, w := g.w, K := g.K, mg := g.mg, base := g.base, N := g.N, sc := g.sc, stor := g.stor, calm := g.calm, room := g.room, units := g.units, grd := g.grd, tk := tk }
theorem good_su {W : WX} {c : MC} {X : Cx} {a : Addr} {pn : List (Addr × Obj)} (g : Good T k W c X) : Good T k W0 { c with cm := false } (X.suite a pn) :=
  { pp := g.pp, w := g.w, K := g.K, mg := g.mg, base := g.base, N := g.N, nd := g.nd, sc := g.sc, stor := g.stor, calm := fun h => (nomatch h), room := fun h => (nomatch h), units := by
      have := g.units
      simp only [Around.mark_units]
      exact this
    grd := g.grd, tk := takes_no, tok := g.tok, fns := fun h => (nomatch h) }
def lCl (T : TT) (k : Nat) : Hs → List Cl1
  | .nil => []
  | .cons c i b r => ⟨.ref (T.xa c), i, fun _ _ _ => tSs T k W0 b⟩ :: lCl T k r
structure SHs (T : TT) (k : Nat) (hs : Hs) : Prop where
  ok : ∀ (W : WX) (c : MC) (X : Cx) (hds : List ExceptHandler), Good T k W c X → Pas X → mHs c hs hds = true → ClOk X hds (lCl T k hs)
  wish : ∀ (W : WX) (c : MC) (X : Cx) (hds : List ExceptHandler), Good T k W c X → mHs c hs hds = true → ∀ (En : Ends) (ms : List Addr) (σ : Env) (τ : L2.St) (H : Hp) (j : Nat) (pl : List D) (st : Store) (dd : Option Addr),
    AH T ms st H → AS T ms H σ τ → RX T ms H j pl dd → PstS T W ms H (evHs T.P (runF T.P k) σ hs j pl st) En → wCl X.K W En (lCl T k hs) (.ref (T.xa j)) dd τ H
theorem shs_nil : SHs T k .nil where
  ok := fun W c X hds g hp h => by
    cases hds with
    | nil => exact .nil
    | cons => simp only [mHs, Bool.false_eq_true] at h
  wish := fun W c X hds g h En ms σ τ H j pl st dd ah as rx p => by
    simp only [evHs] at p
    exact p dd ms τ H .refl ah as rx
theorem hs_inv {c : MC} {j : Nat} {i : Option Nat} {b : Ss} {r : Hs} {hds : List ExceptHandler} (h : mHs c (.cons j i b r) hds = true) :
    ∃ x p1 n s₀ suite p2 rest, hds = .ExceptHandler (some (.Name x p1)) n (s₀ :: suite) p2 :: rest ∧ x = c.nm.xc j ∧ (x == ("" : Str)) = false ∧ glbB c x = true ∧ slotB c i n = true ∧ mSs { c with cm := false } b (s₀ :: suite) = true ∧ mHs c r rest = true := by
  cases hds with
  | nil => simp only [mHs, Bool.false_eq_true] at h
  | cons q rest =>
    obtain ⟨ty, n, su, p2⟩ := q
    cases ty with
    | none => simp only [mHs, Bool.false_eq_true] at h
    | some ty =>
      cases ty with
      | Name x p1 =>
        cases su with
        | nil => simp only [mHs, Bool.false_eq_true] at h
        | cons s₀ suite =>
          simp only [mHs, Bool.and_eq_true, decide_eq_true_eq, Bool.not_eq_true'] at h
          obtain ⟨⟨⟨⟨⟨h1, h2⟩, h3⟩, h4⟩, h5⟩, h6⟩ := h
          exact ⟨x, p1, n, s₀, suite, p2, rest, rfl, h1, h2, h3, h4, h5, h6⟩
      | _ => simp only [mHs, Bool.false_eq_true] at h
theorem shs_cons {j : Nat} {i : Option Nat} {b : Ss} {r : Hs} (hb : SSs T k b) (hr : SHs T k r) : SHs T k (.cons j i b r) where
  ok := fun W c X hds g hp h => by
    obtain ⟨x, p1, n, s₀, suite, p2, rest, rfl, h1, h2, h3, h4, h5, h6⟩ := hs_inv h
    subst h1
    obtain ⟨gx, okc⟩ := g.tok.xg j (by simpa using h2)
    obtain ⟨gl, nd, _⟩ := g.gl h3
    refine ClOk.cons ⟨gl, nd, .inl (by rw [g.mg]; exact gx)⟩ ?_ (fun a cls d pn => ?_) (hr.ok W c X rest g hp h6)
    · match n, i, h4 with
      | none, none, _ => trivial
      | some n, some i, h4 =>
        simp only [slotB, Bool.and_eq_true, decide_eq_true_eq] at h4
        refine ⟨by rw [g.N]; exact h4.1, ?_⟩
        show X.env.scope.names.lookup n = _
        rw [g.sc]
        exact h4.2
    · exact hb.ps W0 _ _ _ (good_su g) ⟨PassesOwn.never, hp.stk, hp.frm, hp.nex⟩ h5
  wish := fun W c X hds g h En ms σ τ H jj pl st dd ah as rx p => by
    obtain ⟨x, p1, n, s₀, suite, p2, rest, rfl, h1, h2, h3, h4, h5, h6⟩ := hs_inv h
    subst h1
    simp only [evHs] at p
    by_cases hc : (T.P.sub jj jj && T.P.sub j j) = true
    · rw [if_pos hc] at p
      rw [Bool.and_eq_true] at hc
      refine ⟨T.P.sub jj j, by rw [g.K]; exact g.tok.xs jj j hc.1 hc.2, fun hy a na => ?_, fun hn => ?_⟩
      · rw [if_pos hy] at p
        have ev : Evo ms H ms (upd H a (exH (.ref (T.xa jj)) dd a)) := Evo.new ah na
        have ah2 := ah.new (o := exH (.ref (T.xa jj)) dd a) na
        cases i with
        | none =>
          refine ⟨ms, σ, st, ⟨ah2, as.mono ev⟩, ?_⟩
          replace p := PstS.mono ev p
          simp only at p
          show PstS T W0 ms _ (evSs T.P (runF T.P k) σ b st) En
          cases e : evSs T.P (runF T.P k) σ b st with
          | nx σ2 st2 => rw [e] at p; exact p
          | rt d st2 => rw [e] at p; exact p
          | ex c2 pl2 σ2 st2 => rw [e] at p; exact p.elim
          | bad => rw [e] at p; exact p.elim
        | some i =>
          have ro : RD T ms (upd H a (exH (.ref (T.xa jj)) dd a)) (.exc jj pl) (.ref a) := .exc (ah.fresh na) upd_same (rx.mono ev)
          refine ⟨ms, σ.set i (some (.exc jj pl)), st, ⟨ah2, (as.mono ev).set ro i⟩, ?_⟩
          replace p := PstS.mono ev p
          simp only at p
          show PstS T W0 ms _ (evSs T.P (runF T.P k) (σ.set i (some (.exc jj pl))) b st) (endsOf En (some i))
          cases e : evSs T.P (runF T.P k) (σ.set i (some (.exc jj pl))) b st with
          | nx σ2 st2 => rw [e] at p; exact fun ms' τ' H' ev' ah' as' => p ms' _ H' ev' ah' (as'.unset i)
          | rt d st2 => rw [e] at p; exact p
          | ex c2 pl2 σ2 st2 => rw [e] at p; exact p.elim
          | bad => rw [e] at p; exact p.elim
      · rw [if_neg (by rw [hn]; simp)] at p
        exact hr.wish W c X rest g h6 En ms σ τ H jj pl st dd ah as rx p
    · rw [if_neg hc] at p
      exact p.elim
theorem ss_tr {b : Ss} {hs : Hs} (hb : SSs T k b) (hh : SHs T k hs) : SS T k (.tr b hs) := ⟨fun W c X x g hp h => by
  simp only [mS] at h
  split at h <;> first | (cases h; done) | skip
  simp only [Bool.and_eq_true] at h
  obtain ⟨⟨h1, h2⟩, h3⟩ := h
  have hN : X.N.Nodup := by rw [g.N]; exact g.nd
  refine PS.imp (ps_tryX (tb := fun W' => tSs T k W' b) hp.stk hp.frm hp.nex hN g.tk (fun W' pn xe tk own => hb.ps W' c _ _ (good_tr g tk) ⟨own, hp.stk, hp.frm, hp.nex⟩ h2) (hh.ok W c X _ g hp h3)) ?_
  rintro D τ H ⟨ms, σ, st, A, p⟩
  simp only [evS] at p
  refine ⟨ms, σ, st, A, ?_⟩
  cases e : evSs T.P (runF T.P k) σ b st with
  | nx σ2 st2 => rw [e] at p; exact p
  | rt d st2 => rw [e] at p; exact p
  | ex j pl σ2 st2 =>
    rw [e] at p
    exact fun dd ms' τ' H' ev ah as rx => hh.wish W c X _ g h3 D ms' σ2 τ' H' j pl st2 dd ah as rx (PstS.mono ev p)
  | bad => rw [e] at p; exact p.elim⟩
end CT

set_option maxRecDepth 100000
/-! All statements. -/
namespace CT
open PySem L2 PyProof.Rows
variable {T : TT} {k : Nat}
theorem ss_asg (t : Tg) (e : E) : SS T k (.asg t e) := by
  cases t with
  | g gt =>
    cases gt with
    | nm i =>
      by_cases h : ∃ m el tg it cnd, e = .lc m el tg it cnd
      · obtain ⟨m, el, tg, it, cnd, rfl⟩ := h
        exact ss_nmLc (si_all k it T) (fun T => se_all k el T) (fun T => se_all k cnd T)
      · exact ss_nm (se_all k e T) fun m el tg it cnd z => h ⟨m, el, tg, it, cnd, z⟩
    | tp gs => exact ss_tp (se_all k e T)
  | sub a i => exact ss_sub (se_all k e T) (se_all k a T) (se_all k i T)
  | fld a f => exact ss_fld (se_all k e T) (se_all k a T)
mutual
theorem ss_all (T : TT) (k : Nat) : ∀ s : S, SS T k s
  | .asg t e => ss_asg t e
  | .par i j a b => ss_par (se_all k a T) (se_all k b T)
  | .exp e => ss_exp (se_all k e T)
  | .ret e => ss_ret (se_all k e T)
  | .iff c a b => ss_iff (se_all k c T) (sss_all T k a) (sss_all T k b)
  | .fr g it b => ss_fr (si_all k it T) (sss_all T k b)
  | .whl c b => ss_whl (se_all k c T) (sss_all T k b)
  | .rse c es => ss_rse (sa_all k es T) (fun e => se_all k e T)
  | .tr b hs => ss_tr (sss_all T k b) (shs_all T k hs)
  | .pss => ss_pss
theorem sss_all (T : TT) (k : Nat) : ∀ s : Ss, SSs T k s
  | .nil => ss_nil
  | .cons s r => ss_cons (ss_all T k s) (sss_all T k r)
theorem shs_all (T : TT) (k : Nat) : ∀ h : Hs, SHs T k h
  | .nil => shs_nil
  | .cons c i b r => shs_cons (sss_all T k b) (shs_all T k r)
end
end CT

set_option maxRecDepth 100000
/-! A def. -/
namespace CT
open PySem L2 PyProof.Rows
variable {T : TT} {k : Nat}
/-- a def of the text beside the evaluator's -/
structure FnF (T : TT) (nm : Nm) (f : Nat) (F : Fn) : Prop where
  ex : ∃ (name qual : Str) (params : Arguments) (body : List Stmt) (scope : Scope) (dV kV doc pm cdv ct oc : Value) (an od : Option Addr) (osl : Array (Option Value)) (N ps : List Str),
    T.K.lookup (T.fa f) = some ⟨oc, od, .func (PySem.W.fnOf name qual params body scope dV kV doc pm an cdv ct), osl⟩ ∧ PySem.W.codeIn T.K cdv qual = true ∧ FnScope N ps scope ∧
    F.np = ps.length ∧ F.nsl = N.length ∧ mSs ⟨nm, N, scope, N, true⟩ F.body body = true ∧
    ∀ j, j ≤ F.dfl.length → ∃ ds dvs, Binds T.K (PySem.W.fnOf name qual params body scope dV kV doc pm an cdv ct) ps ds ∧ Vals dvs ds ∧ ∀ hs ms H, RDs (T.hide hs) ms H (F.dfl.drop (F.dfl.length - j)) dvs
theorem as_start {ms : List Addr} {H : Hp} {ds : List D} {vs : List V} {N : List Str} {n : Nat} (hn : n = N.length) (r : RDs T ms H ds vs) : AS T ms H (startE n ds) (L2.start N vs) := by
  subst hn
  have hl := r.length
  unfold startE L2.start
  refine ⟨by simp [hl], fun i d h => ?_⟩
  by_cases hi : i < ds.length
  · rw [List.getElem?_append_left (by simpa using hi), List.getElem?_map] at h
    cases e : ds[i]? with
    | none => rw [e] at h; cases h
    | some d0 =>
      rw [e] at h
      cases h
      obtain ⟨v, h1, h2⟩ := r.get e
      exact ⟨v, by rw [List.getElem?_append_left (by simp; omega), List.getElem?_map, h1]; rfl, h2⟩
  · rw [List.getElem?_append_right (by simpa using hi), List.getElem?_replicate] at h
    split at h <;> cases h

theorem call_step {nm : Nm} (tok : TOk T nm) (hF : ∀ f F, T.P.fn f = some F → FnF T nm f F) (ih : ∀ hs f, CallOk (T.hide hs) k f) : ∀ f, CallOk T (k + 1) f := by
  intro f A outer s H us vs Q E hr hgd e0 r ⟨ms, st, ds, ah, rds, px⟩
  unfold PstX at px
  cases hf : T.P.fn f with
  | none => simp only [runF, hf] at px; exact px.elim
  | some F =>
    simp only [runF, hf] at px
    obtain ⟨name, qual, params, body, scope, dV, kV, doc, pm, cdv, ct, oc, an, od, osl, N, ps, lk, hcd, S, hnp, hnsl, hm, hbind⟩ := (hF f F hf).ex
    by_cases hlen : (ds ++ F.dfl.drop (F.dfl.length - (F.np - ds.length))).length ≠ F.np
    · rw [if_pos hlen] at px; exact px.elim
    rw [if_neg hlen] at px
    have hlen : (ds ++ F.dfl.drop (F.dfl.length - (F.np - ds.length))).length = F.np := Classical.not_not.mp hlen
    have hj : F.np - ds.length ≤ F.dfl.length := by
      rw [List.length_append, List.length_drop] at hlen
      omega
    obtain ⟨dsv, dvs, hb, hv, hrd⟩ := hbind _ hj
    have rargs := rds.append (hrd T.hid ms H)
    have r2 : Vals (vs ++ dvs) (us ++ dsv) := r.append hv
    have hl : (vs ++ dvs).length = ps.length := by rw [← rargs.length, ← hnp]; exact hlen
    have hl2 : (us ++ dsv).length = ps.length := by rw [← r2.length]; exact hl
    have KX : T.K.In s.heap := e0.mod.kin.keeps fun b o e => (e0.bs b o e).1
    have lim : s.heap.NoLimit := e0.mod.nolimit.keeps fun b o e => (e0.bs b o e).1
    have hkind : ∀ y ∈ ps.zip (us ++ dsv), scope.names.lookup y.1 = some .local ∨ (scope.names.lookup y.1 = some .cell ∧ ((cellsFrom (s.heap.objs.size + 1) scope.names []).lookup y.1).isSome = true) := fun ⟨n, v⟩ hy => by
      rcases S.par n (List.of_mem_zip hy).1 with q | q
      · exact .inl q
      · exact .inr ⟨q, PySem.W.cellsFrom_some _ _ _ (.inl q)⟩
    have hroom : Room (2 * k + 3) (A.deeper (envOfC qual scope s.heap.objs.size (T.fa f) cdv)) := (hr.mono (show 2 * k + 3 + 1 ≤ 2 * (k + 1) + 2 by omega)).deeper _
    have G : Good T k (fun cls d _ H => E cls d H) ⟨nm, N, scope, N, true⟩ (cxOf (CX T.pp T.w) T.pp T.w T.K T.mg T.base N qual scope (T.fa f) cdv A outer s H E) := {
      pp := rfl, w := rfl, K := rfl, mg := rfl, base := rfl, N := rfl, nd := S.nd, sc := rfl, stor := fun _ _ => .inl rfl, calm := fun _ => rfl, room := fun _ => hroom,
      units := by have := hroom.un; show (A.deeper _).units + 100 < cLine; omega
      grd := hgd
      tk := takes_of rfl rfl rfl rfl
      tok := tok
      fns := fun _ => ih }
    refine codeAny_call_function hr.depth (KX _ _ lk) rfl S.co S.gen rfl (PySem.W.codeRec_of KX hcd) ((hb s us KX hl2) _ _ _ _ ?_)
    refine wpAny_newFunctionEnv_cells S.kind hkind fun env he s1 x => ?_
    subst he
    refine ⟨lim.keeps x.toInCall.keep, codeAny_func ?_⟩
    have I := inv_start (CX := CX T.pp T.w) (P := T.pp) (w := T.w) (K := T.K) (mg := T.mg) (base := T.base) (E := E) S hr.hd e0 hl r2 x
    have hbody := (sss_all T k F.body).ps _ _ _ body G ⟨passes_of rfl, rfl, rfl, rfl⟩ hm
    refine wpAny_mono (hbody.run [] s1 (L2.start N (vs ++ dvs)) H { nx := fun _ H' => Q .non H', rt := Q } I ⟨ms, startE F.nsl (ds ++ F.dfl.drop (F.dfl.length - (F.np - ds.length))), st, ⟨ah, as_start hnsl rargs⟩, ?_⟩) (fun fl s' hs => ?_) fun e s' hs => hs
    · cases hbd : evSs T.P (runF T.P k) (startE F.nsl (ds ++ F.dfl.drop (F.dfl.length - (F.np - ds.length)))) F.body st with
      | nx σ st' =>
        rw [hbd] at px
        exact fun ms' τ' H' ev ah' as' => leave_ok ah ev ah' .non px
      | rt d st' =>
        rw [hbd] at px
        exact fun v ms' H' ev ah' rd => leave_ok ah ev ah' rd px
      | ex c pl σ st' =>
        rw [hbd] at px
        simp only at px
        intro dd ms' τ' H' ev ah' as' rx
        split at px
        · rename_i hpl
          cases h2 : trunc st st' with
          | none => rw [h2] at px; exact px.elim
          | some s2 =>
            rw [h2] at px
            exact px dd ms H' ev.back (trunc_ok ah ev ah' h2) (rx_dn (dn_pre ev.pre) rx (pures_blw _ _ hpl))
        · exact px.elim
      | bad => rw [hbd] at px; exact px.elim
    · have fin : ∀ {σ' : L2.St} {H' : Hp} {v : V} {u : Value}, Inv (cxOf (CX T.pp T.w) T.pp T.w T.K T.mg T.base N qual scope (T.fa f) cdv A outer s H E) [] σ' H' s' → RelV v u → Q v H' → CE outer T.pp T.w H s Q u s' :=
        fun {σ' H' v u} J rv q => ⟨v, H', J.os, J.bare, J.base, J.hok, rv, q⟩
      cases fl with
      | ret u =>
        obtain ⟨v, σ', H', J, rv, q⟩ := hs
        exact fin J rv q
      | next =>
        obtain ⟨σ', H', J, q⟩ := hs
        exact fin (v := V.non) (u := Value.none) J rfl q
      | brk =>
        obtain ⟨_, _, _, q⟩ := hs
        exact False.elim q
      | cont =>
        obtain ⟨_, _, _, q⟩ := hs
        exact False.elim q
theorem FnF.hide {nm : Nm} {f : Nat} {F : Fn} (h : FnF T nm f F) (hs : List Addr) : FnF (T.hide hs) nm f F := ⟨h.ex⟩
theorem call_all {nm : Nm} (tok : TOk T nm) (hF : ∀ f F, T.P.fn f = some F → FnF T nm f F) : ∀ (k : Nat) (hs : List Addr) (f : Nat), CallOk (T.hide hs) k f
  | 0, hs, f => fun A outer s H us vs Q E hr hgd e0 r ⟨ms, st, ds, ah, rds, px⟩ => by
    unfold PstX at px
    exact px.elim
  | k + 1, hs, f => call_step (T := T.hide hs) (tok.hide hs) (fun f F h => (hF f F h).hide hs) (fun hs2 f => call_all tok hF k hs2 f) f
end CT

set_option maxRecDepth 100000
/-! The end: a law's row from the evaluator's answer. -/
namespace CT
open PySem L2 PyProof.Rows

/-- the law's def called on the script, from an abstract heap that may know the script alone -/
theorem ct_core {T : TT} {nm : Nm} {lf k : Nat} {a : Addr} {s₁ : Shared} {vs : List Value} {ns : List Int} {H : Hp} (hid : T.hid = [])
    (ok : ∀ hs f, CallOk (T.hide hs) k f) (hr : Room (2 * k + 2) callerA)
    (law : ∃ s, runF T.P k lf [.lst (ns.map .int)] [] = .ok (.bl true) s) (e0 : Env0 T.pp T.w T.K T.mg T.base callerA [] s₁ H)
    (hO : Only H) (hS : SqL T.K H a (ns.map V.int)) (hl : ns.length ≤ LIM) :
    codeAny (model T.pp T.w) callerA (.call (.ref (T.fa lf)) ⟨[.ref a], []⟩) (fun r s' => r = .ok (.ret (.bool true)) ∧ OldK s₁.heap s'.heap ∧ s'.os = s₁.os ∧ AllBare s'.gens) s₁ := by
  obtain ⟨s, hs⟩ := law
  have each : ∀ l : List Int, RDs T [] H (l.map D.int) (l.map V.int) := fun l => by
    induction l with
    | nil => exact .nil
    | cons x l ih => exact .cons (.int x) ih
  have fl : FL T [] H a (ns.map V.int) := by
    rcases hS with h | h
    · exact .inl ⟨⟨by simp, by rw [hid]; simp⟩, h⟩
    · exact .inr h
  have ahs : AH T [] [] H := ⟨rfl, List.nodup_nil, fun p hp => (by rw [hid] at hp; cases hp), fun i p o h => by simp at h⟩
  have run := ok [] lf callerA [] s₁ H [.ref a] [.ref a] (fun v _ => v = .bl true) (fun _ _ _ => False) hr rfl e0 (.cons rfl .nil)
    ⟨[], [], [.lst (ns.map .int)], by
      have : T.hide [] = T := by cases T; cases hid; rfl
      rw [this]; exact ahs, .cons (by
      have : T.hide [] = T := by cases T; cases hid; rfl
      rw [this]; exact .lst fl (each ns) (by rw [List.length_map]; exact hl)) .nil, by
      show Pst _ _ _ _ _ (runF T.P k lf [.lst (ns.map .int)] []) _ _
      rw [hs]
      intro b ms' H' _ _ rd
      cases rd
      rfl⟩
  refine codeAny_mono run fun r s' h => ?_
  match r, h with
  | .error e, h =>
    obtain ⟨_, _, _, _, _, _, _, _, _, _, _, _, bad⟩ := h
    exact bad.elim
  | .ok .next, h => exact False.elim h
  | .ok .brk, h => exact False.elim h
  | .ok .cont, h => exact False.elim h
  | .ok (.ret u), ⟨v, H', same, bare, un, hok', rv, q⟩ =>
    obtain rfl : v = .bl true := q
    obtain rfl : u = Value.bool true := rv
    refine ⟨rfl, OldK.of_keep fun b o e => ?_, same, bare⟩
    rcases hO b with z | ⟨ob, xs, z⟩
    · exact un.keep b o e z (by simp [frs]) (by simp)
    · have before := (e0.hok b _ z).1
      have behind := (hok' b _ (un.frzs b ob _ z)).1
      rw [e] at before
      cases before
      exact behind

/-- the law's call at the state behind the top -/
theorem ct_call {P : Program} {w : World} {K : PySem.W.Frag} {mg mb : Str → Option Value} {Pg0 : Pg} {lf k : Nat} {fa a : Addr} {s₁ : Shared} {vs : List Value} {ns : List Int}
    (kin : K.In s₁.heap) (gm : s₁.heap.Ns mainGlobals mg) (bm : s₁.heap.Ns builtinsNs mb) (boot : ∀ x : Str, x ≠ "__name__" → mb x = bootBuiltins x) (nolim : s₁.heap.NoLimit) (nog : s₁.gens = #[])
    (obj : s₁.heap.get? a = some { cls := .type "list", data := .seq vs.toArray }) (its : IntsAre vs ns) (small : ns.length ≤ sizeLine) (hr : Room (2 * k + 2) callerA)
    (F : ∀ base : Heap, K.In base → base.Ns mainGlobals mg → ∃ T : TT, T.pp = P ∧ T.w = w ∧ T.K = K ∧ T.mg = mg ∧ T.base = base ∧ T.P = Pg0 ∧ T.hid = [] ∧ T.fa lf = fa ∧ ∀ hs f, CallOk (T.hide hs) k f)
    (law : ∃ s, runF Pg0 k lf [.lst (ns.map .int)] [] = .ok (.bl true) s) :
    codeAny (model P w) callerA (.call (.ref fa) ⟨[.ref a], []⟩) (fun r s' => r = .ok (.ret (.bool true)) ∧ OldK s₁.heap s'.heap ∧ s'.os = s₁.os ∧ AllBare s'.gens) s₁ := by
  have rv := vals_ints its
  have lv := its.length
  have step : ∀ H : Hp, Only H → SqL K H a (ns.map V.int) → HOk P w H s₁.heap → (∀ b, H b ≠ none → b = a) → (H a ≠ none → K.lookup a = none) →
      codeAny (model P w) callerA (.call (.ref fa) ⟨[.ref a], []⟩) (fun r s' => r = .ok (.ret (.bool true)) ∧ OldK s₁.heap s'.heap ∧ s'.os = s₁.os ∧ AllBare s'.gens) s₁ := by
    intro H hO hS hok only noK
    have dictFree : ∀ {b : Addr} {o : Obj} {es : Array DictEntry} {ep : Nat}, s₁.heap.get? b = some o → o.data = .dict es ep → H b = none := by
      intro b o es ep e d
      cases q : H b with
      | none => rfl
      | some u =>
        obtain rfl : b = a := only b (by simp [q])
        rw [obj] at e
        cases e
        cases d
    have back : ∀ {b : Addr} {m : Str → Option Value}, s₁.heap.Ns b m → (hidT s₁.heap H).Ns b m := by
      rintro b m ⟨o, es, ep, e, d, r⟩
      exact ⟨o, es, ep, hidT_get e (dictFree e d), d, r⟩
    have kin' : K.In (hidT s₁.heap H) := fun b o e => by
      refine hidT_get (kin b o e) ?_
      cases q : H b with
      | none => rfl
      | some u =>
        obtain rfl : b = a := only b (by simp [q])
        rw [noK (by simp [q])] at e
        cases e
    obtain ⟨mc, l1, l2⟩ := nolim
    have e0 : Env0 P w K mg (hidT s₁.heap H) callerA [] s₁ H :=
      ⟨rfl, ⟨kin', back gm, ⟨mb, back bm, boot⟩, ⟨mc, back l1, l2⟩⟩, fun b o e => of_hidT e, Nat.le_of_eq (hidT_size _ _), trivial, fun b hb => by simp [frs] at hb, hok, .of_eq nog⟩
    obtain ⟨T, rfl, rfl, rfl, rfl, hb, rfl, hh, rfl, ok⟩ := F _ kin' (back gm)
    exact ct_core (nm := ⟨fun _ => "", fun _ => "", fun _ => "", fun _ => "", fun _ => "", fun _ => ""⟩) (vs := vs) hh ok hr law (hb ▸ e0) hO hS small
  cases hk : K.lookup a with
  | some o =>
    have e := kin a o hk
    rw [obj] at e
    cases e
    exact step (fun _ => none) (fun _ => .inl rfl) (.inr ⟨_, vs.toArray, _, hk, rfl, rfl, rfl, by rw [List.size_toArray, lv]; exact small, by simpa using rv⟩) (fun b u z => by cases z) (fun b z => absurd rfl z) fun z => absurd rfl z
  | none =>
    let H0 : Hp := fun b => if b = a then some (.frz { cls := .type "list", data := .seq vs.toArray } (.lst (ns.map V.int))) else none
    have at_ : H0 a = some (.frz { cls := .type "list", data := .seq vs.toArray } (.lst (ns.map V.int))) := if_pos rfl
    have off : ∀ {b}, b ≠ a → H0 b = none := fun h => if_neg h
    refine step H0 (fun b => ?_) (.inl (.inr ⟨_, at_⟩)) (fun b u z => ?_) (fun b z => ?_) fun _ => hk
    · rcases Classical.em (b = a) with rfl | hb
      · exact .inr ⟨_, _, at_⟩
      · exact .inl (off hb)
    · rcases Classical.em (b = a) with rfl | hb
      · rw [at_] at z
        cases z
        exact ⟨obj, by rw [List.length_map]; exact small, vs, _, rv, obj⟩
      · rw [off hb] at z
        cases z
    · rcases Classical.em (b = a) with rfl | hb
      · rfl
      · exact absurd (off hb) z

/-- the row's walk -/
theorem ct_walk {l : PySem.W.OpenLaw} {n k : Nat} {q : Program} {loose : List Str} {XP : (Str → Option Value) → Heap → Prop} {YP : World → Heap → Prop} {d : DefRec} {K : Params → PySem.W.Frag} {Pg0 : Pg} {lf : Nat}
    (hn : l.most = some n) (hn2 : n ≤ sizeLine) (hdf : d.params.defaults = []) (hr : Room (2 * k + 2) callerA)
    (hY : ∀ (w : World) (h : Heap), YP w h → (K w.params).In h)
    (F : ∀ (w : World) (mg : Str → Option Value) (fa : Addr) (h : Heap), (K w.params).In h → h.Ns mainGlobals mg → mg d.name = some (.ref fa) →
      ∀ base : Heap, (K w.params).In base → base.Ns mainGlobals mg → ∃ T : TT, ∃ nm : Nm, T.pp = l.prog ∧ T.w = w ∧ T.K = K w.params ∧ T.mg = mg ∧ T.base = base ∧ T.P = Pg0 ∧ T.hid = [] ∧ T.fa lf = fa ∧ TOk T nm ∧ ∀ f F, Pg0.fn f = some F → FnF T nm f F)
    (law : ∀ ns : List Int, ns.length ≤ n → ∃ s, runF Pg0 k lf [.lst (ns.map .int)] [] = .ok (.bl true) s) :
    PySem.W.WalkO q loose XP YP l.row.toRowW d [] (fun f vs => PySem.call f vs) := by
  refine Att.attach_call hn hdf fun w s₀ s₁ mg mb fa o pm cd doc a vs ns G Y ho hd hcd hmg hobj hints hlen hg => ?_
  have kin := hY w _ Y
  refine ct_call (Pg0 := Pg0) (lf := lf) (k := k) kin G.T.g G.T.b G.T.builtins G.T.nolimit hg hobj hints (Nat.le_trans hlen hn2) hr (fun base X1 X2 => ?_) (law ns hlen)
  obtain ⟨T, nm, h1, h2, h3, h4, h5, h6, h7, h8, tok, hF⟩ := F w mg fa _ kin G.T.g hmg base X1 X2
  exact ⟨T, h1, h2, h3, h4, h5, h6, h7, h8, call_all tok (fun f F h => hF f F (h6 ▸ h)) k⟩
end CT

set_option maxRecDepth 100000
/-! Facts of the tables, from what the top has written. -/
namespace CT
open PySem L2 PyProof.Rows

/-- names by numbers, unlike beyond the list, too -/
def nmI (L : List Str) (c : Nat) (f : Nat) : Str := if h : f < L.length then L[f] else ⟨(List.replicate (100 + f) c).toArray⟩
theorem nmI_inj {L : List Str} {c : Nat} (nd : L.Nodup) (hl : ∀ x ∈ L, x.cps.size < 100) {f g : Nat} (h : nmI L c f = nmI L c g) : f = g := by
  unfold nmI at h
  split at h <;> split at h
  · exact (List.getElem_inj nd).mp h
  · rename_i h1 h2
    have z := hl _ (List.getElem_mem h1)
    rw [h] at z
    simp at z
    omega
  · rename_i h1 h2
    have z := hl _ (List.getElem_mem h2)
    rw [← h] at z
    simp at z
    omega
  · have z := congrArg (fun s : Str => s.cps.size) h
    simp at z
    exact z
theorem nmI_ne {L M : List Str} {c d : Nat} (hc : c ≠ d) (hl : ∀ x ∈ L, x.cps.size < 100) (hm : ∀ x ∈ M, x.cps.size < 100) (dis : ∀ x ∈ L, x ∉ M) (f g : Nat) : nmI L c f ≠ nmI M d g := by
  intro h
  unfold nmI at h
  split at h <;> split at h
  · rename_i h1 h2
    exact dis _ (List.getElem_mem h1) (h ▸ List.getElem_mem h2)
  · rename_i h1 h2
    have z := hl _ (List.getElem_mem h1)
    rw [h] at z
    simp at z
    omega
  · rename_i h1 h2
    have z := hm _ (List.getElem_mem h2)
    rw [← h] at z
    simp at z
    omega
  · have z := congrArg (fun s : Str => s.cps.toList) h
    simp only [List.toList_toArray] at z
    rename_i h1 h2
    have e : (List.replicate (100 + f) c)[0]? = (List.replicate (100 + g) d)[0]? := by rw [z]
    rw [List.getElem?_replicate, List.getElem?_replicate, if_pos (by omega), if_pos (by omega)] at e
    exact hc (Option.some.inj e)

/-- a def without defaults -/
theorem fnF0 {T : TT} {nm : Nm} {f : Nat} {F : Fn} {st : Stmt} {x qual : Str} {oc kV doc pm cdv ct : Value} {od an : Option Addr} {osl : Array (Option Value)}
    (lk : T.K.lookup (T.fa f) = some ⟨oc, od, .func (PySem.W.fnOf x qual (defArgs st) (defBody st) (defScope st) .none kV doc pm an cdv ct), osl⟩) (cd : PySem.W.codeIn T.K cdv qual = true)
    (N ps : List Str) (sc : FnScope N ps (defScope st)) (hd : F.dfl = []) (h1 : F.np = ps.length) (h2 : F.nsl = N.length)
    (hb : ∀ (kV doc pm : Value) (an : Option Addr) (cdv ct : Value) (us : List Value), us.length = ps.length → bindArgs (PySem.W.fnOf x qual (defArgs st) (defBody st) (defScope st) .none kV doc pm an cdv ct) ⟨us, []⟩ = pure (ps.zip us))
    (m : mSs ⟨nm, N, defScope st, N, true⟩ F.body (defBody st) = true) : FnF T nm f F :=
  ⟨⟨x, qual, _, _, _, .none, kV, doc, pm, cdv, ct, oc, an, od, osl, N, ps, lk, cd, sc, h1, h2, m, fun j hj => ⟨[], [], .all (hb kV doc pm an cdv ct), .nil, fun hs ms H => by rw [hd, List.drop_nil]; exact .nil⟩⟩⟩

def GlOk (T : TT) (nm : Nm) (g : Nat) (d : D) : Prop := ∃ v u, T.mg (nm.gl g) = some u ∧ RelV v u ∧ ∀ hs ms H, RD (T.hide hs) ms H d v
theorem gl_int {T : TT} {nm : Nm} {g : Nat} {i : Int} {t : Nat} (h : T.mg (nm.gl g) = some (.int i t)) : GlOk T nm g (.int i) := ⟨.int i, _, h, ⟨t, rfl⟩, fun _ _ _ => .int i⟩
theorem gl_str {T : TT} {nm : Nm} {g : Nat} {s : List Nat} {t : Nat} {x : Str} (h : T.mg (nm.gl g) = some (.str x t)) (e : x = tx s) (hl : s.length ≤ LIM) : GlOk T nm g (.str s) := by
  subst e
  exact ⟨.str (tx s), _, h, ⟨t, rfl⟩, fun _ _ _ => .str s hl⟩
theorem gl_tup {T : TT} {nm : Nm} {g : Nat} {ds : List D} {vs : List V} {p : Addr} {oc : Value} {od : Option Addr} {its : Array Value} {n : Nat} {osl : Array (Option Value)} (h : T.mg (nm.gl g) = some (.ref p))
    (lk : T.K.lookup p = some ⟨oc, od, .seq its n, osl⟩) (hc : oc = .type "tuple") (hz : its.size ≤ sizeLine) (hv : Vals vs its.toList) (r : ∀ T' : TT, ∀ ms H, RDs T' ms H ds vs) : GlOk T nm g (.tup ds) :=
  ⟨.ref p, _, h, rfl, fun hs ms H => .tup (.inr ⟨_, its, n, lk, hc, rfl, hz, hv⟩) (r _ ms H)⟩
theorem forall_nil {P : Str → Prop} : ∀ x ∈ ([] : List Str), P x := fun _ h => nomatch h
theorem forall_cons {P : Str → Prop} {a : Str} {l : List Str} (h : P a) (r : ∀ x ∈ l, P x) : ∀ x ∈ a :: l, P x := fun x hx => by
  rcases List.mem_cons.mp hx with e | e
  · exact e ▸ h
  · exact r x e
/-! ### exceptions -/
/-- what is told of an own exception class -/
structure ExF (K : PySem.W.Frag) (C : Addr) : Prop where
  sb : PySem.W.subIn K (.ref C) (.type "BaseException") = some true
  sv : PySem.W.subIn K (.ref C) (.type "ValueError") = some true
  ty : PySem.W.typeIn K (.ref C) = some (.type "type")
  kp : PySem.W.keepIn K (.ref C) = true
  hd : PySem.W.hasDictIn K C = true
  ga : PySem.W.findIn K (.ref C) "__getattribute__" = some (some (.builtin "BaseException.__getattribute__"))
  gg : PySem.W.findIn K (.ref C) "__getattr__" = some none
  cl : PySem.W.findIn K (.ref C) "__class__" = some (some (.builtin "object.__class__"))
  mr : PySem.W.mroIn K C (.type "object") = some true
  hn : PySem.W.specialIn K (.builtin "object.__class__") "__get__" = some (some (.builtin "getset_descriptor.__get__"))
  ht : PySem.W.takesIn K (.builtin "object.__class__") = some true
theorem ExF.excC {K : PySem.W.Frag} {C : Addr} (f : ExF K C) : ExcC K C := ⟨f.ga, f.gg, f.sb, f.hd, f.cl, f.hn, f.ht, f.mr⟩
theorem ExF.xfC {K : PySem.W.Frag} {C : Addr} (f : ExF K C) : XfC K C := ⟨f.ga, f.gg, f.sb, f.hd⟩
theorem exf_exm {K : PySem.W.Frag} {C E : Addr} {b : Bool} (f : ExF K E) (h : PySem.W.subIn K (.ref C) (.ref E) = some b) : PySem.W.exmOne K (.ref C) (.ref E) = some b := PySem.W.exm_ref f.sb f.hd f.ty h
theorem exf_kit {K : PySem.W.Frag} {C E : Addr} {b : Bool} (f : ExF K E) (h : PySem.W.subIn K (.ref C) (.ref E) = some b) (r : PySem.W.subIn K (.ref C) (.ref C) = some true) : PySem.W.kitOne K (.ref C) (.ref E) = some b := by
  obtain ⟨cd, hc, _⟩ := PySem.W.any_some f.hd
  unfold PySem.W.kitOne
  by_cases e : C = E
  · subst e
    rw [r] at h
    cases h
    rw [if_pos (beq_self_eq_true _)]
  · rw [if_neg (by intro z; exact e (Value.ref.inj (beq_iff_eq.mp z)))]
    show (if ((PySem.W.clsIn K E).isSome && PySem.W.typeIn K (.ref E) == some (.type "type")) = true then PySem.W.subIn K (.ref C) (.ref E) else none) = some b
    have e2 : ((PySem.W.clsIn K E).isSome && PySem.W.typeIn K (.ref E) == some (.type "type")) = true := by rw [hc, f.ty]; rfl
    rw [if_pos e2]
    exact h
theorem exf_ve {K : PySem.W.Frag} {C : Addr} (f : ExF K C) : PySem.W.kitOne K (.ref C) (.type "ValueError") = some true := by
  unfold PySem.W.kitOne
  rw [if_neg (by intro z; cases beq_iff_eq.mp z)]
  show (if PySem.W.kitMeta "ValueError" = true then PySem.W.subIn K (.ref C) (.type "ValueError") else none) = some true
  rw [if_pos (by decide +kernel)]
  exact f.sv
theorem exf_no {K : PySem.W.Frag} {C : Addr} (f : ExF K C) (h : PySem.W.excIn K C [.type "ValueError", .type "Exception", .type "BaseException", .type "object"] "ValueError.__new__" = true) : XNo K C :=
  ⟨⟨_, _, _, _, PySem.F.excBase_ValueError, h⟩, f.kp, f.sb, f.ty⟩
theorem exf_ini {K : PySem.W.Frag} {C fI : Addr} {f nm q x qual n1 n2 : Str} {N : Addr} {bs bm : List Value} {sn : List Str} {sub : List Value} {ab : Bool} {col : Option Bool} {dd : Option Addr} {m0 m1 m2 m3 m5 : Option Value} {st : Stmt}
    {oc kV doc pm cdv ct : Value} {od an : Option Addr} {osl : Array (Option Value)} {p1 p2 p3 p4 : Pos} (F : ExF K C) (lk : K.lookup C = some (excClassObj nm q C N bs bm true sn sub ab col dd m0 m1 m2 m3 m5 "ValueError.__new__")) (hb : PySem.HandSPX.refsVE bm = true)
    (sa : PySem.W.findIn K (.ref C) "__setattr__" = some (some (.builtin "object.__setattr__"))) (nof : PySem.W.findIn K (.ref C) f = some none) (iC : PySem.W.findIn K (.ref C) "__init__" = some (some (.ref fI))) (tI : PySem.W.typeIn K (.ref fI) = some (.type "function"))
    (l : K.lookup fI = some ⟨oc, od, .func (PySem.W.fnOf x qual (defArgs st) (defBody st) (defScope st) .none kV doc pm an cdv ct), osl⟩) (c : PySem.W.codeIn K cdv qual = true) (eb : defBody st = [.Assign [.Attribute (.Name n1 p1) f p2] (.Name n2 p3) p4]) (S : FnScope [n1, n2] [n1, n2] (defScope st))
    (d1 : (n1 == ("__debug__" : Str)) = false) (d2 : (n1 == ("__classdict__" : Str)) = false) (d3 : (n2 == ("__debug__" : Str)) = false) (d4 : (n2 == ("__classdict__" : Str)) = false)
    (bnd : ∀ u1 u2 : Value, bindArgs (PySem.W.fnOf x qual (defArgs st) (defBody st) (defScope st) .none kV doc pm an cdv ct) ⟨[u1, u2], []⟩ = pure ([n1, n2].zip [u1, u2])) : XIni K C f := by
  rw [eb] at l bnd
  exact ⟨⟨⟨nm, q, N, bs, bm, sn, sub, ab, col, dd, m0, m1, m2, m3, m5, lk, hb⟩, sa, F.sb, F.ty, F.kp⟩, nof, fI, x, qual, n1, n2, _, _, kV, doc, pm, cdv, ct, oc, an, od, osl, p1, p2, p3, p4, iC, tI, l, c, S, d1, d2, d3, d4, bnd⟩
end CT

set_option maxRecDepth 100000
/-! repr tells data its text. -/
namespace CT
open PySem
theorem sm_log {i : Int} (h : i.natAbs < 18446744073709551616) : i.natAbs.log2 < 64 := by
  by_cases h0 : i.natAbs = 0
  · rw [h0]; decide
  · exact (Nat.log2_lt h0).mpr (Nat.lt_of_lt_of_le h (by decide))
mutual
theorem shown_le : ∀ (n : Nat) (d : D), D.plain n d = true → smD d = true → (toPy d).showable = true ∧ (toPy d).shown.length ≤ msr d
  | _, .non, _, _ => ⟨rfl, by decide⟩
  | _, .bl b, _, _ => ⟨rfl, by cases b <;> decide⟩
  | _, .int i, _, h => by
    simp only [smD, decide_eq_true_eq] at h
    have hl := sm_log h
    refine ⟨by simp only [toPy, PyData.showable, decide_eq_true_eq]; omega, ?_⟩
    have := int_text_length_le (k := 64) (by decide) hl
    show (Str.ofString (toString i)).length ≤ 80
    rw [ofString_length]; omega
  | _, .str s, _, h => by
    simp only [smD, List.all_eq_true, decide_eq_true_eq] at h
    refine ⟨rfl, ?_⟩
    have := PySem.StrLaws.reprText_len (tx s) fun c hc => h c (by simpa using hc)
    rw [tx_len] at this
    exact this
  | n, .tup ds, hp, h => by
    cases n with
    | zero => simp [D.plain] at hp
    | succ n =>
      simp only [D.plain] at hp
      simp only [smD] at h
      have q := showns_le n ds hp h
      refine ⟨by simp only [toPy, PyData.showable]; exact q.1, ?_⟩
      have := tupleText_len_le (PyData.shownAll (toPys ds))
      simp only [toPy, PyData.shown, msr]
      omega
  | n, .lst ds, hp, h => by
    cases n with
    | zero => simp [D.plain] at hp
    | succ n =>
      simp only [D.plain] at hp
      simp only [smD] at h
      have q := showns_le n ds hp h
      refine ⟨by simp only [toPy, PyData.showable]; exact q.1, ?_⟩
      have := listText_len_le (PyData.shownAll (toPys ds))
      simp only [toPy, PyData.shown, msr]
      omega
  | n, .dct _, h, _ => by cases n <;> simp [D.plain] at h
  | n, .obj _ _, h, _ => by cases n <;> simp [D.plain] at h
  | n, .exc _ _, h, _ => by cases n <;> simp [D.plain] at h
  | n, .fn _, h, _ => by cases n <;> simp [D.plain] at h
  | n, .ref _, h, _ => by cases n <;> simp [D.plain] at h
theorem showns_le : ∀ (n : Nat) (ds : List D), D.plains n ds = true → smDs ds = true → PyData.showableAll (toPys ds) = true ∧ ((PyData.shownAll (toPys ds)).map (·.length)).sum + 2 * (PyData.shownAll (toPys ds)).length ≤ msrs ds
  | _, [], _, _ => ⟨rfl, Nat.le_refl _⟩
  | n, d :: ds, hp, h => by
    simp only [D.plains, Bool.and_eq_true] at hp
    simp only [smDs, Bool.and_eq_true] at h
    have q1 := shown_le n d hp.1 h.1
    have q2 := showns_le n ds hp.2 h.2
    refine ⟨by simp only [toPys, PyData.showableAll, q1.1, q2.1, Bool.and_self], ?_⟩
    simp only [toPys, PyData.shownAll, List.map_cons, List.sum_cons, List.length_cons, msrs]
    omega
end
theorem rpD_ok : RpOk rpD := by
  intro d h1 h2 h3 h4
  have q := shown_le 8 d h2 h3
  refine ⟨_, if_pos ?_⟩
  simp only [Bool.and_eq_true, decide_eq_true_eq]
  refine ⟨⟨⟨h1, h2⟩, q.1⟩, ?_⟩
  have : (16000000 : Nat) ≤ LIM := by decide
  omega
end CT

/-! Tools for proofs about the evaluator. -/
namespace CT

variable {α β : Type} {P : Pg} {cf : CallF} {σ : Env} {st : Store}
theorem bq_t (b : Bool) : (b == true) = b := by cases b <;> rfl
theorem bq_f (b : Bool) : (b == false) = !b := by cases b <;> rfl
theorem rb_ok (a : α) (st : Store) (f : α → Store → R β) : (R.ok a st).bind f = f a st := rfl
theorem rb_ex (c : Nat) (pl : List D) (st : Store) (f : α → Store → R β) : (R.ex c pl st : R α).bind f = .ex c pl st := rfl
theorem rb_bad (f : α → Store → R β) : (R.bad : R α).bind f = .bad := rfl
theorem ro_some (a : α) (st : Store) : R.of (some a) st = .ok a st := rfl
theorem ro_none (st : Store) : R.of (none : Option α) st = .bad := rfl
theorem so_ok (a : α) (st : Store) (σ : Env) (f : α → Store → SR) : SR.of (R.ok a st) σ f = f a st := rfl
theorem so_ex (c : Nat) (pl : List D) (st : Store) (σ : Env) (f : α → Store → SR) : SR.of (R.ex c pl st : R α) σ f = .ex c pl σ st := rfl
theorem so_bad (σ : Env) (f : α → Store → SR) : SR.of (R.bad : R α) σ f = .bad := rfl
theorem sq_nx (σ : Env) (st : Store) (f : Env → Store → SR) : (SR.nx σ st).seq f = f σ st := rfl
theorem sq_rt (d : D) (st : Store) (f : Env → Store → SR) : (SR.rt d st).seq f = .rt d st := rfl
theorem sq_ex (c : Nat) (pl : List D) (σ : Env) (st : Store) (f : Env → Store → SR) : (SR.ex c pl σ st).seq f = .ex c pl σ st := rfl
theorem bd_bl (b : Bool) (st : Store) : boolD (.ok (.bl b) st) = .ok b st := rfl
theorem bd_ex (c : Nat) (pl : List D) (st : Store) : boolD (.ex c pl st) = .ex c pl st := rfl
theorem fin_f (d : D) (st : Store) : fin false d st = .ok d st := rfl
theorem fin_l (ds : List D) (st : Store) : fin true (.lst ds) st = .ok (.ref st.length) (st ++ [.lst ds]) := rfl
theorem fin_d (ds : List (Ky × D)) (st : Store) : fin true (.dct ds) st = .ok (.ref st.length) (st ++ [.dct ds]) := rfl
theorem lk_non (st : Store) : look st .non = .non := rfl
theorem lk_bl (st : Store) (b : Bool) : look st (.bl b) = .bl b := rfl
theorem lk_int (st : Store) (b : Int) : look st (.int b) = .int b := rfl
theorem lk_str (st : Store) (b : List Nat) : look st (.str b) = .str b := rfl
theorem lk_tup (st : Store) (b : List D) : look st (.tup b) = .tup b := rfl
theorem lk_lst (st : Store) (b : List D) : look st (.lst b) = .lst b := rfl
theorem lk_dct (st : Store) (b : List (Ky × D)) : look st (.dct b) = .dct b := rfl
theorem lk_obj (st : Store) (c : Nat) (b : List D) : look st (.obj c b) = .obj c b := rfl
theorem lk_exc (st : Store) (c : Nat) (b : List D) : look st (.exc c b) = .exc c b := rfl
theorem lk_rl {st : Store} {a : Nat} {ds : List D} (h : st[a]? = some (.lst ds)) : look st (.ref a) = .lst ds := by simp only [look, h]
theorem lk_rd {st : Store} {a : Nat} {ds : List (Ky × D)} (h : st[a]? = some (.dct ds)) : look st (.ref a) = .dct ds := by simp only [look, h]
theorem lk_ri {st : Store} {a c : Nat} {ds : List D} (h : st[a]? = some (.ins c ds)) : look st (.ref a) = .obj c ds := by simp only [look, h]
theorem dlk_non (st : Store) : dlook st .non = .non := rfl
theorem dlk_bl (st : Store) (b : Bool) : dlook st (.bl b) = .bl b := rfl
theorem dlk_int (st : Store) (b : Int) : dlook st (.int b) = .int b := rfl
theorem dlk_str (st : Store) (b : List Nat) : dlook st (.str b) = .str b := rfl
theorem dlk_tup (st : Store) (b : List D) : dlook st (.tup b) = .tup b := rfl
theorem dlk_lst (st : Store) (b : List D) : dlook st (.lst b) = .lst b := rfl
theorem dlk_dct (st : Store) (b : List (Ky × D)) : dlook st (.dct b) = .dct b := rfl
theorem bn_add (i j : Int) : binD .add (.int i) (.int j) = some (.int (i + j)) := rfl
theorem bn_sub (i j : Int) : binD .sub (.int i) (.int j) = some (.int (i - j)) := rfl
theorem bn_mul (i j : Int) : binD .mul (.int i) (.int j) = if mulOk i j then some (.int (i * j)) else none := rfl
theorem bn_sadd (a b : List Nat) : binD .add (.str a) (.str b) = if a.length + b.length ≤ LIM then some (.str (a ++ b)) else none := rfl
theorem bn_ladd (a b : List D) : binD .add (.lst a) (.lst b) = if a.length + b.length ≤ LIM then some (.lst (a ++ b)) else none := rfl
theorem bn_tadd (a b : List D) : binD .add (.tup a) (.tup b) = if a.length + b.length ≤ LIM then some (.tup (a ++ b)) else none := rfl
theorem bn_lmul (a : List D) (n : Int) : binD .mul (.lst a) (.int n) = if n < 2 ^ 62 ∧ -(2 ^ 62) < n ∧ a.length * n.toNat ≤ LIM then some (.lst (rep a n)) else none := rfl
theorem bn_smul (a : List Nat) (n : Int) : binD .mul (.str a) (.int n) = if n < 2 ^ 62 ∧ -(2 ^ 62) < n ∧ a.length * n.toNat ≤ LIM then some (.str (rep a n)) else none := rfl
def divOk (j : Int) : Bool := decide (0 < j ∧ j.natAbs < 2 ^ 9000)
theorem divOk_s {j : Int} (h : 0 < j) (h2 : j < 2 ^ 64) : divOk j = true := decide_eq_true ⟨h, Nat.lt_of_lt_of_le (by omega : j.natAbs < 2 ^ 64) (Nat.pow_le_pow_right (by decide) (by decide))⟩
theorem bn_div (i j : Int) : binD .fdiv (.int i) (.int j) = if divOk j then some (.int (i / j)) else none := by
  simp only [divOk, decide_eq_true_eq]; rfl
theorem bn_mod (i j : Int) : binD .mod (.int i) (.int j) = if 0 < j then some (.int (i % j)) else none := rfl
theorem bn_pow (i j : Int) : binD .pow (.int i) (.int j) = if 0 ≤ j ∧ j ≤ 1000 ∧ i.natAbs < 2 ^ 64 then some (.int (i ^ j.toNat)) else none := rfl
theorem cd_eq (a b : D) : cmpD .eq a b = if D.plain 8 a && D.plain 8 b then some (D.eqv a b) else none := rfl
theorem cd_ne (a b : D) : cmpD .ne a b = if D.plain 8 a && D.plain 8 b then some (!D.eqv a b) else none := rfl
theorem cd_lt (i j : Int) : cmpD .lt (.int i) (.int j) = some (decide (i < j)) := rfl
theorem cd_le (i j : Int) : cmpD .le (.int i) (.int j) = some (decide (i ≤ j)) := rfl
theorem cd_gt (i j : Int) : cmpD .gt (.int i) (.int j) = some (decide (j < i)) := rfl
theorem cd_ge (i j : Int) : cmpD .ge (.int i) (.int j) = some (decide (j ≤ i)) := rfl
theorem cd_in (a b : D) : cmpD .isin a b = isIn a b := rfl
theorem cd_ni (a b : D) : cmpD .notin a b = (isIn a b).map not := rfl
theorem ce_eq (st : Store) (a b : D) : cmpE st .eq a b = cmpD .eq (dlook st a) (dlook st b) := rfl
theorem ce_ne (st : Store) (a b : D) : cmpE st .ne a b = cmpD .ne (dlook st a) (dlook st b) := rfl
theorem ce_lt (st : Store) (a b : D) : cmpE st .lt a b = cmpD .lt (look st a) (look st b) := rfl
theorem ce_le (st : Store) (a b : D) : cmpE st .le a b = cmpD .le (look st a) (look st b) := rfl
theorem ce_gt (st : Store) (a b : D) : cmpE st .gt a b = cmpD .gt (look st a) (look st b) := rfl
theorem ce_ge (st : Store) (a b : D) : cmpE st .ge a b = cmpD .ge (look st a) (look st b) := rfl
theorem ce_in (st : Store) (a b : D) : cmpE st .isin a b = cmpD .isin (look st a) (look st b) := rfl
theorem ce_ni (st : Store) (a b : D) : cmpE st .notin a b = cmpD .notin (look st a) (look st b) := rfl
theorem pl_int (n : Nat) (i : Int) : D.plain n (.int i) = true := by cases n <;> rfl
theorem pl_str (n : Nat) (i : List Nat) : D.plain n (.str i) = true := by cases n <;> rfl
theorem pl_bl (n : Nat) (i : Bool) : D.plain n (.bl i) = true := by cases n <;> rfl
theorem pl_non (n : Nat) : D.plain n .non = true := by cases n <;> rfl
theorem ev_ii (a b : Int) : D.eqv (.int a) (.int b) = decide (a = b) := by simp only [D.eqv]; rw [Bool.eq_iff_iff]; simp
theorem ev_ss (a b : List Nat) : D.eqv (.str a) (.str b) = decide (a = b) := by simp only [D.eqv]; rw [Bool.eq_iff_iff]; simp
theorem bi_len_l (rp) (xs : List D) : biD rp .len [.lst xs] = some (.int xs.length) := rfl
theorem bi_len_t (rp) (xs : List D) : biD rp .len [.tup xs] = some (.int xs.length) := rfl
theorem bi_len_s (rp) (xs : List Nat) : biD rp .len [.str xs] = some (.int xs.length) := rfl
theorem bi_len_d (rp) (xs : List (Ky × D)) : biD rp .len [.dct xs] = some (.int xs.length) := rfl
theorem bi_max2 (rp) (i j : Int) : biD rp .max2 [.int i, .int j] = some (.int (if j > i then j else i)) := rfl
theorem bi_min2 (rp) (i j : Int) : biD rp .min2 [.int i, .int j] = some (.int (if j < i then j else i)) := rfl
theorem bi_min2s (rp) (i j : List Nat) : biD rp .min2 [.str i, .str j] = some (.str (if j < i then j else i)) := rfl
theorem bi_tup_l (rp) (xs : List D) : biD rp .tuple [.lst xs] = some (.tup xs) := rfl
theorem bi_tup_t (rp) (xs : List D) : biD rp .tuple [.tup xs] = some (.tup xs) := rfl
theorem bi_lst_l (rp) (xs : List D) : biD rp .list [.lst xs] = if xs.length ≤ LIM then some (.lst xs) else none := rfl
theorem bi_lst_t (rp) (xs : List D) : biD rp .list [.tup xs] = if xs.length ≤ LIM then some (.lst xs) else none := rfl
theorem bi_int_i (rp) (i : Int) : biD rp .int [.int i] = some (.int i) := rfl
theorem bi_int_b (rp) (i : Bool) : biD rp .int [.bl i] = some (.int (if i then 1 else 0)) := rfl
theorem bi_int_s (rp) (s : List Nat) : biD rp .int [.str s] = if s ≠ [] ∧ s.length ≤ 600 ∧ s.all (fun c => decide (48 ≤ c ∧ c ≤ 57)) then some (.int (numOf s)) else none := rfl
theorem bi_str_i (rp) (i : Int) : biD rp .str [.int i] = if i.natAbs < 2 ^ 1900 then some (.str (itxt i)) else none := rfl
theorem bi_abs (rp) (i : Int) : biD rp .abs [.int i] = some (.int (if i < 0 then -i else i)) := rfl
theorem bls_map {γ : Type} (f : γ → Bool) : ∀ xs : List γ, blsOf (xs.map fun x => .bl (f x)) = some (xs.map f)
  | [] => rfl
  | x :: xs => by simp [blsOf, bls_map f xs]
theorem ints_map {γ : Type} (f : γ → Int) : ∀ xs : List γ, intsOf (xs.map fun x => .int (f x)) = some (xs.map f)
  | [] => rfl
  | x :: xs => by simp [intsOf, ints_map f xs]
theorem strs_map {γ : Type} (f : γ → List Nat) : ∀ xs : List γ, strsOf (xs.map fun x => .str (f x)) = some (xs.map f)
  | [] => rfl
  | x :: xs => by simp [strsOf, strs_map f xs]
theorem bi_all (rp) (xs : List D) {bs : List Bool} (h : blsOf xs = some bs) : biD rp .all [.lst xs] = some (.bl (bs.all id)) := by show (blsOf xs).map _ = _; rw [h]; rfl
theorem bi_any (rp) (xs : List D) {bs : List Bool} (h : blsOf xs = some bs) : biD rp .any [.lst xs] = some (.bl (bs.any id)) := by show (blsOf xs).map _ = _; rw [h]; rfl
theorem bi_sum (rp) (xs : List D) {bs : List Int} (h : intsOf xs = some bs) : biD rp .sum [.lst xs] = some (.int bs.sum) := by show (intsOf xs).map _ = _; rw [h]; rfl
theorem ix_l (xs : List D) (i : Int) : idxD (.lst xs) (.int i) = ixD xs i := rfl
theorem ix_t (xs : List D) (i : Int) : idxD (.tup xs) (.int i) = ixD xs i := rfl
theorem ix_s (xs : List Nat) (i : Int) : idxD (.str xs) (.int i) = (ixD xs i).map fun c => .str [c] := rfl
theorem ix_d (kvs : List (Ky × D)) (k : List Nat) : idxD (.dct kvs) (.str k) = kvGet (.s k) kvs := rfl
theorem ixD_nat {γ : Type} (xs : List γ) (i : Nat) : ixD xs (i : Int) = xs[i]? := by unfold ixD; rw [if_pos (Int.natCast_nonneg i)]; rfl
theorem ixD_nn {γ : Type} (xs : List γ) {i : Int} (h : 0 ≤ i) : ixD xs i = xs[i.toNat]? := by unfold ixD; rw [if_pos h]
theorem ixD_neg1 {γ : Type} (xs : List γ) : ixD xs (-1) = xs.getLast? := by
  unfold ixD
  rw [if_neg (by decide)]
  cases xs with
  | nil => rfl
  | cons x xs =>
    rw [if_pos (by simp only [List.length_cons]; omega), List.getLast?_eq_getElem?]
    congr 1
    simp only [List.length_cons]
    omega
theorem bg_nm (i : Nat) (d : D) (σ : Env) : bindG (.nm i) d σ = some (σ.set i (some d)) := by simp only [bindG]
theorem bg_tp (gs : List G) (ds : List D) (σ : Env) : bindG (.tp gs) (.tup ds) σ = bindGs gs ds σ := by simp only [bindG]
theorem bg_tpl (gs : List G) (ds : List D) (σ : Env) : bindG (.tp gs) (.lst ds) σ = bindGs gs ds σ := by simp only [bindG]
theorem bg_nil (σ : Env) : bindGs [] [] σ = some σ := by simp only [bindGs]
theorem bg_cons (g : G) (gs : List G) (d : D) (ds : List D) (σ : Env) : bindGs (g :: gs) (d :: ds) σ = (bindG g d σ).bind fun σ' => bindGs gs ds σ' := by simp only [bindGs]

/-! ### what is stored -/
theorem pt_nm (i : Nat) (d : D) (σ : Env) (st : Store) : putT P cf σ (.g (.nm i)) d st = .nx (σ.set i (some d)) st := by simp only [putT, bindG]
theorem pt_tp (gs : List G) (ds : List D) (σ : Env) (st : Store) : putT P cf σ (.g (.tp gs)) (.tup ds) st = match bindGs gs ds σ with
  | some σ' => .nx σ' st
  | none => .bad := by simp only [putT, bindG, look]; try (cases bindGs gs ds σ <;> rfl)
theorem pt_sub (a i : E) (d : D) (σ : Env) (st : Store) : putT P cf σ (.sub a i) d st = SR.of (evE P cf σ a st) σ fun x st => SR.of (evE P cf σ i st) σ fun y st => match x with
    | .ref a => match st[a]? with
      | some o => match subO o y d with
        | some o' => .nx σ (st.set a o')
        | none => .bad
      | none => .bad
    | _ => .bad := rfl

/-! ### a def's end -/
theorem truncOk_rfl (st : Store) : truncOk st st = true := by
  unfold truncOk
  simp
theorem trunc_rfl (st : Store) : trunc st st = some st := by
  unfold trunc
  rw [truncOk_rfl, if_pos rfl, List.take_length]
theorem fz_pure {b n : Nat} {st : Store} {d : D} (h : d.pure = true) : fz b st n d = some d := by
  cases n <;> simp [fz, h]
theorem leave_pure {st : Store} {d : D} (h : d.pure = true) : leave .fz st d st = .ok d st := by
  have e := fz_pure (b := st.length) (n := 4) (st := st) h
  cases d <;> first | (simp only [leave, e, trunc_rfl]; done) | (simp [D.pure] at h)
theorem leave_fz {st st' s : Store} {d : D} (h : d.pure = true) (ht : trunc st st' = some s) : leave .fz st d st' = .ok d s := by
  have e := fz_pure (b := st.length) (n := 4) (st := st') h
  cases d <;> first | (simp only [leave, e, ht]; done) | (simp [D.pure] at h)
/-- the def's run from its body's -/
theorem run_rt {k f : Nat} {F : Fn} {ds : List D} {st st' : Store} {d : D} {r : R D} (hf : P.fn f = some F) (hd : F.dfl = []) (hn : ds.length = F.np)
    (hb : evSs P (runF P k) (startE F.nsl ds) F.body st = .rt d st') (hl : leave F.mode st d st' = r) : runF P (k + 1) f ds st = r := by
  have e : ds ++ F.dfl.drop (F.dfl.length - (F.np - ds.length)) = ds := by rw [hd]; simp
  simp only [runF, hf, e]
  rw [if_neg (by rw [hn]; simp), hb]
  exact hl
theorem run_nx {k f : Nat} {F : Fn} {ds : List D} {st st' : Store} {σ : Env} {r : R D} (hf : P.fn f = some F) (hd : F.dfl = []) (hn : ds.length = F.np)
    (hb : evSs P (runF P k) (startE F.nsl ds) F.body st = .nx σ st') (hl : leave F.mode st .non st' = r) : runF P (k + 1) f ds st = r := by
  have e : ds ++ F.dfl.drop (F.dfl.length - (F.np - ds.length)) = ds := by rw [hd]; simp
  simp only [runF, hf, e]
  rw [if_neg (by rw [hn]; simp), hb]
  exact hl
theorem run_ex {k f : Nat} {F : Fn} {ds : List D} {st st' s : Store} {σ : Env} {c : Nat} {pl : List D} (hf : P.fn f = some F) (hd : F.dfl = []) (hn : ds.length = F.np)
    (hb : evSs P (runF P k) (startE F.nsl ds) F.body st = .ex c pl σ st') (hp : D.pures pl = true) (ht : trunc st st' = some s) : runF P (k + 1) f ds st = .ex c pl s := by
  have e : ds ++ F.dfl.drop (F.dfl.length - (F.np - ds.length)) = ds := by rw [hd]; simp
  simp only [runF, hf, e]
  rw [if_neg (by rw [hn]; simp), hb]
  simp only [hp, if_true, ht]

/-! ### loops -/
theorem wh_stop {c : Env → Store → R Bool} {b : Env → Store → SR} {σ : Env} {st st1 : Store} (h : c σ st = .ok false st1) : whileL c b σ st = some (.nx σ st1) := by
  rw [whileL, h]
theorem wh_go {c : Env → Store → R Bool} {b : Env → Store → SR} {σ σ2 : Env} {st st1 st2 : Store} (h : c σ st = .ok true st1) (hb : b σ st1 = .nx σ2 st2) : whileL c b σ st = whileL c b σ2 st2 := by
  rw [whileL, h]
  simp only [hb]
theorem wh_rt {c : Env → Store → R Bool} {b : Env → Store → SR} {σ : Env} {st st1 st2 : Store} {d : D} (h : c σ st = .ok true st1) (hb : b σ st1 = .rt d st2) : whileL c b σ st = some (.rt d st2) := by
  rw [whileL, h]
  simp only [hb]
theorem wh_ex {c : Env → Store → R Bool} {b : Env → Store → SR} {σ σ2 : Env} {st st1 st2 : Store} {k : Nat} {pl : List D} (h : c σ st = .ok true st1) (hb : b σ st1 = .ex k pl σ2 st2) : whileL c b σ st = some (.ex k pl σ2 st2) := by
  rw [whileL, h]
  simp only [hb]
/-- a for loop by its invariant; nothing walked lies in the store -/
theorem for_nx {b : Env → Store → SR} {g : G} (I : Nat → Env → Store → Prop) : ∀ (ds : List D) (n : Nat) (σ : Env) (st : Store), I n σ st →
    (∀ i d σ st, ds[i]? = some d → I (n + i) σ st → ∃ σ1 σ2 st2, bindG g d σ = some σ1 ∧ b σ1 st = .nx σ2 st2 ∧ I (n + i + 1) σ2 st2) →
    ∃ σ' st', forL b g none ds σ st = .nx σ' st' ∧ I (n + ds.length) σ' st'
  | [], n, σ, st, h, _ => ⟨σ, st, rfl, h⟩
  | d :: ds, n, σ, st, h, hs => by
    obtain ⟨σ1, σ2, st2, h1, h2, h3⟩ := hs 0 d σ st rfl h
    obtain ⟨σ', st', h4, h5⟩ := for_nx I ds (n + 1) σ2 st2 h3 fun i d σ st hd hi => by
      have := hs (i + 1) d σ st (by simpa using hd) (by rw [show n + (i + 1) = n + 1 + i by omega]; exact hi)
      rw [show n + (i + 1) + 1 = n + 1 + i + 1 by omega] at this
      exact this
    refine ⟨σ', st', ?_, by rw [List.length_cons, show n + (ds.length + 1) = n + 1 + ds.length by omega]; exact h5⟩
    simp only [forL, h1, h2, srcB, if_true]
    exact h4
theorem lc_nil {el : Env → Store → R D} {c : Env → Store → R Bool} {g : G} {s : Option (Nat × O)} {σ : Env} {st : Store} : lcL el c g s σ [] st = .ok [] st := by simp only [lcL]
/-- a comprehension of one value each, that changes nothing -/
theorem lc_map {γ : Type} {el : Env → Store → R D} {c : Env → Store → R Bool} {g : G} {σ : Env} {st : Store} (q : γ → D) (f : γ → D) : ∀ (xs : List γ),
    (∀ x ∈ xs, ∃ σ1, bindG g (q x) σ = some σ1 ∧ c σ1 st = .ok true st ∧ el σ1 st = .ok (f x) st) → lcL el c g none σ (xs.map q) st = .ok (xs.map f) st
  | [], _ => by simp only [List.map_nil, lcL]
  | x :: xs, h => by
    obtain ⟨σ1, h1, h2, h3⟩ := h x (List.mem_cons_self ..)
    simp only [List.map_cons, lcL, h1, h2, h3, srcB, if_true, lc_map q f xs fun y hy => h y (List.mem_cons_of_mem _ hy), R.bind]
/-! ### the evaluator's equations, for slots that are told (so that nothing is opened beneath a binder) -/
section
variable {v : Option D}
def iffK (P : Pg) (cf : CallF) (σ : Env) (a b : Ss) (x : Bool) (st : Store) : SR := if x then evSs P cf σ a st else evSs P cf σ b st
theorem iffK_t (σ : Env) (a b : Ss) (st : Store) : iffK P cf σ a b true st = evSs P cf σ a st := rfl
theorem iffK_f (σ : Env) (a b : Ss) (st : Store) : iffK P cf σ a b false st = evSs P cf σ b st := rfl
def ifeK (P : Pg) (cf : CallF) (σ : Env) (a b : E) (x : Bool) (st : Store) : R D := if x then evE P cf σ a st else evE P cf σ b st
theorem ifeK_t (σ : Env) (a b : E) (st : Store) : ifeK P cf σ a b true st = evE P cf σ a st := rfl
theorem ifeK_f (σ : Env) (a b : E) (st : Store) : ifeK P cf σ a b false st = evE P cf σ b st := rfl
def andK (P : Pg) (cf : CallF) (σ : Env) (b : E) (x : Bool) (st : Store) : R D := if x then (boolD (evE P cf σ b st)).bind fun y st => .ok (.bl y) st else .ok (.bl false) st
theorem andK_t (σ : Env) (b : E) (st : Store) : andK P cf σ b true st = (boolD (evE P cf σ b st)).bind fun y st => .ok (.bl y) st := rfl
theorem andK_f (σ : Env) (b : E) (st : Store) : andK P cf σ b false st = .ok (.bl false) st := rfl
def orK (P : Pg) (cf : CallF) (σ : Env) (b : E) (x : Bool) (st : Store) : R D := if x then .ok (.bl true) st else (boolD (evE P cf σ b st)).bind fun y st => .ok (.bl y) st
theorem orK_t (σ : Env) (b : E) (st : Store) : orK P cf σ b true st = .ok (.bl true) st := rfl
theorem orK_f (σ : Env) (b : E) (st : Store) : orK P cf σ b false st = (boolD (evE P cf σ b st)).bind fun y st => .ok (.bl y) st := rfl
/-- an operation's end -/
def finO (m : Bool) (o : Option D) (st : Store) : R D := match o with
  | some d => fin m d st
  | none => .bad
theorem finO_s (m : Bool) (d : D) (st : Store) : finO m (some d) st = fin m d st := rfl
def okO (o : Option Bool) (st : Store) : R D := match o with
  | some b => .ok (.bl b) st
  | none => .bad
theorem okO_s (b : Bool) (st : Store) : okO (some b) st = .ok (.bl b) st := rfl
def chnK (P : Pg) (cf : CallF) (σ : Env) (p : Cop) (c : E) (y : D) (o : Option Bool) (st : Store) : R D := match o with
  | some true => (evE P cf σ c st).bind fun z st => okO (cmpE st p y z) st
  | some false => .ok (.bl false) st
  | none => .bad
theorem chnK_t (σ : Env) (p : Cop) (c : E) (y : D) (st : Store) : chnK P cf σ p c y (some true) st = (evE P cf σ c st).bind fun z st => okO (cmpE st p y z) st := rfl
theorem chnK_f (σ : Env) (p : Cop) (c : E) (y : D) (st : Store) : chnK P cf σ p c y (some false) st = .ok (.bl false) st := rfl
def negK (x : D) (st : Store) : R D := match x with
  | .int i => .ok (.int (-i)) st
  | _ => .bad
theorem negK_i (i : Int) (st : Store) : negK (.int i) st = .ok (.int (-i)) st := rfl
def rplK (m : Bool) (ds : List D) (y : D) (st : Store) : R D := match y with
    | .int n => if n < 2 ^ 62 ∧ -(2 ^ 62) < n ∧ ds.length * n.toNat ≤ LIM then fin m (.lst (rep ds n)) st else .bad
    | _ => .bad
theorem rplK_i (m : Bool) (ds : List D) (n : Int) (st : Store) (h : n < 2 ^ 62 ∧ -(2 ^ 62) < n ∧ ds.length * n.toNat ≤ LIM) : rplK m ds (.int n) st = fin m (.lst (rep ds n)) st := by unfold rplK; simp only; rw [if_pos h]
def isbK (y c : Bool) (x : D) (st : Store) : R D := match x with
    | .bl b => .ok (.bl ((b == c) == y)) st
    | _ => .bad
theorem isbK_b (y c b : Bool) (st : Store) : isbK y c (.bl b) st = .ok (.bl ((b == c) == y)) st := rfl
def dctK (m : Bool) (ps : List D) (st : Store) : R D := match pairsOf ps with
    | some ps => fin m (.dct (dictOf ps)) st
    | none => .bad
theorem dctK_s (m : Bool) (ps : List D) (st : Store) {qs : List (Ky × D)} (h : pairsOf ps = some qs) : dctK m ps st = fin m (.dct (dictOf qs)) st := by unfold dctK; rw [h]
/-- a changing method at a place -/
def mutK (b : Bm) (x : D) (ds : List D) (st : Store) : R D := match x with
      | .ref a => match st[a]? with
        | some o => match bmO b o ds with
          | some (d, o') => .ok d (st.set a o')
          | none => .bad
        | none => .bad
      | _ => .bad
theorem mutK_s {b : Bm} {a : Nat} {ds : List D} {st : Store} {o o' : O} {d : D} (h : st[a]? = some o) (h2 : bmO b o ds = some (d, o')) : mutK b (.ref a) ds st = .ok d (st.set a o') := by simp only [mutK, h, h2]
def bmK (m : Bool) (b : Bm) (x : D) (ds : List D) (st : Store) : R D := if b.muts then mutK b x (if b = .update then ds.map (look st) else ds) st else finO m (bmD b (look st x) (if b = .join then ds.map (look st) else ds)) st
theorem bmK_ap (m : Bool) (x : D) (ds : List D) (st : Store) : bmK m .append x ds st = mutK .append x ds st := rfl
theorem bmK_rv (m : Bool) (x : D) (ds : List D) (st : Store) : bmK m .reverse x ds st = mutK .reverse x ds st := rfl
theorem bmK_pp (m : Bool) (x : D) (ds : List D) (st : Store) : bmK m .pop x ds st = mutK .pop x ds st := rfl
theorem bmK_cl (m : Bool) (x : D) (ds : List D) (st : Store) : bmK m .clear x ds st = mutK .clear x ds st := rfl
theorem bmK_sd (m : Bool) (x : D) (ds : List D) (st : Store) : bmK m .setdef x ds st = mutK .setdef x ds st := rfl
theorem bmK_jn (m : Bool) (x : D) (ds : List D) (st : Store) : bmK m .join x ds st = finO m (bmD .join (look st x) (ds.map (look st))) st := rfl
theorem bmK_g (m : Bool) (x : D) (ds : List D) (st : Store) : bmK m .get x ds st = finO m (bmD .get (look st x) ds) st := rfl
theorem bmK_g2 (m : Bool) (x : D) (ds : List D) (st : Store) : bmK m .get2 x ds st = finO m (bmD .get2 (look st x) ds) st := rfl
theorem bmK_ix (m : Bool) (x : D) (ds : List D) (st : Store) : bmK m .index x ds st = finO m (bmD .index (look st x) ds) st := rfl
/-- o[i] = v at a place -/
def subK (σ : Env) (d x y : D) (st : Store) : SR := match x with
    | .ref a => match st[a]? with
      | some o => match subO o y d with
        | some o' => .nx σ (st.set a o')
        | none => .bad
      | none => .bad
    | _ => .bad
theorem subK_s {σ : Env} {a : Nat} {d y : D} {st : Store} {o o' : O} (h : st[a]? = some o) (h2 : subO o y d = some o') : subK σ d (.ref a) y st = .nx σ (st.set a o') := by simp only [subK, h, h2]
def fldK (P : Pg) (σ : Env) (f : Nat) (d x : D) (st : Store) : SR := match x with
    | .ref a => match st[a]? with
      | some (.ins c fs) => match (fldIx P c f).bind fun i => setF fs i d with
        | some fs' => .nx σ (st.set a (.ins c fs'))
        | none => .bad
      | _ => .bad
    | _ => .bad
theorem fldK_s {σ : Env} {a c f : Nat} {d : D} {st : Store} {fs fs' : List D} (h : st[a]? = some (.ins c fs)) (h2 : ((fldIx P c f).bind fun i => setF fs i d) = some fs') : fldK P σ f d (.ref a) st = .nx σ (st.set a (.ins c fs')) := by simp only [fldK, h, h2]
def mthK (P : Pg) (cf : CallF) (σ : Env) (n : Nat) (es : Es) (x : D) (st : Store) : R D := match look st x with
    | .obj c _ => match methOf P c n with
      | some f => (evEs P cf σ es st).bind fun ds st => cf f (x :: ds) st
      | none => .bad
    | _ => .bad
theorem mthK_s {σ : Env} {n c f : Nat} {es : Es} {x : D} {st : Store} {fs : List D} (h : look st x = .obj c fs) (h2 : methOf P c n = some f) : mthK P cf σ n es x st = (evEs P cf σ es st).bind fun ds st => cf f (x :: ds) st := by simp only [mthK, h, h2]
/-- an object's making, behind its arguments -/
def mkK (cf : CallF) (z : Bool) (c init : Nat) (ds : List D) (st : Store) : R D := match cf init (.ref st.length :: ds) (st ++ [.ins c []]) with
      | .ok d st' => if d = .non then (if z then (match fz st.length st' 4 (.ref st.length), trunc st st' with
          | some d', some s => .ok d' s
          | _, _ => .bad) else .ok (.ref st.length) st') else .bad
      | .ex k pl st' => if D.pures pl then (match trunc st st' with
          | some s => .ex k pl s
          | none => .bad) else .bad
      | .bad => .bad
def clvK (P : Pg) (cf : CallF) (σ : Env) (es : Es) (x : Option D) (st : Store) : R D := match x with
    | some (.fn f) => if (P.fn f).isSome then (evEs P cf σ es st).bind fun ds st => cf f ds st else .bad
    | _ => .bad
/-- a comprehension's end -/
def lcK (m : Bool) (ds : List D) (st : Store) : R D := if ds.length ≤ LIM then fin m (.lst ds) st else .bad
theorem lcK_s {m : Bool} {ds : List D} {st : Store} (h : ds.length ≤ LIM) : lcK m ds st = fin m (.lst ds) st := if_pos h
def slcK (m : Bool) (x : D) (l h : Option Int) (st : Store) : R D := finO m (slcD (look st x) l h) st
def bndK (P : Pg) (cf : CallF) (σ : Env) (e : E) (st : Store) : R (Option Int) := if e.isNo then R.ok none st else (evE P cf σ e st).bind bndI
theorem bnd_i (i : Int) (st : Store) : bndI (.int i) st = .ok (some i) st := rfl

theorem e_no (st : Store) : evE P cf σ .no st = .ok .non st := by simp only [evE]
theorem e_var (i : Nat) (st : Store) : evE P cf (v :: σ) (.var i) st = R.of (((v :: σ)[i]?).getD none) st := by simp only [evE]
theorem e_non (st : Store) : evE P cf σ .non st = .ok .non st := by simp only [evE]
theorem e_bl (b : Bool) (st : Store) : evE P cf σ (.bl b) st = .ok (.bl b) st := by simp only [evE]
theorem e_int (i : Int) (st : Store) : evE P cf σ (.int i) st = .ok (.int i) st := by simp only [evE]
theorem e_str (s : List Nat) (st : Store) : evE P cf σ (.str s) st = .ok (.str s) st := by simp only [evE]
theorem e_tup (es : Es) (st : Store) : evE P cf (v :: σ) (.tup es) st = (evEs P cf (v :: σ) es st).bind fun ds st => .ok (.tup ds) st := by simp only [evE]
theorem e_lst (m : Bool) (es : Es) (st : Store) : evE P cf (v :: σ) (.lst m es) st = (evEs P cf (v :: σ) es st).bind fun ds st => fin m (.lst ds) st := by simp only [evE]
theorem e_dct (m : Bool) (kvs : Kv) (st : Store) : evE P cf (v :: σ) (.dct m kvs) st = (evKv P cf (v :: σ) kvs st).bind fun ps st => dctK m ps st := by simp only [evE]; rfl
theorem e_bin (m : Bool) (o : Bop) (a b : E) (st : Store) : evE P cf (v :: σ) (.bin m o a b) st = (evE P cf (v :: σ) a st).bind fun x st => (evE P cf (v :: σ) b st).bind fun y st => finO m (binD o (look st x) (look st y)) st := by simp only [evE]; rfl
theorem e_rpl (m : Bool) (es : Es) (n : E) (st : Store) : evE P cf (v :: σ) (.rpl m es n) st = (evEs P cf (v :: σ) es st).bind fun ds st => (evE P cf (v :: σ) n st).bind fun y st => rplK m ds y st := by simp only [evE]; rfl
theorem e_neg (a : E) (st : Store) : evE P cf (v :: σ) (.neg a) st = (evE P cf (v :: σ) a st).bind fun x st => negK x st := by simp only [evE]; rfl
theorem e_nt (a : E) (st : Store) : evE P cf (v :: σ) (.nt a) st = (boolD (evE P cf (v :: σ) a st)).bind fun b st => .ok (.bl (!b)) st := by simp only [evE]
theorem e_cmp (o : Cop) (a b : E) (st : Store) : evE P cf (v :: σ) (.cmp o a b) st = (evE P cf (v :: σ) a st).bind fun x st => (evE P cf (v :: σ) b st).bind fun y st => okO (cmpE st o x y) st := by
  simp only [evE]
  congr; funext x st; congr; funext y st
  cases cmpE st o x y <;> rfl
theorem e_chn (o p : Cop) (a b c : E) (st : Store) : evE P cf (v :: σ) (.chn o p a b c) st = (evE P cf (v :: σ) a st).bind fun x st => (evE P cf (v :: σ) b st).bind fun y st => chnK P cf (v :: σ) p c y (cmpE st o x y) st := by
  simp only [evE]
  congr; funext x st; congr; funext y st
  cases cmpE st o x y with
  | none => rfl
  | some b => cases b
              · rfl
              · simp only [chnK]
                congr; funext z st
                cases cmpE st p y z <;> rfl
theorem e_isn (y : Bool) (a : E) (st : Store) : evE P cf (v :: σ) (.isn y a) st = (evE P cf (v :: σ) a st).bind fun x st => .ok (.bl (decide (x = .non) == y)) st := by simp only [evE]
theorem e_isb (y c : Bool) (a : E) (st : Store) : evE P cf (v :: σ) (.isb y c a) st = (evE P cf (v :: σ) a st).bind fun x st => isbK y c x st := by simp only [evE]; rfl
theorem e_and (a b : E) (st : Store) : evE P cf (v :: σ) (.andE a b) st = (boolD (evE P cf (v :: σ) a st)).bind (andK P cf (v :: σ) b) := by simp only [evE]; rfl
theorem e_or (a b : E) (st : Store) : evE P cf (v :: σ) (.orE a b) st = (boolD (evE P cf (v :: σ) a st)).bind (orK P cf (v :: σ) b) := by simp only [evE]; rfl
theorem e_ife (c a b : E) (st : Store) : evE P cf (v :: σ) (.ife c a b) st = (boolD (evE P cf (v :: σ) c st)).bind (ifeK P cf (v :: σ) a b) := by simp only [evE]; rfl
theorem e_idx (a b : E) (st : Store) : evE P cf (v :: σ) (.idx a b) st = (evE P cf (v :: σ) a st).bind fun x st => (evE P cf (v :: σ) b st).bind fun y st => R.of (idxD (look st x) y) st := by simp only [evE]
theorem e_slc (m : Bool) (a lo hi : E) (st : Store) : evE P cf (v :: σ) (.slc m a lo hi) st = (evE P cf (v :: σ) a st).bind fun x st => (bndK P cf (v :: σ) lo st).bind fun l st => (bndK P cf (v :: σ) hi st).bind fun h st => slcK m x l h st := by simp only [evE]; rfl
theorem e_stp (m : Bool) (a : E) (k : Int) (st : Store) : evE P cf (v :: σ) (.stp m a k) st = (evE P cf (v :: σ) a st).bind fun x st => finO m (stpD (look st x) k) st := by simp only [evE]; rfl
theorem e_atr (a : E) (f : Nat) (st : Store) : evE P cf (v :: σ) (.atr a f) st = (evE P cf (v :: σ) a st).bind fun x st => R.of (atrD P f (look st x)) st := by simp only [evE]
theorem e_call (f : Nat) (es : Es) (st : Store) : evE P cf (v :: σ) (.call f es) st = (evEs P cf (v :: σ) es st).bind fun ds st => cf f ds st := by simp only [evE]
theorem e_mth (a : E) (n : Nat) (es : Es) (st : Store) : evE P cf (v :: σ) (.mth a n es) st = (evE P cf (v :: σ) a st).bind (mthK P cf (v :: σ) n es) := by simp only [evE]; rfl
theorem e_mk (z : Bool) (c : Nat) (es : Es) (st : Store) {k : Cl} (h : P.cl c = some k) : evE P cf (v :: σ) (.mk z c es) st = (evEs P cf (v :: σ) es st).bind fun ds st => mkK cf z c k.init ds st := by simp only [evE, h]; rfl
theorem e_bi (m : Bool) (b : Bi) (es : Es) (st : Store) : evE P cf (v :: σ) (.bi m b es) st = (evEs P cf (v :: σ) es st).bind fun ds st => finO m (biD P.rp b (ds.map (look st))) st := by simp only [evE]; rfl
theorem e_bm (m : Bool) (b : Bm) (a : E) (es : Es) (st : Store) : evE P cf (v :: σ) (.bm m b a es) st = (evE P cf (v :: σ) a st).bind fun x st => if bmT b (look st x) then (evEs P cf (v :: σ) es st).bind fun ds st => bmK m b x ds st else .bad := by
  simp only [evE]
  rfl
theorem e_isi (a : E) (t : Ty) (st : Store) : evE P cf (v :: σ) (.isi a t) st = (evE P cf (v :: σ) a st).bind fun x st => okO (isTy P.sub t (look st x)) st := by
  simp only [evE]
  congr; funext x st
  cases isTy P.sub t (look st x) <;> rfl
theorem e_lc (m : Bool) (el : E) (tg : G) (it : I) (c : E) (st : Store) : evE P cf (v :: σ) (.lc m el tg it c) st = (evI P cf (v :: σ) it st).bind fun w st => (lcL (fun σ st => evE P cf σ el st) (fun σ st => if c.isNo then .ok true st else boolD (evE P cf σ c st)) tg w.2 (wipeE (v :: σ) (slotsG tg)) w.1 st).bind fun ds st => lcK m ds st := by simp only [evE]; rfl
theorem e_glb (g : Nat) (st : Store) : evE P cf σ (.glb g) st = R.of (P.glb g) st := by simp only [evE]
theorem e_fnv (f : Nat) (st : Store) : evE P cf σ (.fnv f) st = .ok (.fn f) st := by simp only [evE]
theorem e_clv (i : Nat) (es : Es) (st : Store) : evE P cf (v :: σ) (.clv i es) st = clvK P cf (v :: σ) es (((v :: σ)[i]?).getD none) st := by simp only [evE]; rfl
theorem es_nil (st : Store) : evEs P cf σ .nil st = .ok [] st := by simp only [evEs]
theorem es_cons (e : E) (r : Es) (st : Store) : evEs P cf (v :: σ) (.cons e r) st = (evE P cf (v :: σ) e st).bind fun d st => (evEs P cf (v :: σ) r st).bind fun ds st => .ok (d :: ds) st := by simp only [evEs]
theorem ek_nil (st : Store) : evKv P cf σ .nil st = .ok [] st := by simp only [evKv]
theorem ek_cons (k w : E) (r : Kv) (st : Store) : evKv P cf (v :: σ) (.cons k w r) st = (evE P cf (v :: σ) k st).bind fun x st => (evE P cf (v :: σ) w st).bind fun y st => (evKv P cf (v :: σ) r st).bind fun r st => .ok (.tup [x, y] :: r) st := by simp only [evKv]
theorem et (e : E) (st : Store) : evT P cf (v :: σ) e st = boolD (evE P cf (v :: σ) e st) := rfl
/-- what is walked -/
noncomputable def smallC (i : Int) : Bool := @decide (smallI i = true) (Classical.propDecidable _)
theorem smallC_eq (i : Int) : smallC i = smallI i := by
  unfold smallC
  cases h : smallI i with
  | true => exact @decide_eq_true _ (Classical.propDecidable _) rfl
  | false => exact @decide_eq_false _ (Classical.propDecidable _) (by decide)
noncomputable def rng1K (d : D) (st : Store) : R Wk := match d with
    | .int n => if smallC n then .ok (rngL 0 n.toNat 1, none) st else .bad
    | _ => .bad
theorem rng1K_i {n : Int} (st : Store) (h : smallI n = true) : rng1K (.int n) st = .ok (rngL 0 n.toNat 1, none) st := by simp only [rng1K, smallC_eq, h, if_true]
noncomputable def rng2K (d e : D) (st : Store) : R Wk := match d, e with
    | .int i, .int n => if smallC i && smallC n then .ok (rngL i (n - i).toNat 1, none) st else .bad
    | _, _ => .bad
theorem rng2K_i {i n : Int} (st : Store) (h0 : smallI i = true) (h : smallI n = true) : rng2K (.int i) (.int n) st = .ok (rngL i (n - i).toNat 1, none) st := by simp only [rng2K, smallC_eq, h, h0, Bool.and_self, if_true]
noncomputable def rng3K (d e f : D) (st : Store) : R Wk := match d, e, f with
    | .int i, .int n, .int k => if smallC i && smallC n && decide (0 < k) && decide (k < 2 ^ 20) then .ok (rngL i (rngN i n k) k, none) st else .bad
    | _, _, _ => .bad
theorem rng3K_i {i n k : Int} (st : Store) (h0 : smallI i = true) (h : smallI n = true) (h1 : 0 < k) (h2 : k < 2 ^ 20) : rng3K (.int i) (.int n) (.int k) st = .ok (rngL i (rngN i n k) k, none) st := by simp only [rng3K, smallC_eq, h, h0, h1, h2, decide_true, Bool.and_self, if_true]
def zipK (d e : D) (st : Store) : R Wk := match d, e with
    | .lst xs, .lst ys => .ok (zipD xs ys, none) st
    | .tup xs, .tup ys => .ok (zipD xs ys, none) st
    | .lst xs, .tup ys => .ok (zipD xs ys, none) st
    | .tup xs, .lst ys => .ok (zipD xs ys, none) st
    | _, _ => .bad
theorem zipK_ll (xs ys : List D) (st : Store) : zipK (.lst xs) (.lst ys) st = .ok (zipD xs ys, none) st := rfl
theorem zipK_tt (xs ys : List D) (st : Store) : zipK (.tup xs) (.tup ys) st = .ok (zipD xs ys, none) st := rfl
theorem zipK_lt (xs ys : List D) (st : Store) : zipK (.lst xs) (.tup ys) st = .ok (zipD xs ys, none) st := rfl
theorem zipK_tl (xs ys : List D) (st : Store) : zipK (.tup xs) (.lst ys) st = .ok (zipD xs ys, none) st := rfl
def enmK (d : D) (st : Store) : R Wk := match look st d with
    | .lst xs => .ok (zipD (rngL 0 xs.length 1) xs, srcOf st d) st
    | .tup xs => .ok (zipD (rngL 0 xs.length 1) xs, none) st
    | _ => .bad
theorem enmK_l (xs : List D) (st : Store) : enmK (.lst xs) st = .ok (zipD (rngL 0 xs.length 1) xs, none) st := rfl
theorem enmK_t (xs : List D) (st : Store) : enmK (.tup xs) st = .ok (zipD (rngL 0 xs.length 1) xs, none) st := rfl
def revK (d : D) (st : Store) : R Wk := match look st d with
    | .lst xs => .ok (xs.reverse, srcOf st d) st
    | _ => .bad
theorem revK_l (xs : List D) (st : Store) : revK (.lst xs) st = .ok (xs.reverse, none) st := rfl
def itmK (d : D) (st : Store) : R Wk := match look st d with
    | .dct kvs => .ok (kvs.map (fun p => .tup [kyD p.1, p.2]), srcOf st d) st
    | _ => .bad
def vlsK (d : D) (st : Store) : R Wk := match look st d with
    | .dct kvs => .ok (kvs.map (fun p => p.2), srcOf st d) st
    | _ => .bad
theorem itmK_d (kvs : List (Ky × D)) (st : Store) : itmK (.dct kvs) st = .ok (kvs.map (fun p => .tup [kyD p.1, p.2]), none) st := rfl
theorem vlsK_d (kvs : List (Ky × D)) (st : Store) : vlsK (.dct kvs) st = .ok (kvs.map (fun p => p.2), none) st := rfl
theorem sq_l (xs : List D) (st : Store) : seqI st (.lst xs) = some (xs, none) := rfl
theorem sq_t (xs : List D) (st : Store) : seqI st (.tup xs) = some (xs, none) := rfl
theorem sq_s (xs : List Nat) (st : Store) : seqI st (.str xs) = some (xs.map fun c => .str [c], none) := rfl
theorem sq_r {a : Nat} {xs : List D} {st : Store} (h : st[a]? = some (.lst xs)) : seqI st (.ref a) = some (xs, some (a, .lst xs)) := by simp only [seqI, look, srcOf, h, Option.map_some]
theorem ei_seq (e : E) (st : Store) : evI P cf (v :: σ) (.seq e) st = (evE P cf (v :: σ) e st).bind fun d st => R.of (seqI st d) st := by simp only [evI]
theorem ei_rng1 (a : E) (st : Store) : evI P cf (v :: σ) (.rng1 a) st = (evE P cf (v :: σ) a st).bind fun d st => rng1K d st := by
  simp only [evI]
  congr; funext d st
  cases d <;> simp only [rng1K, smallC_eq]
theorem ei_rng2 (a b : E) (st : Store) : evI P cf (v :: σ) (.rng2 a b) st = (evE P cf (v :: σ) a st).bind fun d st => (evE P cf (v :: σ) b st).bind fun e st => rng2K d e st := by
  simp only [evI]
  congr; funext d st; congr; funext e st
  cases d <;> cases e <;> simp only [rng2K, smallC_eq]
theorem ei_rng3 (a b c : E) (st : Store) : evI P cf (v :: σ) (.rng3 a b c) st = (evE P cf (v :: σ) a st).bind fun d st => (evE P cf (v :: σ) b st).bind fun e st => (evE P cf (v :: σ) c st).bind fun f st => rng3K d e f st := by
  simp only [evI]
  congr; funext d st; congr; funext e st; congr; funext f st
  cases d <;> cases e <;> cases f <;> simp only [rng3K, smallC_eq]
theorem ei_zip (a b : E) (st : Store) : evI P cf (v :: σ) (.zip a b) st = (evE P cf (v :: σ) a st).bind fun d st => (evE P cf (v :: σ) b st).bind fun e st => zipK d e st := by simp only [evI]; rfl
theorem ei_enm (a : E) (st : Store) : evI P cf (v :: σ) (.enm a) st = (evE P cf (v :: σ) a st).bind fun d st => enmK d st := by simp only [evI]; rfl
theorem ei_rev (a : E) (st : Store) : evI P cf (v :: σ) (.rev a) st = (evE P cf (v :: σ) a st).bind fun d st => revK d st := by simp only [evI]; rfl
theorem ei_itm (a : E) (st : Store) : evI P cf (v :: σ) (.itm a) st = (evE P cf (v :: σ) a st).bind fun d st => itmK d st := by simp only [evI]; rfl
theorem ei_vls (a : E) (st : Store) : evI P cf (v :: σ) (.vls a) st = (evE P cf (v :: σ) a st).bind fun d st => vlsK d st := by simp only [evI]; rfl
theorem t_nm (i : Nat) (d : D) (σ : Env) (st : Store) : putT P cf σ (.g (.nm i)) d st = .nx (σ.set i (some d)) st := pt_nm i d σ st
def tpK (o : Option Env) (st : Store) : SR := match o with
  | some σ => .nx σ st
  | none => .bad
theorem tpK_s (σ : Env) (st : Store) : tpK (some σ) st = .nx σ st := rfl
theorem t_tp (gs : List G) (d : D) (σ : Env) (st : Store) : putT P cf σ (.g (.tp gs)) d st = tpK (bindG (.tp gs) (look st d) σ) st := by
  simp only [putT]
  cases bindG (.tp gs) (look st d) σ <;> rfl
theorem t_sub (a i : E) (d : D) (st : Store) : putT P cf (v :: σ) (.sub a i) d st = SR.of (evE P cf (v :: σ) a st) (v :: σ) fun x st => SR.of (evE P cf (v :: σ) i st) (v :: σ) fun y st => subK (v :: σ) d x y st := rfl
theorem t_fld (a : E) (f : Nat) (d : D) (st : Store) : putT P cf (v :: σ) (.fld a f) d st = SR.of (evE P cf (v :: σ) a st) (v :: σ) fun x st => fldK P (v :: σ) f d x st := rfl
theorem s_asg (t : Tg) (e : E) (st : Store) : evS P cf (v :: σ) (.asg t e) st = SR.of (evE P cf (v :: σ) e st) (v :: σ) fun d st => putT P cf (v :: σ) t d st := by simp only [evS]
theorem s_par (i j : Nat) (a b : E) (st : Store) : evS P cf (v :: σ) (.par i j a b) st = SR.of (evE P cf (v :: σ) a st) (v :: σ) fun d st => SR.of (evE P cf (v :: σ) b st) (v :: σ) fun e st => .nx (((v :: σ).set i (some d)).set j (some e)) st := by simp only [evS]
theorem s_exp (e : E) (st : Store) : evS P cf (v :: σ) (.exp e) st = SR.of (evE P cf (v :: σ) e st) (v :: σ) fun _ st => .nx (v :: σ) st := by simp only [evS]
theorem s_ret (e : E) (st : Store) : evS P cf (v :: σ) (.ret e) st = SR.of (evE P cf (v :: σ) e st) (v :: σ) fun d st => .rt d st := by simp only [evS]
theorem s_iff (c : E) (a b : Ss) (st : Store) : evS P cf (v :: σ) (.iff c a b) st = SR.of (evT P cf (v :: σ) c st) (v :: σ) (iffK P cf (v :: σ) a b) := by simp only [evS]; rfl
theorem s_fr (g : G) (it : I) (b : Ss) (st : Store) : evS P cf (v :: σ) (.fr g it b) st = SR.of (evI P cf (v :: σ) it st) (v :: σ) fun w st => forL (fun σ st => evSs P cf σ b st) g w.2 w.1 (v :: σ) st := by simp only [evS]
theorem s_whl (c : E) (b : Ss) (st : Store) : evS P cf (v :: σ) (.whl c b) st = (whileL (fun σ st => evT P cf σ c st) (fun σ st => evSs P cf σ b st) (v :: σ) st).getD .bad := by simp only [evS]
theorem s_rse (c : Nat) (es : Es) (st : Store) : evS P cf (v :: σ) (.rse c es) st = if P.sub c c then SR.of (evEs P cf (v :: σ) es st) (v :: σ) fun ds st => .ex c (if (P.xf c).isSome then ds else []) (v :: σ) st else .bad := by simp only [evS]
def hsN : SR → SR
  | .ex _ _ _ _ => .bad
  | r => r
theorem hsN_nx (σ : Env) (st : Store) : hsN (.nx σ st) = .nx σ st := rfl
theorem hsN_rt (d : D) (st : Store) : hsN (.rt d st) = .rt d st := rfl
def hsS (i : Nat) : SR → SR
  | .nx σ2 st2 => .nx (σ2.set i none) st2
  | .rt d st2 => .rt d st2
  | _ => .bad
theorem hsS_nx (i : Nat) (σ : Env) (st : Store) : hsS i (.nx σ st) = .nx (σ.set i none) st := rfl
theorem hsS_rt (i : Nat) (d : D) (st : Store) : hsS i (.rt d st) = .rt d st := rfl
theorem hs_nl (c : Nat) (pl : List D) (st : Store) : evHs P cf σ .nil c pl st = .ex c pl σ st := by simp only [evHs]
theorem hs_cn (k : Nat) (b : Ss) (r : Hs) (c : Nat) (pl : List D) (st : Store) : evHs P cf (v :: σ) (.cons k none b r) c pl st = if P.sub c c && P.sub k k then (if P.sub c k then hsN (evSs P cf (v :: σ) b st) else evHs P cf (v :: σ) r c pl st) else .bad := by
  simp only [evHs]
  congr
theorem hs_cs (k i : Nat) (b : Ss) (r : Hs) (c : Nat) (pl : List D) (st : Store) : evHs P cf (v :: σ) (.cons k (some i) b r) c pl st = if P.sub c c && P.sub k k then (if P.sub c k then hsS i (evSs P cf ((v :: σ).set i (some (.exc c pl))) b st) else evHs P cf (v :: σ) r c pl st) else .bad := by
  simp only [evHs]
  congr
theorem at_exc {f c : Nat} {d : D} {pl : List D} (h : P.xf c = some f) : atrD P f (.exc c (d :: pl)) = some d := by
  show (if P.xf c = some f then _ else none) = _
  rw [if_pos h]; rfl
def tryK (P : Pg) (cf : CallF) (hs : Hs) (r : SR) : SR := match r with
    | .ex c pl σ1 st1 => evHs P cf σ1 hs c pl st1
    | r => r
theorem tryK_nx (hs : Hs) (σ : Env) (st : Store) : tryK P cf hs (.nx σ st) = .nx σ st := rfl
theorem tryK_rt (hs : Hs) (d : D) (st : Store) : tryK P cf hs (.rt d st) = .rt d st := rfl
theorem tryK_ex (hs : Hs) (c : Nat) (pl : List D) (σ : Env) (st : Store) : tryK P cf hs (.ex c pl σ st) = evHs P cf σ hs c pl st := rfl
theorem s_tr (b : Ss) (hs : Hs) (st : Store) : evS P cf (v :: σ) (.tr b hs) st = tryK P cf hs (evSs P cf (v :: σ) b st) := by simp only [evS]; rfl
theorem s_pss (st : Store) : evS P cf σ .pss st = .nx σ st := by simp only [evS]
theorem ss_nl (st : Store) : evSs P cf σ .nil st = .nx σ st := by simp only [evSs]
theorem ss_cn (s : S) (r : Ss) (st : Store) : evSs P cf (v :: σ) (.cons s r) st = (evS P cf (v :: σ) s st).seq fun σ st => evSs P cf σ r st := by simp only [evSs]
end
end CT

/-! What holds behind a run. -/
namespace CT
section
variable {α β : Type} {P : Pg} {cf : CallF} {σ : Env} {st : Store}
/-- no exception -/
abbrev nX : Nat → List D → Store → Prop := fun _ _ _ => False
abbrev nXe : Nat → List D → Env → Store → Prop := fun _ _ _ _ => False
abbrev nN : Env → Store → Prop := fun _ _ => False
abbrev nT : D → Store → Prop := fun _ _ => False
inductive wR0 {α : Type} (Q : α → Store → Prop) (X : Nat → List D → Store → Prop) : R α → Prop
  | ok {a : α} {st : Store} : Q a st → wR0 Q X (.ok a st)
  | ex {c : Nat} {pl : List D} {st : Store} : X c pl st → wR0 Q X (.ex c pl st)
inductive wS0 (N : Env → Store → Prop) (T : D → Store → Prop) (X : Nat → List D → Env → Store → Prop) : SR → Prop
  | nx {σ : Env} {st : Store} : N σ st → wS0 N T X (.nx σ st)
  | rt {d : D} {st : Store} : T d st → wS0 N T X (.rt d st)
  | ex {c : Nat} {pl : List D} {σ : Env} {st : Store} : X c pl σ st → wS0 N T X (.ex c pl σ st)
abbrev wR (r : R α) (Q : α → Store → Prop) (X : Nat → List D → Store → Prop) : Prop := wR0 Q X r
abbrev wS (r : SR) (N : Env → Store → Prop) (T : D → Store → Prop) (X : Nat → List D → Env → Store → Prop) : Prop := wS0 N T X r
theorem wR_ok (a : α) (st : Store) (Q : α → Store → Prop) (X : Nat → List D → Store → Prop) : wR (.ok a st) Q X ↔ Q a st := ⟨fun h => by cases h; assumption, .ok⟩
theorem wR_ex (c : Nat) (pl : List D) (st : Store) (Q : α → Store → Prop) (X : Nat → List D → Store → Prop) : wR (.ex c pl st) Q X ↔ X c pl st := ⟨fun h => by cases h; assumption, .ex⟩
theorem wR_bad (Q : α → Store → Prop) (X : Nat → List D → Store → Prop) : ¬ wR .bad Q X := fun h => nomatch h
theorem wS_nx (σ : Env) (st : Store) (N : Env → Store → Prop) (T : D → Store → Prop) (X : Nat → List D → Env → Store → Prop) : wS (.nx σ st) N T X ↔ N σ st := ⟨fun h => by cases h; assumption, .nx⟩
theorem wS_rt (d : D) (st : Store) (N : Env → Store → Prop) (T : D → Store → Prop) (X : Nat → List D → Env → Store → Prop) : wS (.rt d st) N T X ↔ T d st := ⟨fun h => by cases h; assumption, .rt⟩
theorem wS_ex (c : Nat) (pl : List D) (σ : Env) (st : Store) (N : Env → Store → Prop) (T : D → Store → Prop) (X : Nat → List D → Env → Store → Prop) : wS (.ex c pl σ st) N T X ↔ X c pl σ st := ⟨fun h => by cases h; assumption, .ex⟩
theorem wS_bad (N : Env → Store → Prop) (T : D → Store → Prop) (X : Nat → List D → Env → Store → Prop) : ¬ wS .bad N T X := fun h => nomatch h
theorem wR_bind (r : R α) (f : α → Store → R β) (Q : β → Store → Prop) (X : Nat → List D → Store → Prop) : wR (r.bind f) Q X ↔ wR r (fun a st => wR (f a st) Q X) X := by
  cases r with
  | ok a st => simp only [rb_ok, wR_ok]
  | ex c pl st => simp only [rb_ex, wR_ex]
  | bad => exact ⟨fun h => (nomatch h), fun h => nomatch h⟩
theorem wS_seq (r : SR) (f : Env → Store → SR) (N : Env → Store → Prop) (T : D → Store → Prop) (X : Nat → List D → Env → Store → Prop) : wS (r.seq f) N T X ↔ wS r (fun σ st => wS (f σ st) N T X) T X := by
  cases r with
  | nx a st => simp only [sq_nx, wS_nx]
  | rt a st => simp only [sq_rt, wS_rt]
  | ex c pl σ st => simp only [sq_ex, wS_ex]
  | bad => exact ⟨fun h => (nomatch h), fun h => nomatch h⟩
theorem wS_of (r : R α) (σ : Env) (f : α → Store → SR) (N : Env → Store → Prop) (T : D → Store → Prop) (X : Nat → List D → Env → Store → Prop) : wS (SR.of r σ f) N T X ↔ wR r (fun a st => wS (f a st) N T X) (fun c pl st => X c pl σ st) := by
  cases r with
  | ok a st => simp only [so_ok, wR_ok]
  | ex c pl st => simp only [so_ex, wR_ex, wS_ex]
  | bad => exact ⟨fun h => (nomatch h), fun h => nomatch h⟩
theorem wR_boolD (r : R D) (Q : Bool → Store → Prop) (X : Nat → List D → Store → Prop) : wR (boolD r) Q X ↔ wR r (fun d st => ∃ b, d = .bl b ∧ Q b st) X := by
  cases r with
  | ok d st =>
    cases d with
    | bl b => rw [bd_bl, wR_ok, wR_ok]; exact ⟨fun h => ⟨b, rfl, h⟩, fun ⟨_, e, h⟩ => by cases e; exact h⟩
    | _ => exact ⟨fun h => (nomatch h), fun h => by rw [wR_ok] at h; obtain ⟨_, e, _⟩ := h; cases e⟩
  | ex c pl st => simp only [bd_ex, wR_ex]
  | bad => exact ⟨fun h => (nomatch h), fun h => nomatch h⟩
theorem wR_mono {r : R α} {Q Q' : α → Store → Prop} {X X' : Nat → List D → Store → Prop} (h : wR r Q X) (hq : ∀ a st, Q a st → Q' a st) (hx : ∀ c pl st, X c pl st → X' c pl st := by exact fun _ _ _ h => h) : wR r Q' X' := by
  cases h with
  | ok h => exact .ok (hq _ _ h)
  | ex h => exact .ex (hx _ _ _ h)
/-- without exceptions -/
theorem wR_use {r : R α} {Q Q' : α → Store → Prop} {X' : Nat → List D → Store → Prop} (h : wR r Q nX) (hq : ∀ a st, Q a st → Q' a st) : wR r Q' X' := by
  cases h with
  | ok h => exact .ok (hq _ _ h)
  | ex h => exact h.elim
theorem wS_mono {r : SR} {N N' : Env → Store → Prop} {T T' : D → Store → Prop} {X X' : Nat → List D → Env → Store → Prop} (h : wS r N T X) (hn : ∀ σ st, N σ st → N' σ st) (ht : ∀ d st, T d st → T' d st := by exact fun _ _ h => h) (hx : ∀ c pl σ st, X c pl σ st → X' c pl σ st := by exact fun _ _ _ _ h => h) : wS r N' T' X' := by
  cases h with
  | nx h => exact .nx (hn _ _ h)
  | rt h => exact .rt (ht _ _ h)
  | ex h => exact .ex (hx _ _ _ _ h)
theorem wR_eq {r : R α} {a : α} {st : Store} (h : wR r (fun b s => b = a ∧ s = st) nX) : r = .ok a st := by
  cases h with
  | ok h => obtain ⟨rfl, rfl⟩ := h; rfl
  | ex h => exact h.elim
theorem wR_of_eq {r : R α} {a : α} {st : Store} {Q : α → Store → Prop} {X : Nat → List D → Store → Prop} (h : r = .ok a st) (q : Q a st) : wR r Q X := by subst h; exact .ok q
theorem wR_get {r : R α} {Q : α → Store → Prop} (h : wR r Q nX) : ∃ a st, r = .ok a st ∧ Q a st := by
  cases h with
  | ok h => exact ⟨_, _, rfl, h⟩
  | ex h => exact h.elim
theorem wS_tr (hs : Hs) (r : SR) (N : Env → Store → Prop) (T : D → Store → Prop) (X : Nat → List D → Env → Store → Prop) : wS (tryK P cf hs r) N T X ↔ wS r N T (fun c pl σ st => wS (evHs P cf σ hs c pl st) N T X) := by
  cases r with
  | nx a st => simp only [tryK_nx, wS_nx]
  | rt a st => simp only [tryK_rt, wS_rt]
  | ex c pl σ st => simp only [tryK_ex, wS_ex]
  | bad => exact ⟨fun h => (nomatch h), fun h => (nomatch h)⟩
theorem wS_hsN (r : SR) (N : Env → Store → Prop) (T : D → Store → Prop) (X : Nat → List D → Env → Store → Prop) : wS (hsN r) N T X ↔ wS r N T nXe := by
  cases r with
  | nx a st => simp only [hsN_nx, wS_nx]
  | rt a st => simp only [hsN_rt, wS_rt]
  | ex c pl σ st => rw [wS_ex]; exact ⟨fun h => (nomatch h), fun h => h.elim⟩
  | bad => exact ⟨fun h => (nomatch h), fun h => (nomatch h)⟩
theorem wS_hsS (i : Nat) (r : SR) (N : Env → Store → Prop) (T : D → Store → Prop) (X : Nat → List D → Env → Store → Prop) : wS (hsS i r) N T X ↔ wS r (fun σ st => N (σ.set i none) st) T nXe := by
  cases r with
  | nx a st => simp only [hsS_nx, wS_nx]
  | rt a st => simp only [hsS_rt, wS_rt]
  | ex c pl σ st => rw [wS_ex]; exact ⟨fun h => (nomatch h), fun h => h.elim⟩
  | bad => exact ⟨fun h => (nomatch h), fun h => (nomatch h)⟩
/-- a def called -/
theorem run_w {k f : Nat} {F : Fn} {ds : List D} {Q : D → Store → Prop} {X : Nat → List D → Store → Prop} (hf : P.fn f = some F) (hd : F.dfl = []) (hn : ds.length = F.np)
    (h : wS (evSs P (runF P k) (startE F.nsl ds) F.body st) (fun _ s => wR (leave F.mode st .non s) Q X) (fun d s => wR (leave F.mode st d s) Q X) (fun c pl _ s => D.pures pl = true ∧ ∃ s', trunc st s = some s' ∧ X c pl s')) : wR (runF P (k + 1) f ds st) Q X := by
  have e : ds ++ F.dfl.drop (F.dfl.length - (F.np - ds.length)) = ds := by rw [hd]; simp
  simp only [runF, hf, e]
  rw [if_neg (by rw [hn]; simp)]
  revert h
  generalize evSs P (runF P k) (startE F.nsl ds) F.body st = z
  intro h
  cases h with
  | nx h => exact h
  | rt h => exact h
  | ex h =>
    obtain ⟨h1, s', h2, h3⟩ := h
    simp only [h1, if_true, h2]
    exact .ex h3
/-- .. that hands back data -/
theorem run_z {k f : Nat} {F : Fn} {ds : List D} {Q : D → Store → Prop} {X : Nat → List D → Store → Prop} (hf : P.fn f = some F) (hd : F.dfl = []) (hn : ds.length = F.np) (hm : F.mode = .fz)
    (h : wS (evSs P (runF P k) (startE F.nsl ds) F.body st) (fun _ s => ∃ s', trunc st s = some s' ∧ Q .non s') (fun d s => d.pure = true ∧ ∃ s', trunc st s = some s' ∧ Q d s') (fun c pl _ s => D.pures pl = true ∧ ∃ s', trunc st s = some s' ∧ X c pl s')) : wR (runF P (k + 1) f ds st) Q X := by
  refine run_w hf hd hn (wS_mono h ?_ ?_)
  · rintro _ s ⟨s', h1, h2⟩
    rw [hm, leave_fz rfl h1]
    exact .ok h2
  · rintro d s ⟨hp, s', h1, h2⟩
    rw [hm, leave_fz hp h1]
    exact .ok h2
/-- .. and changes nothing -/
theorem run_p {k f : Nat} {F : Fn} {ds : List D} {a : D} (hf : P.fn f = some F) (hd : F.dfl = []) (hn : ds.length = F.np) (hm : F.mode = .fz)
    (h : wS (evSs P (runF P k) (startE F.nsl ds) F.body st) nN (fun d s => d = a ∧ a.pure = true ∧ s = st) nXe) : runF P (k + 1) f ds st = .ok a st := by
  refine wR_eq (run_z hf hd hn hm (wS_mono h (fun _ _ h => h.elim) ?_ (fun _ _ _ _ h => h.elim)))
  rintro d s ⟨rfl, hp, rfl⟩
  exact ⟨hp, _, trunc_rfl _, rfl, rfl⟩
/-! ### loops -/
/-- a for loop by its invariant -/
theorem wS_for {b : Env → Store → SR} {g : G} {src : Option (Nat × O)} {N : Env → Store → Prop} {T : D → Store → Prop} {X : Nat → List D → Env → Store → Prop} {ds : List D} (I : Nat → Env → Store → Prop)
    (h0 : I 0 σ st) (hs : ∀ i d σ st, ds[i]? = some d → I i σ st → ∃ σ1, bindG g d σ = some σ1 ∧ wS (b σ1 st) (fun σ2 st2 => srcB st2 src = true ∧ I (i + 1) σ2 st2) T X)
    (hk : ∀ σ st, I ds.length σ st → N σ st) : wS (forL b g src ds σ st) N T X := by
  have go : ∀ (ds' : List D) (n : Nat) (σ : Env) (st : Store), ds.drop n = ds' → n + ds'.length = ds.length → I n σ st → wS (forL b g src ds' σ st) N T X := by
    intro ds'
    induction ds' with
    | nil =>
      intro n σ st _ hl hi
      simp only [List.length_nil, Nat.add_zero] at hl
      subst hl
      exact .nx (hk _ _ hi)
    | cons d ds' ih =>
      intro n σ st hd hl hi
      have hn : ds[n]? = some d := by
        have := List.getElem?_drop (xs := ds) (i := n) (j := 0)
        rw [hd] at this
        simpa using this.symm
      obtain ⟨σ1, h1, h2⟩ := hs n d σ st hn hi
      simp only [forL, h1]
      generalize b σ1 st = z at h2
      cases h2 with
      | nx h2 =>
        obtain ⟨h3, h4⟩ := h2
        simp only [h3, if_true]
        refine ih (n + 1) _ _ ?_ (by simp only [List.length_cons] at hl; omega) h4
        rw [← List.drop_drop, hd]
        rfl
      | rt h2 => exact .rt h2
      | ex h2 => exact .ex h2
  exact go ds 0 σ st rfl (by simp) h0
/-- a while loop by its invariant and a measure -/
theorem wS_whl {c : Env → Store → R Bool} {b : Env → Store → SR} {N : Env → Store → Prop} {T : D → Store → Prop} {X : Nat → List D → Env → Store → Prop} (I : Nat → Env → Store → Prop) (n : Nat)
    (h0 : I n σ st) (hs : ∀ m σ st, I m σ st → wR (c σ st) (fun x st1 => if x = true then wS (b σ st1) (fun σ2 st2 => ∃ m', m' < m ∧ I m' σ2 st2) T X else N σ st1) (fun k pl st1 => X k pl σ st1)) : wS ((whileL c b σ st).getD .bad) N T X := by
  have go : ∀ (n m : Nat) (σ : Env) (st : Store), m ≤ n → I m σ st → wS ((whileL c b σ st).getD .bad) N T X := by
    intro n
    induction n with
    | zero =>
      intro m σ st hm hi
      have h := hs m σ st hi
      rw [whileL]
      generalize c σ st = z at h
      cases h with
      | @ok x st1 h =>
        cases x with
        | true =>
          simp only [if_true] at h
          generalize e : b σ st1 = y at h
          cases h with
          | nx h => obtain ⟨m', h1, _⟩ := h; omega
          | rt h => simp only [e]; exact .rt h
          | ex h => simp only [e]; exact .ex h
        | false =>
          simp only [Bool.false_eq_true, if_false] at h
          exact .nx h
      | ex h => exact .ex h
    | succ n ih =>
      intro m σ st hm hi
      have h := hs m σ st hi
      rw [whileL]
      generalize c σ st = z at h
      cases h with
      | @ok x st1 h =>
        cases x with
        | true =>
          simp only [if_true] at h
          generalize e : b σ st1 = y at h
          cases h with
          | nx h =>
            obtain ⟨m', h1, h2⟩ := h
            simp only [e]
            exact ih m' _ _ (by omega) h2
          | rt h => simp only [e]; exact .rt h
          | ex h => simp only [e]; exact .ex h
        | false =>
          simp only [Bool.false_eq_true, if_false] at h
          exact .nx h
      | ex h => exact .ex h
  exact go n n σ st (Nat.le_refl _) h0
/-- a list comprehension by its invariant: what is made so far -/
theorem wR_lc {el : Env → Store → R D} {c : Env → Store → R Bool} {g : G} {src : Option (Nat × O)} {ds : List D} {Q : List D → Store → Prop} {X : Nat → List D → Store → Prop} (I : Nat → List D → Store → Prop)
    (h0 : I 0 [] st) (hs : ∀ i d acc st, ds[i]? = some d → I i acc st → ∃ σ1, bindG g d σ = some σ1 ∧ wR (c σ1 st) (fun x st1 => if x = true then wR (el σ1 st1) (fun v st2 => srcB st2 src = true ∧ I (i + 1) (acc ++ [v]) st2) nX else srcB st1 src = true ∧ I (i + 1) acc st1) nX)
    (hk : ∀ acc st, I ds.length acc st → Q acc st) : wR (lcL el c g src σ ds st) Q X := by
  have go : ∀ (ds' : List D) (n : Nat) (acc : List D) (st : Store), ds.drop n = ds' → n + ds'.length = ds.length → I n acc st → ∃ vs s, lcL el c g src σ ds' st = .ok vs s ∧ Q (acc ++ vs) s := by
    intro ds'
    induction ds' with
    | nil =>
      intro n acc st _ hl hi
      simp only [List.length_nil, Nat.add_zero] at hl
      subst hl
      exact ⟨[], st, rfl, by rw [List.append_nil]; exact hk _ _ hi⟩
    | cons d ds' ih =>
      intro n acc st hd hl hi
      have hn : ds[n]? = some d := by
        have := List.getElem?_drop (xs := ds) (i := n) (j := 0)
        rw [hd] at this
        simpa using this.symm
      have hd' : ds.drop (n + 1) = ds' := by rw [← List.drop_drop, hd]; rfl
      have hl' : n + 1 + ds'.length = ds.length := by simp only [List.length_cons] at hl; omega
      obtain ⟨σ1, h1, h2⟩ := hs n d acc st hn hi
      obtain ⟨x, st1, h3, h4⟩ := wR_get h2
      cases x with
      | true =>
        simp only [if_true] at h4
        obtain ⟨v, st2, h5, h6, h7⟩ := wR_get h4
        obtain ⟨vs, s, h8, h9⟩ := ih (n + 1) _ st2 hd' hl' h7
        refine ⟨v :: vs, s, ?_, by rw [List.append_assoc] at h9; exact h9⟩
        simp only [lcL, h1, h3, h5, h6, if_true, h8, R.bind]
      | false =>
        simp only [Bool.false_eq_true, if_false] at h4
        obtain ⟨h6, h7⟩ := h4
        obtain ⟨vs, s, h8, h9⟩ := ih (n + 1) _ st1 hd' hl' h7
        exact ⟨vs, s, by simp only [lcL, h1, h3, h6, if_true, h8], h9⟩
  obtain ⟨vs, s, h1, h2⟩ := go ds 0 [] st rfl (by simp) h0
  rw [h1]
  exact .ok h2
/-- .. of one value for each, nothing changed -/
theorem lc_mapW {γ : Type} {el : Env → Store → R D} {c : Env → Store → R Bool} {g : G} {src : Option (Nat × O)} (hsrc : srcB st src = true) (q f : γ → D) : ∀ xs : List γ, (∀ x ∈ xs, ∃ σ1, bindG g (q x) σ = some σ1 ∧ c σ1 st = .ok true st ∧ el σ1 st = .ok (f x) st) →
    lcL el c g src σ (xs.map q) st = .ok (xs.map f) st
  | [], _ => by simp only [List.map_nil, lcL]
  | x :: xs, h => by
    obtain ⟨σ1, h1, h2, h3⟩ := h x (List.mem_cons_self ..)
    simp only [List.map_cons, lcL, h1, h2, h3, hsrc, if_true, lc_mapW hsrc q f xs fun y hy => h y (List.mem_cons_of_mem _ hy), R.bind]
/-- .. of those that pass a test -/
theorem lc_filW {γ : Type} {el : Env → Store → R D} {c : Env → Store → R Bool} {g : G} {src : Option (Nat × O)} (hsrc : srcB st src = true) (q f : γ → D) (t : γ → Bool) : ∀ xs : List γ, (∀ x ∈ xs, ∃ σ1, bindG g (q x) σ = some σ1 ∧ c σ1 st = .ok (t x) st ∧ (t x = true → el σ1 st = .ok (f x) st)) →
    lcL el c g src σ (xs.map q) st = .ok ((xs.filter t).map f) st
  | [], _ => by simp only [List.map_nil, lcL, List.filter_nil]
  | x :: xs, h => by
    obtain ⟨σ1, h1, h2, h3⟩ := h x (List.mem_cons_self ..)
    have ih := lc_filW hsrc q f t xs fun y hy => h y (List.mem_cons_of_mem _ hy)
    cases hx : t x with
    | true => simp only [List.map_cons, lcL, h1, h2, hx, h3 hx, hsrc, if_true, ih, R.bind, List.filter_cons_of_pos hx]
    | false => simp only [List.map_cons, lcL, h1, h2, hx, hsrc, if_true, ih, List.filter_cons_of_neg (show ¬ t x = true by simp [hx])]
theorem rngL_get {lo k : Int} {n i : Nat} {d : D} (h : (rngL lo n k)[i]? = some d) : i < n ∧ d = .int (lo + (i : Int) * k) := by
  unfold rngL at h
  rw [List.getElem?_map] at h
  cases e : (List.range n)[i]? with
  | none => rw [e] at h; cases h
  | some j =>
    rw [e] at h
    obtain ⟨h1, h2⟩ := List.getElem?_eq_some_iff.mp e
    simp at h1 h2
    subst h2
    exact ⟨h1, (Option.some.inj h).symm⟩
theorem rngL_len (lo k : Int) (n : Nat) : (rngL lo n k).length = n := by simp [rngL]
end
end CT

set_option maxRecDepth 100000
/-! Numbers, drawn numbers, data of numbers. -/
namespace CT
/-! ### drawn numbers -/
/-- the number drawn as the k-th, below m -/
def drw (cs : List Int) (k m : Int) : Int :=
  (if cs = [] then 31 * k * k + 7919 * k else 31 * k * k + 7919 * k + (cs.getD (k % (cs.length : Int)).toNat 0) % 2147483647 * (1 + k / (cs.length : Int))) * 48271 % 2147483647 / 7 % m
theorem drw_nn {cs : List Int} {k m : Int} (h : 0 < m) : 0 ≤ drw cs k m := Int.emod_nonneg _ (by omega)
theorem drw_lt {cs : List Int} {k m : Int} (h : 0 < m) : drw cs k m < m := Int.emod_lt_of_pos _ h
/-- the drawer as it is kept: cells, how many were drawn, more -/
def drO (cs : List Int) (n : Int) (r : List (Ky × D)) : O := .dct ((.s [99, 101, 108, 108, 115], .lst (cs.map .int)) :: (.s [97, 116], .int n) :: r)
theorem plains_ints (n : Nat) : ∀ cs : List Int, D.plains n (cs.map .int) = true
  | [] => by cases n <;> rfl
  | c :: cs => by simp [D.plains, pl_int, plains_ints n cs]
theorem pures_ints : ∀ cs : List Int, D.pures (cs.map .int) = true
  | [] => rfl
  | c :: cs => by simp [D.pures, D.pure, pures_ints cs]
theorem pls_nil (n : Nat) : D.plains n [] = true := by cases n <;> rfl
theorem drO_pure {cs : List Int} {n : Int} {r : List (Ky × D)} (h : D.purek r = true) : (drO cs n r).pure = true := by
  simp [drO, O.pure, D.purek, D.pure, pures_ints, h]
theorem eqv_nil (cs : List Int) : D.eqvs (cs.map .int) [] = decide (cs = []) := by
  cases cs <;> simp [D.eqvs]
theorem mulOk_l {i j : Int} (h : i.natAbs < 2 ^ 64) : mulOk i j = true := by simp [mulOk, h]
theorem mulOk_r {i j : Int} (h : j.natAbs < 2 ^ 64) : mulOk i j = true := by simp [mulOk, h]
theorem mulOk_b {i j : Int} (h : i.natAbs < 2 ^ 100000) (h2 : j.natAbs < 2 ^ 100000) : mulOk i j = true := by unfold mulOk; rw [decide_eq_true h, decide_eq_true h2]; simp
theorem trunc_set {st : Store} {a : Nat} {o : O} (h : o.pure = true) : trunc st (st.set a o) = some (st.set a o) := by
  have e : truncOk st (st.set a o) = true := by
    unfold truncOk
    simp only [List.length_set, Nat.le_refl, decide_true, Bool.true_and, List.all_eq_true, List.mem_range, Bool.or_eq_true, decide_eq_true_eq]
    intro b hb
    by_cases hab : a = b
    · subst hab
      right
      rw [List.getElem?_set_self hb]
      exact h
    · left; rw [List.getElem?_set_ne hab]
  unfold trunc
  rw [e, if_pos rfl, List.take_of_length_le (by simp)]
theorem kv_at {cs : List Int} {n : Int} {r : List (Ky × D)} : kvGet (.s [97, 116]) ((.s [99, 101, 108, 108, 115], .lst (cs.map .int)) :: (.s [97, 116], .int n) :: r) = some (.int n) := by simp [kvGet]
theorem kv_cells {cs : List Int} {n : Int} {r : List (Ky × D)} : kvGet (.s [99, 101, 108, 108, 115]) ((.s [99, 101, 108, 108, 115], .lst (cs.map .int)) :: (.s [97, 116], .int n) :: r) = some (.lst (cs.map .int)) := by simp [kvGet]
theorem dr_sub {cs : List Int} {n m : Int} {r : List (Ky × D)} (hk : r.length < 1000) (hr : ∀ p ∈ r, p.1 ≠ .s [97, 116]) : subO (drO cs n r) (.str [97, 116]) (.int m) = some (drO cs m r) := by
  have e : kvPut (.s [97, 116]) (.int m) ((.s [99, 101, 108, 108, 115], .lst (cs.map .int)) :: (.s [97, 116], .int n) :: r) = (.s [99, 101, 108, 108, 115], .lst (cs.map .int)) :: (.s [97, 116], .int m) :: r := by
    unfold kvPut
    rw [if_pos (by simp)]
    simp only [List.map_cons]
    rw [if_neg (by decide)]
    simp only [if_true]
    congr 2
    have : ∀ l : List (Ky × D), (∀ p ∈ l, p.1 ≠ .s [97, 116]) → l.map (fun p => if p.1 = .s [97, 116] then (p.1, (.int m : D)) else p) = l := by
      intro l
      induction l with
      | nil => intro _; rfl
      | cons p l ih =>
        intro h
        rw [List.map_cons, if_neg (h p (List.mem_cons_self ..)), ih fun q hq => h q (List.mem_cons_of_mem _ hq)]
    exact this r hr
  unfold subO drO
  simp only [keyD, Option.bind_some]
  rw [if_pos (by simp only [List.length_cons]; exact Nat.lt_of_lt_of_le (by omega : r.length + 1 + 1 < 1002) (by decide)), e]
/-! ### sizes of numbers -/
def Bd (x : Int) (k : Nat) : Prop := x.natAbs < 2 ^ k
theorem Bd.mul {x y : Int} {k l : Nat} (h : Bd x k) (g : Bd y l) : Bd (x * y) (k + l) := by
  unfold Bd at *
  rw [Int.natAbs_mul, Nat.pow_add]
  exact Nat.mul_lt_mul'' h g
theorem Bd.le {x : Int} {k l : Nat} (h : Bd x k) (g : k ≤ l) : Bd x l := Nat.lt_of_lt_of_le h (Nat.pow_le_pow_right (by decide) g)
theorem Bd.pow {x : Int} {k : Nat} (h : Bd x k) : ∀ n : Nat, Bd (x ^ n) (k * n + 1)
  | 0 => by unfold Bd; simp
  | n + 1 => by
    rw [Int.pow_succ]
    exact (Bd.mul (Bd.pow h n) h).le (by rw [Nat.mul_add]; omega)
theorem Bd.ok {x y : Int} {k l : Nat} (h : Bd x k) (g : Bd y l) (hk : k ≤ 100000) (hl : l ≤ 100000) : mulOk x y = true := mulOk_b (h.le hk) (g.le hl)
theorem smallII {m : Int} (h0 : -(2 ^ 40) < m) (h : m < 2 ^ 40) : smallI m = true := by simp only [smallI, decide_eq_true_eq]; omega
/-- numbers as data -/
abbrev ti (l : List Int) : D := .tup (l.map .int)
theorem zip_ints : ∀ (xs ys : List Int), zipD (xs.map D.int) (ys.map D.int) = (xs.zip ys).map fun p => .tup [.int p.1, .int p.2]
  | [], ys => by cases ys <;> rfl
  | x :: xs, [] => rfl
  | x :: xs, y :: ys => by simp only [List.map_cons, zipD, List.zip_cons_cons, zip_ints xs ys]
theorem pures_map {γ : Type} (f : γ → Int) : ∀ xs : List γ, D.pures (xs.map fun x => .int (f x)) = true
  | [] => rfl
  | x :: xs => by simp [D.pures, D.pure, pures_map f xs]
theorem pure_ti (l : List Int) : (ti l).pure = true := pures_map id l
theorem ti_map {γ : Type} (f : γ → Int) (xs : List γ) : D.tup (xs.map fun x => .int (f x)) = ti (xs.map f) := by simp [ti, Function.comp_def]
theorem eqvs_ints : ∀ xs ys : List Int, D.eqvs (xs.map D.int) (ys.map D.int) = decide (xs = ys)
  | [], [] => rfl
  | [], y :: ys => rfl
  | x :: xs, [] => rfl
  | x :: xs, y :: ys => by
    simp only [List.map_cons, D.eqvs, ev_ii, eqvs_ints xs ys, List.cons.injEq]
    rw [Bool.eq_iff_iff]
    simp
theorem eqv_ti (xs ys : List Int) : D.eqv (ti xs) (ti ys) = decide (xs = ys) := by
  show D.eqvs _ _ = _
  exact eqvs_ints xs ys
theorem plain_ti (n : Nat) (xs : List Int) : D.plain (n + 1) (ti xs) = true := plains_ints n xs
theorem ints_ti : ∀ xs : List Int, intsOf (xs.map D.int) = some xs
  | [] => rfl
  | x :: xs => by simp [intsOf, ints_ti xs]
theorem zw_map {α β γ : Type} (f : α → β → γ) : ∀ (xs : List α) (ys : List β), List.zipWith f xs ys = (xs.zip ys).map fun p => f p.1 p.2
  | [], ys => by cases ys <;> rfl
  | x :: xs, [] => rfl
  | x :: xs, y :: ys => by simp [zw_map f xs ys]
theorem wfor_nil {b : Env → Store → SR} {g : G} {σ : Env} {st : Store} {N : Env → Store → Prop} {T : D → Store → Prop} {X : Nat → List D → Env → Store → Prop} : wS (forL b g none [] σ st) N T X ↔ N σ st := wS_nx ..
theorem wfor_cons {b : Env → Store → SR} {g : G} {d : D} {ds : List D} {σ : Env} {st : Store} {N : Env → Store → Prop} {T : D → Store → Prop} {X : Nat → List D → Env → Store → Prop} :
    wS (forL b g none (d :: ds) σ st) N T X ↔ ∃ σ1, bindG g d σ = some σ1 ∧ wS (b σ1 st) (fun σ2 st2 => wS (forL b g none ds σ2 st2) N T X) T X := by
  simp only [forL]
  cases bindG g d σ with
  | none => exact ⟨fun h => (nomatch h), fun ⟨_, h, _⟩ => (nomatch h)⟩
  | some σ1 =>
    simp only [Option.some.injEq, exists_eq_left']
    cases b σ1 st with
    | nx σ2 st2 => simp only [srcB, if_true, wS_nx]
    | rt d s => simp only [wS_rt]
    | ex c pl σ s => simp only [wS_ex]
    | bad => exact ⟨fun h => (nomatch h), fun h => (nomatch h)⟩
theorem wlc_nil {el : Env → Store → R D} {c : Env → Store → R Bool} {g : G} {src : Option (Nat × O)} {σ : Env} {st : Store} {Q : List D → Store → Prop} {X : Nat → List D → Store → Prop} : wR (lcL el c g src σ [] st) Q X ↔ Q [] st := wR_ok ..
theorem wlc_cons {el : Env → Store → R D} {c : Env → Store → R Bool} {g : G} {d : D} {ds : List D} {σ : Env} {st : Store} {Q : List D → Store → Prop} {X : Nat → List D → Store → Prop} :
    wR (lcL el c g none σ (d :: ds) st) Q X ↔ ∃ σ1, bindG g d σ = some σ1 ∧ wR (c σ1 st) (fun x st1 => if x = true then wR (el σ1 st1) (fun v st2 => wR (lcL el c g none σ ds st2) (fun vs st3 => Q (v :: vs) st3) X) nX else wR (lcL el c g none σ ds st1) Q X) nX := by
  simp only [lcL]
  cases bindG g d σ with
  | none => exact ⟨fun h => (nomatch h), fun ⟨_, h, _⟩ => (nomatch h)⟩
  | some σ1 =>
    simp only [Option.some.injEq, exists_eq_left']
    cases c σ1 st with
    | ok x st1 =>
      cases x with
      | true =>
        simp only [wR_ok, if_true]
        cases el σ1 st1 with
        | ok v st2 => simp only [srcB, if_true, wR_ok, wR_bind]
        | ex c pl s => simp only [wR_ex]; exact ⟨fun h => (nomatch h), fun h => h.elim⟩
        | bad => exact ⟨fun h => (nomatch h), fun h => (nomatch h)⟩
      | false => simp only [wR_ok, srcB, if_true, Bool.false_eq_true, if_false]
    | ex c pl s => simp only [wR_ex]; exact ⟨fun h => (nomatch h), fun h => h.elim⟩
    | bad => exact ⟨fun h => (nomatch h), fun h => (nomatch h)⟩
/-! ### the store's last place -/
theorem set_last (st : Store) (x y : O) : (st ++ [x]).set st.length y = st ++ [y] := by
  rw [List.set_append_right _ _ (Nat.le_refl _)]
  simp
theorem get_last (st : Store) (x : O) : (st ++ [x])[st.length]? = some x := by simp
theorem trunc_app (st t : Store) : trunc st (st ++ t) = some st := by
  have e : truncOk st (st ++ t) = true := by
    unfold truncOk
    simp only [List.length_append, Nat.le_add_right, decide_true, Bool.true_and, List.all_eq_true, List.mem_range, Bool.or_eq_true, decide_eq_true_eq]
    intro b hb
    exact .inl (List.getElem?_append_left hb)
  unfold trunc
  rw [e, if_pos rfl, List.take_left]
theorem leave_own {st : Store} {o : O} (h : o.pure = true) : leave .own st (.ref st.length) (st ++ [o]) = .ok (.ref st.length) (st ++ [o]) := by
  simp only [leave, get_last, trunc_app, h, Nat.le_refl, decide_true, Bool.and_self, if_true]
theorem join_each : ∀ l : List Nat, joinL [] (l.map fun c => [c]) = l
  | [] => rfl
  | [x] => rfl
  | x :: y :: l => by
    have := join_each (y :: l)
    simp only [List.map_cons] at this ⊢
    simp [joinL, this]
theorem sum_len1 : ∀ l : List Nat, ((l.map fun c => [c]).map List.length).sum = l.length
  | [] => rfl
  | x :: l => by
    rw [List.map_cons, List.map_cons, List.sum_cons, sum_len1 l, List.length_singleton, List.length_cons, Nat.add_comm]
theorem cut_all {α : Type} (xs : List α) : cut xs none none = xs := by simp [cut, sx]
theorem cut_lo {α : Type} (xs : List α) {i : Int} (h0 : 0 ≤ i) (h : i ≤ xs.length) : cut xs none (some i) = xs.take i.toNat := by
  simp only [cut, sx, if_neg (show ¬ i < 0 by omega), List.drop_zero, Nat.sub_zero]
  congr 1
  omega
theorem cut_hi {α : Type} (xs : List α) {i : Int} (h0 : 0 ≤ i) : cut xs (some i) none = xs.drop i.toNat := by
  simp only [cut, sx, if_neg (show ¬ i < 0 by omega)]
  by_cases h : i.toNat ≤ xs.length
  · rw [show min i.toNat xs.length = i.toNat by omega, List.take_of_length_le (by rw [List.length_drop]; omega)]
  · rw [show min i.toNat xs.length = xs.length by omega, List.drop_of_length_le (Nat.le_refl _), List.drop_of_length_le (by omega), List.take_nil]
theorem sl_l (xs : List D) (l h : Option Int) : slcD (.lst xs) l h = some (.lst (cut xs l h)) := rfl
theorem sl_t (xs : List D) (l h : Option Int) : slcD (.tup xs) l h = some (.tup (cut xs l h)) := rfl
theorem sl_s (xs : List Nat) (l h : Option Int) : slcD (.str xs) l h = some (.str (cut xs l h)) := rfl
theorem bm_join (a : List Nat) (xs : List D) : bmD .join (.str a) [.lst xs] = (strsOf xs).bind fun ss => if (ss.map List.length).sum + ss.length * a.length ≤ LIM then some (.str (joinL a ss)) else none := rfl
theorem cut_map {α β : Type} (f : α → β) (xs : List α) (l h : Option Int) : cut (xs.map f) l h = (cut xs l h).map f := by
  simp only [cut, List.length_map, List.map_drop, List.map_take]
theorem cutN_len {α : Type} (xs : List α) (l h : Option Int) : (cut xs l h).length ≤ xs.length := by
  simp only [cut, List.length_take, List.length_drop]
  omega
theorem in_ss (c : Nat) (t : List Nat) : isIn (.str [c]) (.str t) = some (decide (c ∈ t)) := rfl
theorem in_l (x : D) (ys : List D) : isIn x (.lst ys) = if D.plain 8 x && D.plains 8 ys then some (inD x ys) else none := by
  cases x <;> first | rfl | (rename_i s; cases s with
    | nil => rfl
    | cons a r => cases r <;> rfl)
theorem in_t (x : D) (ys : List D) : isIn x (.tup ys) = if D.plain 8 x && D.plains 8 ys then some (inD x ys) else none := by
  cases x <;> first | rfl | (rename_i s; cases s with
    | nil => rfl
    | cons a r => cases r <;> rfl)
theorem plains_strs (n : Nat) : ∀ l : List (List Nat), D.plains n (l.map .str) = true
  | [] => by cases n <;> rfl
  | x :: l => by simp [D.plains, pl_str, plains_strs n l]
theorem inD_cons (x y : D) (l : List D) : inD x (y :: l) = (D.eqv y x || inD x l) := rfl
theorem inD_strs (x : List Nat) : ∀ l : List (List Nat), inD (.str x) (l.map .str) = decide (x ∈ l)
  | [] => rfl
  | y :: l => by
    rw [List.map_cons, inD_cons, inD_strs x l, ev_ss, Bool.eq_iff_iff, Bool.or_eq_true, decide_eq_true_eq, decide_eq_true_eq, decide_eq_true_eq, List.mem_cons]
    exact ⟨fun h => h.imp Eq.symm id, fun h => h.imp Eq.symm id⟩
theorem eqvs_strs : ∀ xs ys : List (List Nat), D.eqvs (xs.map D.str) (ys.map D.str) = decide (xs = ys)
  | [], [] => rfl
  | [], y :: ys => rfl
  | x :: xs, [] => rfl
  | x :: xs, y :: ys => by
    rw [List.map_cons, List.map_cons, D.eqvs, ev_ss, eqvs_strs xs ys, Bool.eq_iff_iff, Bool.and_eq_true, decide_eq_true_eq, decide_eq_true_eq, decide_eq_true_eq]
    exact ⟨fun ⟨h, g⟩ => by rw [h, g], fun h => List.cons.inj h⟩
theorem ix_at {α : Type} {t : List α} {i : Nat} {c : α} (h : t[i]? = some c) : ixD t (i : Int) = some c := by rw [ixD_nat, h]
theorem drop_at {α : Type} {t : List α} {i : Nat} {c : α} (h : t[i]? = some c) : t.drop i = c :: t.drop (i + 1) := by
  obtain ⟨h1, h2⟩ := List.getElem?_eq_some_iff.mp h
  rw [← h2]
  exact List.drop_eq_getElem_cons h1
theorem cut_mid {α : Type} (xs : List α) {a b : Nat} (h : a ≤ b) (hb : b ≤ xs.length) : cut xs (some (a : Int)) (some (b : Int)) = (xs.drop a).take (b - a) := by
  have e1 : ¬ ((a : Int) < 0) := by omega
  have e2 : ¬ ((b : Int) < 0) := by omega
  simp only [cut, sx, if_neg e1, if_neg e2, Int.toNat_natCast]
  rw [Nat.min_eq_left (show a ≤ xs.length by omega), Nat.min_eq_left hb]
theorem fz_lst_pure {b n a : Nat} {st : Store} {ds : List D} (h : st[a]? = some (.lst ds)) (hn : ¬ a < b) (hp : D.pures ds = true) : fz b st (n + 1) (.ref a) = some (.lst ds) := by
  rw [fz]
  simp only [D.pure, Bool.false_eq_true, if_false, if_neg hn, h, Option.bind_some, O.pure, hp, if_true]
theorem fz_lst {b n a : Nat} {st : Store} {ds : List D} (h : st[a]? = some (.lst ds)) (hn : ¬ a < b) (hp : D.pures ds = false) : fz b st (n + 1) (.ref a) = (allSome (ds.map (fz b st n))).map .lst := by
  rw [fz]
  simp only [D.pure, Bool.false_eq_true, if_false, if_neg hn, h, Option.bind_some, O.pure, hp]
  rfl
theorem set_ext {st u : Store} {a : Nat} {o : O} (h : st.length ≤ a) : (st ++ u).set a o = st ++ u.set (a - st.length) o := List.set_append_right _ _ h
theorem ix_some {α : Type} {xs : List α} {i : Int} (h0 : 0 ≤ i) (h : i < xs.length) : ∃ d, d ∈ xs ∧ ixD xs i = some d := by
  have hn : i.toNat < xs.length := by omega
  exact ⟨xs[i.toNat], List.getElem_mem hn, by rw [ixD_nn _ h0, List.getElem?_eq_getElem hn]⟩
theorem dig_len {n k : Nat} (h : n < 10 ^ k) (hk : 0 < k) : (dig n).length ≤ k := by
  unfold dig
  rw [List.length_map]
  exact (Nat.length_toDigits_le_iff (by decide) hk).mpr h
theorem itxt_nn {i : Int} {k : Nat} (h0 : 0 ≤ i) (h : i < 10 ^ k) (hk : 0 < k) : (itxt i).length ≤ k := by
  unfold itxt
  rw [if_neg (by omega)]
  refine dig_len ?_ hk
  have e : ((10 ^ k : Nat) : Int) = (10 : Int) ^ k := by rw [Int.natCast_pow]; rfl
  have : ((i.natAbs : Nat) : Int) < ((10 ^ k : Nat) : Int) := by rw [e]; omega
  exact Int.ofNat_lt.mp this
theorem joinL_nil : ∀ l : List (List Nat), joinL [] l = l.flatten
  | [] => rfl
  | [x] => by simp [joinL]
  | x :: y :: l => by
    have := joinL_nil (y :: l)
    simp only [joinL, List.append_nil, List.flatten_cons] at this ⊢
    rw [this]
theorem strs_of : ∀ l : List (List Nat), strsOf (l.map D.str) = some l
  | [] => rfl
  | x :: l => by simp [strsOf, strs_of l]
end CT

set_option maxRecDepth 100000
/-! Products of 2s, 3s, 5s, 7s. -/
namespace CT
structure E4 where
  a : Nat
  b : Nat
  c : Nat
  d : Nat
def E4.n (e : E4) : Nat := 2 ^ e.a * 3 ^ e.b * 5 ^ e.c * 7 ^ e.d
def E4.l (e : E4) : List Int := [e.a, e.b, e.c, e.d]
def E4.sub (e f : E4) : List Int := [(e.a : Int) - f.a, (e.b : Int) - f.b, (e.c : Int) - f.c, (e.d : Int) - f.d]
def E4.add (e f : E4) : E4 := ⟨e.a + f.a, e.b + f.b, e.c + f.c, e.d + f.d⟩
def E4.mul (k : Nat) (e : E4) : E4 := ⟨k * e.a, k * e.b, k * e.c, k * e.d⟩
def E4.min (e f : E4) : E4 := ⟨Min.min e.a f.a, Min.min e.b f.b, Min.min e.c f.c, Min.min e.d f.d⟩
/-- what is above -/
def E4.off (e f : E4) : E4 := ⟨e.a - f.a, e.b - f.b, e.c - f.c, e.d - f.d⟩
def E4.sum (e : E4) : Nat := e.a + e.b + e.c + e.d
theorem E4.n_add (e f : E4) : (e.add f).n = e.n * f.n := by
  simp only [E4.n, E4.add, Nat.pow_add]
  ac_rfl
theorem E4.n_mul (k : Nat) (e : E4) : (E4.mul k e).n = e.n ^ k := by
  simp only [E4.n, E4.mul, Nat.mul_pow, ← Nat.pow_mul]
  rw [Nat.mul_comm k, Nat.mul_comm k, Nat.mul_comm k, Nat.mul_comm k]
theorem E4.n_split (e f : E4) : (e.min f).n * (e.off f).n = e.n := by
  rw [← E4.n_add]
  congr 1
  obtain ⟨a, b, c, d⟩ := e
  obtain ⟨a', b', c', d'⟩ := f
  simp only [E4.add, E4.min, E4.off, E4.mk.injEq]
  omega
theorem E4.min_comm (e f : E4) : e.min f = f.min e := by simp only [E4.min, Nat.min_comm]
theorem E4.n_pos (e : E4) : 0 < e.n := by
  unfold E4.n
  exact Nat.mul_pos (Nat.mul_pos (Nat.mul_pos (Nat.pow_pos (by decide)) (Nat.pow_pos (by decide))) (Nat.pow_pos (by decide))) (Nat.pow_pos (by decide))
theorem cop_pp {p q : Nat} (h : Nat.Coprime p q) (m n : Nat) : Nat.Coprime (p ^ m) (q ^ n) := Nat.Coprime.pow m n h
theorem cop_0 {p m n : Nat} (h : m = 0 ∨ n = 0) : Nat.Coprime (p ^ m) (p ^ n) := by
  rcases h with rfl | rfl
  · rw [Nat.pow_zero]; exact Nat.coprime_one_left _
  · rw [Nat.pow_zero]; exact Nat.coprime_one_right _
theorem E4.cop (e f : E4) : Nat.Coprime (e.off f).n (f.off e).n := by
  obtain ⟨a, b, c, d⟩ := e
  obtain ⟨a', b', c', d'⟩ := f
  simp only [E4.n, E4.off]
  have h2 : Nat.Coprime (2 ^ (a - a')) (2 ^ (a' - a)) := cop_0 (by omega)
  have h3 : Nat.Coprime (3 ^ (b - b')) (3 ^ (b' - b)) := cop_0 (by omega)
  have h5 : Nat.Coprime (5 ^ (c - c')) (5 ^ (c' - c)) := cop_0 (by omega)
  have h7 : Nat.Coprime (7 ^ (d - d')) (7 ^ (d' - d)) := cop_0 (by omega)
  refine .mul_left (.mul_left (.mul_left ?_ ?_) ?_) ?_ <;> refine .mul_right (.mul_right (.mul_right ?_ ?_) ?_) ?_ <;> first | assumption | exact cop_pp (by decide) _ _
theorem E4.gcd (e f : E4) : Nat.gcd e.n f.n = (e.min f).n := by
  have h1 := E4.n_split e f
  have h2 := E4.n_split f e
  rw [E4.min_comm] at h2
  rw [← h1, ← h2, Nat.gcd_mul_left, (E4.cop e f : Nat.gcd _ _ = 1), Nat.mul_one]
theorem E4.div (e f : E4) : e.n / (e.min f).n = (e.off f).n := by
  rw [← E4.n_split e f]
  rw [Nat.mul_div_cancel_left _ (E4.n_pos _)]
/-- by each prime -/
theorem nd_of {p m : Nat} (hp : 2 ≤ p) (h : Nat.Coprime p m) : ¬ p ∣ m := fun hd => by
  have h1 : Nat.gcd p m = p := Nat.gcd_eq_left hd
  have h2 : Nat.gcd p m = 1 := h
  omega
theorem E4.p2 (e : E4) : ∃ m, e.n = 2 ^ e.a * m ∧ ¬ 2 ∣ m := ⟨3 ^ e.b * 5 ^ e.c * 7 ^ e.d, by unfold E4.n; ac_rfl, nd_of (by decide) (.mul_right (.mul_right (.pow_right _ (by decide)) (.pow_right _ (by decide))) (.pow_right _ (by decide)))⟩
theorem E4.p3 (e : E4) : ∃ m, e.n = 3 ^ e.b * m ∧ ¬ 3 ∣ m := ⟨2 ^ e.a * 5 ^ e.c * 7 ^ e.d, by unfold E4.n; ac_rfl, nd_of (by decide) (.mul_right (.mul_right (.pow_right _ (by decide)) (.pow_right _ (by decide))) (.pow_right _ (by decide)))⟩
theorem E4.p5 (e : E4) : ∃ m, e.n = 5 ^ e.c * m ∧ ¬ 5 ∣ m := ⟨2 ^ e.a * 3 ^ e.b * 7 ^ e.d, by unfold E4.n; ac_rfl, nd_of (by decide) (.mul_right (.mul_right (.pow_right _ (by decide)) (.pow_right _ (by decide))) (.pow_right _ (by decide)))⟩
theorem E4.p7 (e : E4) : ∃ m, e.n = 7 ^ e.d * m ∧ ¬ 7 ∣ m := ⟨2 ^ e.a * 3 ^ e.b * 5 ^ e.c, by unfold E4.n; ac_rfl, nd_of (by decide) (.mul_right (.mul_right (.pow_right _ (by decide)) (.pow_right _ (by decide))) (.pow_right _ (by decide)))⟩
theorem E4.bd (e : E4) {k : Nat} (h : e.sum ≤ k) : Bd (e.n : Int) (3 * k + 1) := by
  unfold E4.sum at h
  have b : ∀ p : Nat, p ≤ 7 → ∀ m, p ^ m ≤ 8 ^ m := fun p hp m => Nat.pow_le_pow_left (by omega) m
  have : e.n ≤ 8 ^ (e.a + e.b + e.c + e.d) := by
    rw [Nat.pow_add, Nat.pow_add, Nat.pow_add]
    exact Nat.mul_le_mul (Nat.mul_le_mul (Nat.mul_le_mul (b 2 (by decide) _) (b 3 (by decide) _)) (b 5 (by decide) _)) (b 7 (by decide) _)
  unfold Bd
  rw [Int.natAbs_natCast]
  refine Nat.lt_of_le_of_lt this ?_
  rw [show (8 : Nat) = 2 ^ 3 from rfl, ← Nat.pow_mul]
  exact Nat.pow_lt_pow_right (by decide) (by omega)
def E4.up (e : E4) (w : Int) : E4 := if w = 0 then ⟨e.a + 1, e.b, e.c, e.d⟩ else if w = 1 then ⟨e.a, e.b + 1, e.c, e.d⟩ else if w = 2 then ⟨e.a, e.b, e.c + 1, e.d⟩ else ⟨e.a, e.b, e.c, e.d + 1⟩
end CT

set_option maxRecDepth 100000
/-! Texts parted in runs; rows of words. -/
namespace CT
abbrev LET : List Nat := [97, 98, 99, 100, 101, 102, 103, 104, 105, 106, 107, 108, 109, 110, 111, 112, 113, 114, 115, 116, 117, 118, 119, 120, 121, 122]
abbrev FIG : List Nat := [48, 49, 50, 51, 52, 53, 54, 55, 56, 57]
def kind (c : Nat) : Option Bool := if c ∈ LET then some false else if c ∈ FIG then some true else none
theorem let_fig {c : Nat} (h : c ∈ LET) : c ∉ FIG := by
  simp only [LET, List.mem_cons, List.not_mem_nil, or_false] at h
  intro g
  simp only [FIG, List.mem_cons, List.not_mem_nil, or_false] at g
  omega
theorem kind_l {c : Nat} : kind c = some false ↔ c ∈ LET := by
  unfold kind
  split
  · simp [*]
  · split <;> simp [*]
theorem kind_f {c : Nat} : kind c = some true ↔ c ∈ FIG := by
  unfold kind
  split
  · rename_i h; simp [let_fig h]
  · split <;> simp [*]
theorem kind_n {c : Nat} : kind c = none ↔ c ∉ LET ∧ c ∉ FIG := by
  unfold kind
  split
  · simp [*]
  · split <;> simp [*]
def joins (c : Nat) : List Nat → Bool
  | [] => false
  | d :: _ => decide (kind c ≠ none) && decide (kind c = kind d)
/-- signs of a kind side by side put together -/
def grp : List Nat → List (List Nat)
  | [] => []
  | c :: r => match grp r with
    | [] => [[c]]
    | g :: gs => if joins c g then (c :: g) :: gs else [c] :: g :: gs
theorem grp_head : ∀ {s : List Nat} {g : List Nat} {gs : List (List Nat)}, grp s = g :: gs → ∃ c r q, s = c :: r ∧ g = c :: q
  | [], _, _, h => by cases h
  | c :: r, g, gs, h => by
    simp only [grp] at h
    split at h
    · cases h; exact ⟨c, r, [], rfl, rfl⟩
    · split at h
      · cases h; exact ⟨c, r, _, rfl, rfl⟩
      · cases h; exact ⟨c, r, [], rfl, rfl⟩
theorem grp_ne : ∀ s : List Nat, ∀ g ∈ grp s, g ≠ []
  | [], _, h => by cases h
  | c :: r, g, h => by
    simp only [grp] at h
    have ih := grp_ne r
    split at h
    · cases h with
      | head => simp
      | tail _ h => cases h
    · rename_i g0 gs e
      rw [e] at ih
      split at h
      · cases h with
        | head => simp
        | tail _ h => exact ih g (List.mem_cons_of_mem _ h)
      · cases h with
        | head => simp
        | tail _ h => exact ih g h
/-- a sign of no kind stands alone -/
theorem grp_one {c : Nat} (h : kind c = none) (r : List Nat) : grp (c :: r) = [c] :: grp r := by
  simp only [grp]
  split
  · rename_i e; rw [e]
  · rename_i g gs e
    rw [if_neg, e]
    cases g <;> simp [joins, h]
/-- signs of a kind, and what is of another one -/
theorem grp_run {k : Bool} {r : List Nat} (hr : ∀ d r', r = d :: r' → kind d ≠ some k) : ∀ {w : List Nat}, w ≠ [] → (∀ c ∈ w, kind c = some k) → grp (w ++ r) = w :: grp r
  | [], h, _ => absurd rfl h
  | [c], _, hw => by
    have hc := hw c (by simp)
    simp only [List.cons_append, List.nil_append, grp]
    split
    · rename_i e; rw [e]
    · rename_i g gs e
      rw [if_neg, e]
      obtain ⟨d, r', q, rfl, rfl⟩ := grp_head e
      have := hr d r' rfl
      simp only [joins, hc, Bool.and_eq_true, decide_eq_true_eq, not_and]
      exact fun _ z => this z.symm
  | c :: d :: w, _, hw => by
    have ih := grp_run hr (w := d :: w) (by simp) fun x hx => hw x (List.mem_cons_of_mem _ hx)
    rw [List.cons_append, grp, ih]
    have hc := hw c (by simp)
    have hd := hw d (by simp)
    simp only
    rw [if_pos]
    simp [joins, hc, hd]
/-- one sign more behind -/
theorem grp_snoc (c : Nat) : ∀ p : List Nat, grp (p ++ [c]) = if p ≠ [] ∧ kind c ≠ none ∧ p.getLast?.bind kind = kind c then (grp p).dropLast ++ [(grp p).getLastD [] ++ [c]] else grp p ++ [[c]]
  | [] => by simp [grp]
  | [d] => by
    simp only [List.cons_append, List.nil_append, grp]
    by_cases h : kind c ≠ none ∧ kind d = kind c
    · have j : joins d [c] = true := by simp [joins, h.1, h.2]
      rw [j, if_pos rfl, if_pos ⟨by simp, h.1, by simpa using h.2⟩]; rfl
    · have j : joins d [c] = false := by
        simp only [joins, Bool.and_eq_false_iff, decide_eq_false_iff_not]
        by_cases h2 : kind d = kind c
        · exact .inl fun z => h ⟨h2 ▸ z, h2⟩
        · exact .inr h2
      rw [j, if_neg (by simp), if_neg (fun z => h ⟨z.2.1, by simpa using z.2.2⟩)]
  | d :: e :: p => by
    have ih := grp_snoc c (e :: p)
    have nz : grp (e :: p) ≠ [] := by
      intro z
      simp only [grp] at z
      split at z
      · cases z
      · split at z <;> cases z
    obtain ⟨g, gs, eg⟩ : ∃ g gs, grp (e :: p) = g :: gs := by
      cases h : grp (e :: p) with
      | nil => exact absurd h nz
      | cons g gs => exact ⟨g, gs, rfl⟩
    obtain ⟨e', r', q, e1, rfl⟩ := grp_head eg
    cases e1
    have lst : (d :: e :: p).getLast? = (e :: p).getLast? := by simp [List.getLast?_cons_cons]
    rw [List.cons_append, grp, ih, lst]
    have nb : (d :: e :: p : List Nat) ≠ [] := by simp
    have nb2 : (e :: p : List Nat) ≠ [] := by simp
    have ed : grp (d :: e :: p) = if joins d (e :: q) then (d :: e :: q) :: gs else [d] :: (e :: q) :: gs := by rw [grp, eg]
    rw [ed, eg]
    by_cases h : kind c ≠ none ∧ (e :: p).getLast?.bind kind = kind c
    · rw [if_pos ⟨nb2, h⟩, if_pos ⟨nb, h⟩]
      cases gs with
      | nil =>
        have js : joins d (e :: q ++ [c]) = joins d (e :: q) := rfl
        cases j : joins d (e :: q) with
        | true =>
          show (if joins d (e :: q ++ [c]) = true then _ else _) = _
          rw [js, j]; rfl
        | false =>
          show (if joins d (e :: q ++ [c]) = true then _ else _) = _
          rw [js, j]; rfl
      | cons g2 gs =>
        simp only [List.dropLast_cons₂, List.cons_append, List.getLastD_cons]
        by_cases j : joins d (e :: q) = true
        · rw [if_pos j, if_pos j]; simp [List.getLast?_cons]
        · rw [if_neg j, if_neg j]; simp [List.getLast?_cons]
    · rw [if_neg (fun z => h z.2), if_neg (fun z => h z.2)]
      simp only [List.cons_append]
      by_cases j : joins d (e :: q) = true
      · rw [if_pos j, if_pos j]; simp
      · rw [if_neg j, if_neg j]; simp
/-- a run that is a word -/
def isWord (w : List Nat) : Bool := match w with
  | [] => false
  | c :: r => if c ∈ FIG then decide ((c :: r).length < 6) && (decide (c ≠ 48) || decide (r = [])) else decide (c :: r = [47]) || (decide (c ∈ LET) && decide ((c :: r).length < 9))
/-- the rows of runs, or the place of what is no word -/
def due : List (List Nat) → Nat → List (List (List Nat)) → Except Nat (List (List (List Nat)))
  | [], _, rows => .ok rows
  | w :: ws, a, rows => if w = [10] then due ws (a + w.length) (rows ++ [[]]) else if w = [32] then due ws (a + w.length) rows else if isWord w then due ws (a + w.length) (rows.dropLast ++ [rows.getLastD [] ++ [w]]) else .error a
def parse (t : List Nat) : Except Nat (List (List (List Nat))) := due (grp t) 0 [[]]
abbrev tsL (r : List (List Nat)) : D := .lst (r.map .str)
/-- how long the word is that begins there -/
def wlen : List Nat → Nat
  | [] => 0
  | c :: r => if c = 47 then 1 else
    if c ∈ LET then (if ((c :: r).takeWhile (fun c => decide (c ∈ LET))).length ≤ 8 then ((c :: r).takeWhile (fun c => decide (c ∈ LET))).length else 0) else
    if c ∈ FIG then (if ((c :: r).takeWhile (fun c => decide (c ∈ FIG))).length ≤ 5 ∧ (c ≠ 48 ∨ ((c :: r).takeWhile (fun c => decide (c ∈ FIG))).length = 1) then ((c :: r).takeWhile (fun c => decide (c ∈ FIG))).length else 0) else 0
theorem tw_drop {p : Nat → Bool} : ∀ (s : List Nat), ∀ d r', s.dropWhile p = d :: r' → p d = false
  | [], _, _, h => by cases h
  | c :: s, d, r', h => by
    rw [List.dropWhile_cons] at h
    split at h
    · exact tw_drop s d r' h
    · rename_i hc
      cases h
      simpa using hc
theorem tw_all {p : Nat → Bool} : ∀ (s : List Nat), ∀ c ∈ s.takeWhile p, p c = true
  | [], _, h => by cases h
  | c :: s, d, h => by
    rw [List.takeWhile_cons] at h
    split at h
    · cases h with
      | head => assumption
      | tail _ h => exact tw_all s d h
    · cases h
theorem tw_take {p : Nat → Bool} (s : List Nat) : s.take (s.takeWhile p).length = s.takeWhile p ∧ s.drop (s.takeWhile p).length = s.dropWhile p := by
  have h := List.takeWhile_append_dropWhile (p := p) (l := s)
  constructor
  · have z := congrArg (List.take (s.takeWhile p).length) h
    rw [List.take_left] at z
    exact z.symm
  · have z := congrArg (List.drop (s.takeWhile p).length) h
    rw [List.drop_left] at z
    exact z.symm
theorem grp_kind {k : Bool} {sg : List Nat} (hk : ∀ d, kind d = some k ↔ d ∈ sg) {c : Nat} {r : List Nat} (hc : c ∈ sg) :
    grp (c :: r) = (c :: r).takeWhile (fun c => decide (c ∈ sg)) :: grp ((c :: r).drop ((c :: r).takeWhile (fun c => decide (c ∈ sg))).length) ∧ ∃ q, (c :: r).takeWhile (fun c => decide (c ∈ sg)) = c :: q := by
  obtain ⟨q, hq⟩ : ∃ q, (c :: r).takeWhile (fun c => decide (c ∈ sg)) = c :: q := by
    rw [List.takeWhile_cons, if_pos (by simpa using hc)]
    exact ⟨_, rfl⟩
  refine ⟨?_, q, hq⟩
  rw [(tw_take _).2]
  conv => lhs; rw [← List.takeWhile_append_dropWhile (p := fun c => decide (c ∈ sg)) (l := c :: r)]
  refine grp_run (k := k) (fun d r' e z => ?_) (by rw [hq]; simp) (fun d hd => (hk d).mpr (by simpa using tw_all _ d hd))
  have := tw_drop _ d r' e
  simp only [decide_eq_false_iff_not] at this
  exact this ((hk d).mp z)
/-- one step of parting -/
theorem scan_step {c : Nat} {r : List Nat} (h1 : c ≠ 10) (h2 : c ≠ 32) : ∃ w gs, grp (c :: r) = w :: gs ∧ w ≠ [10] ∧ w ≠ [32] ∧
    (isWord w = true → 0 < wlen (c :: r) ∧ w = (c :: r).take (wlen (c :: r)) ∧ gs = grp ((c :: r).drop (wlen (c :: r))) ∧ wlen (c :: r) = w.length) ∧ (isWord w = false → wlen (c :: r) = 0) := by
  by_cases hl : c ∈ LET
  · obtain ⟨hg, q, hq⟩ := grp_kind (k := false) (fun d => kind_l) (r := r) hl
    have n47 : c ≠ 47 := fun z => by rw [z] at hl; revert hl; decide
    have nf := let_fig hl
    refine ⟨_, _, hg, by rw [hq]; simp [h1], by rw [hq]; simp [h2], ?_⟩
    have ew : wlen (c :: r) = if ((c :: r).takeWhile (fun c => decide (c ∈ LET))).length ≤ 8 then ((c :: r).takeWhile (fun c => decide (c ∈ LET))).length else 0 := by
      simp only [wlen, if_neg n47, if_pos hl]
    have iw : isWord ((c :: r).takeWhile (fun c => decide (c ∈ LET))) = decide (((c :: r).takeWhile (fun c => decide (c ∈ LET))).length ≤ 8) := by
      rw [hq]
      simp only [isWord, if_neg nf]
      rw [Bool.eq_iff_iff]
      simp [n47, hl]
      omega
    rw [ew, iw]
    by_cases h8 : ((c :: r).takeWhile (fun c => decide (c ∈ LET))).length ≤ 8
    · rw [if_pos h8]
      exact ⟨fun _ => ⟨by rw [hq]; simp, (tw_take _).1.symm, rfl, rfl⟩, fun z => absurd h8 (of_decide_eq_false z)⟩
    · rw [if_neg h8]
      exact ⟨fun z => absurd (of_decide_eq_true z) h8, fun _ => rfl⟩
  · by_cases hf : c ∈ FIG
    · obtain ⟨hg, q, hq⟩ := grp_kind (k := true) (fun d => kind_f) (r := r) hf
      have n47 : c ≠ 47 := fun z => by rw [z] at hf; revert hf; decide
      refine ⟨_, _, hg, by rw [hq]; simp [h1], by rw [hq]; simp [h2], ?_⟩
      have ew : wlen (c :: r) = if ((c :: r).takeWhile (fun c => decide (c ∈ FIG))).length ≤ 5 ∧ (c ≠ 48 ∨ ((c :: r).takeWhile (fun c => decide (c ∈ FIG))).length = 1) then ((c :: r).takeWhile (fun c => decide (c ∈ FIG))).length else 0 := by
        simp only [wlen, if_neg n47, if_neg hl, if_pos hf]
      have iw : isWord ((c :: r).takeWhile (fun c => decide (c ∈ FIG))) = decide (((c :: r).takeWhile (fun c => decide (c ∈ FIG))).length ≤ 5 ∧ (c ≠ 48 ∨ ((c :: r).takeWhile (fun c => decide (c ∈ FIG))).length = 1)) := by
        rw [hq]
        simp only [isWord, if_pos hf]
        rw [Bool.eq_iff_iff]
        simp
        omega
      rw [ew, iw]
      by_cases h8 : ((c :: r).takeWhile (fun c => decide (c ∈ FIG))).length ≤ 5 ∧ (c ≠ 48 ∨ ((c :: r).takeWhile (fun c => decide (c ∈ FIG))).length = 1)
      · rw [if_pos h8]
        exact ⟨fun _ => ⟨by rw [hq]; simp, (tw_take _).1.symm, rfl, rfl⟩, fun z => absurd h8 (of_decide_eq_false z)⟩
      · rw [if_neg h8]
        exact ⟨fun z => absurd (of_decide_eq_true z) h8, fun _ => rfl⟩
    · refine ⟨[c], grp r, grp_one (kind_n.mpr ⟨hl, hf⟩) r, by simp [h1], by simp [h2], ?_⟩
      by_cases h47 : c = 47
      · subst h47
        exact ⟨fun _ => ⟨by simp [wlen], by simp [wlen], by simp [wlen], by simp [wlen]⟩, fun z => by simp [isWord] at z⟩
      · have iw : isWord [c] = false := by simp [isWord, hf, hl, h47]
        rw [iw]
        exact ⟨fun z => (nomatch z), fun _ => by simp only [wlen, if_neg h47, if_neg hl, if_neg hf]⟩
theorem due_small : ∀ (ws : List (List Nat)) (a m : Nat) (rows out : List (List (List Nat))), due ws a rows = .ok out → (∀ r ∈ rows, r.length ≤ m) → out.length ≤ rows.length + ws.length ∧ ∀ r ∈ out, r.length ≤ m + ws.length
  | [], a, m, rows, out, h, g => by cases h; exact ⟨Nat.le_refl _, g⟩
  | w :: ws, a, m, rows, out, h, g => by
    rw [due] at h
    split at h
    · obtain ⟨h1, h2⟩ := due_small ws _ m _ out h (fun r hr => by
        rcases List.mem_append.mp hr with h | h
        · exact g r h
        · rw [List.mem_singleton.mp h]; exact Nat.zero_le _)
      simp only [List.length_append, List.length_cons, List.length_nil] at h1 ⊢
      exact ⟨by omega, fun r hr => by have := h2 r hr; omega⟩
    · split at h
      · obtain ⟨h1, h2⟩ := due_small ws _ m _ out h g
        simp only [List.length_cons]
        exact ⟨by omega, fun r hr => by have := h2 r hr; omega⟩
      · split at h
        · obtain ⟨h1, h2⟩ := due_small ws _ (m + 1) _ out h (fun r hr => by
            rcases List.mem_append.mp hr with h | h
            · have := g r (List.dropLast_subset _ h); omega
            · rw [List.mem_singleton.mp h, List.length_append, List.length_singleton]
              cases rows with
              | nil => exact Nat.succ_le_succ (Nat.zero_le _)
              | cons r0 rs =>
                have := g ((r0 :: rs).getLastD []) (by rw [List.getLastD_cons, List.getLastD_eq_getLast?]; cases e : rs.getLast? with
                  | none => simp
                  | some z => exact List.mem_cons_of_mem _ (List.mem_of_getLast? e))
                omega)
          simp only [List.length_append, List.length_dropLast, List.length_cons, List.length_nil] at h1 ⊢
          exact ⟨by omega, fun r hr => by have := h2 r hr; omega⟩
        · cases h
/-! ### rows in the store -/
/-- the i-th row's place -/
def ra (b i : Nat) : Nat := if i = 0 then b else b + 1 + i
def rowSt (b : Nat) : List (List (List Nat)) → Store
  | [] => []
  | r :: rs => .lst (r.map .str) :: .lst ((List.range (rs.length + 1)).map fun i => .ref (ra b i)) :: rs.map fun r => .lst (r.map .str)
theorem rowSt_len (b : Nat) {rows : List (List (List Nat))} (h : rows ≠ []) : (rowSt b rows).length = rows.length + 1 := by
  cases rows with
  | nil => exact absurd rfl h
  | cons r rs => simp [rowSt]
theorem row_outer {st : Store} {rows : List (List (List Nat))} (h : rows ≠ []) : (st ++ rowSt st.length rows)[st.length + 1]? = some (.lst ((List.range rows.length).map fun i => .ref (ra st.length i))) := by
  cases rows with
  | nil => exact absurd rfl h
  | cons r rs => rw [List.getElem?_append_right (by omega)]; simp [rowSt]
theorem row_at {st : Store} {rows : List (List (List Nat))} {i : Nat} {r : List (List Nat)} (h : rows[i]? = some r) : (st ++ rowSt st.length rows)[ra st.length i]? = some (.lst (r.map .str)) := by
  cases rows with
  | nil => cases h
  | cons r0 rs =>
    unfold ra
    split
    · rename_i e
      subst e
      rw [List.getElem?_append_right (by omega)]
      simp [rowSt] at h ⊢
      rw [h]
    · rw [List.getElem?_append_right (by omega)]
      obtain ⟨j, rfl⟩ : ∃ j, i = j + 1 := ⟨i - 1, by omega⟩
      simp only [List.getElem?_cons_succ] at h
      rw [show st.length + 1 + (j + 1) - st.length = j + 2 by omega]
      simp [rowSt, h]
theorem row_set {st : Store} {rows : List (List (List Nat))} {i : Nat} {r : List (List Nat)} (h : i < rows.length) : (st ++ rowSt st.length rows).set (ra st.length i) (.lst (r.map .str)) = st ++ rowSt st.length (rows.set i r) := by
  cases rows with
  | nil => cases h
  | cons r0 rs =>
    unfold ra
    split
    · rename_i e
      subst e
      rw [List.set_append_right _ _ (by omega)]
      simp [rowSt]
    · rw [List.set_append_right _ _ (by omega)]
      obtain ⟨j, rfl⟩ : ∃ j, i = j + 1 := ⟨i - 1, by omega⟩
      rw [show st.length + 1 + (j + 1) - st.length = j + 2 by omega]
      simp [rowSt, List.map_set]
theorem row_new {st : Store} {rows : List (List (List Nat))} (h : rows ≠ []) : (st ++ rowSt st.length rows ++ [O.lst []]).set (st.length + 1) (O.lst (((List.range rows.length).map fun i => D.ref (ra st.length i)) ++ [D.ref (st ++ rowSt st.length rows).length])) = st ++ rowSt st.length (rows ++ [[]]) := by
  cases rows with
  | nil => exact absurd rfl h
  | cons r rs =>
    rw [List.append_assoc, List.set_append_right _ _ (by omega)]
    have e : (st ++ rowSt st.length (r :: rs)).length = ra st.length (rs.length + 1) := by
      rw [List.length_append, rowSt_len _ (by simp)]
      simp [ra]
      omega
    rw [e]
    simp [rowSt, List.range_succ]
theorem row_last {rows : List (List (List Nat))} (h : rows ≠ []) (w : List Nat) : rows.set (rows.length - 1) (rows.getLastD [] ++ [w]) = rows.dropLast ++ [rows.getLastD [] ++ [w]] := by
  obtain ⟨rs, r, rfl⟩ : ∃ rs r, rows = rs ++ [r] := ⟨rows.dropLast, rows.getLast h, (List.dropLast_concat_getLast h).symm⟩
  simp [List.getLastD_eq_getLast?]
end CT

set_option maxRecDepth 100000
/-! Figures, small numbers. -/
namespace CT
theorem dig_eq (n : Nat) : dig n = if n < 10 then [48 + n] else dig (n / 10) ++ [48 + n % 10] := by
  have hc : ∀ d, d < 10 → (Nat.digitChar d).toNat = 48 + d := by decide
  unfold dig
  rw [Nat.toDigits_eq_if (by decide)]
  by_cases h : n < 10
  · rw [if_pos h, if_pos h, List.map_cons, List.map_nil, hc n h]
  · rw [if_neg h, if_neg h, List.map_append, List.map_cons, List.map_nil, hc _ (Nat.mod_lt _ (by decide))]
theorem numOf_snoc (s : List Nat) (c : Nat) : numOf (s ++ [c]) = 10 * numOf s + (c - 48) := by simp [numOf, List.foldl_append]
theorem fig_d {d : Nat} (h : d < 10) : 48 + d ∈ FIG := by
  simp only [FIG, List.mem_cons, List.not_mem_nil, or_false]
  omega
theorem dig_spec : ∀ n : Nat, numOf (dig n) = n ∧ (∀ c ∈ dig n, c ∈ FIG) ∧ ∃ c r, dig n = c :: r ∧ (0 < n → c ≠ 48) := by
  intro n
  induction n using Nat.strongRecOn with
  | _ n ih =>
    rw [dig_eq]
    by_cases h : n < 10
    · rw [if_pos h]
      exact ⟨by simp [numOf], fun c hc => by rw [List.mem_singleton.mp hc]; exact fig_d h, _, _, rfl, fun _ => by omega⟩
    · rw [if_neg h]
      obtain ⟨h1, h2, c, r, h3, h4⟩ := ih (n / 10) (by omega)
      refine ⟨by rw [numOf_snoc, h1]; omega, fun x hx => ?_, c, r ++ [48 + n % 10], by rw [h3]; rfl, fun _ => h4 (by omega)⟩
      rcases List.mem_append.mp hx with hx | hx
      · exact h2 x hx
      · rw [List.mem_singleton.mp hx]; exact fig_d (Nat.mod_lt _ (by decide))
theorem dig_ok {n : Nat} (h : n < 10000) : numOf (dig n) = n ∧ (dig n).length ≤ 4 ∧ (∀ c ∈ dig n, c ∈ FIG) ∧ ∃ c r, dig n = c :: r ∧ (c ≠ 48 ∨ r = []) := by
  obtain ⟨h1, h2, c, r, h3, h4⟩ := dig_spec n
  refine ⟨h1, ?_, h2, c, r, h3, ?_⟩
  · unfold dig
    rw [List.length_map]
    exact (Nat.length_toDigits_le_iff (by decide) (by decide)).mpr h
  · by_cases h0 : 0 < n
    · exact .inl (h4 h0)
    · have : n = 0 := by omega
      subst this
      rw [dig_eq, if_pos (by decide)] at h3
      cases h3
      exact .inr rfl
theorem itxt_dig (n : Nat) : itxt (n : Int) = dig n := by
  unfold itxt
  rw [if_neg (by omega), Int.natAbs_natCast]
/-! ### powers in a number -/
theorem split_p {p : Nat} (hp : 2 ≤ p) : ∀ n : Nat, 0 < n → ∃ e m, n = p ^ e * m ∧ ¬ p ∣ m ∧ 0 < m := by
  intro n
  induction n using Nat.strongRecOn with
  | _ n ih =>
    intro hn
    by_cases h : p ∣ n
    · obtain ⟨q, rfl⟩ := h
      have hq : 0 < q := Nat.pos_of_mul_pos_left hn
      have hlt : q < p * q := by
        calc q = 1 * q := (Nat.one_mul q).symm
          _ < p * q := Nat.mul_lt_mul_of_pos_right (by omega) hq
      obtain ⟨e, m, h1, h2, h3⟩ := ih q hlt hq
      exact ⟨e + 1, m, by rw [Nat.pow_succ, Nat.mul_comm (p ^ e) p, Nat.mul_assoc, ← h1], h2, h3⟩
    · exact ⟨0, n, by simp, h, hn⟩
theorem cop_small {p m : Nat} (hp : ∀ d, d ≤ p → d ∣ p → d = 1 ∨ d = p) (h0 : 0 < p) (h : ¬ p ∣ m) : Nat.Coprime p m := by
  rcases hp (Nat.gcd p m) (Nat.le_of_dvd h0 (Nat.gcd_dvd_left ..)) (Nat.gcd_dvd_left ..) with e | e
  · exact e
  · exact absurd (e ▸ Nat.gcd_dvd_right p m) h
theorem pow_le13 {p e v : Nat} (hp : 2 ≤ p) (h : p ^ e ∣ v) (h0 : 0 < v) (hv : v ≤ 9999) : e ≤ 13 := by
  have h1 := Nat.le_of_dvd h0 h
  have h2 : 2 ^ e ≤ p ^ e := Nat.pow_le_pow_left hp e
  by_cases he : e ≤ 13
  · exact he
  · have : 2 ^ 14 ≤ 2 ^ e := Nat.pow_le_pow_right (by decide) (by omega)
    omega
def made (v : Int) : Bool := decide (210 ^ 13 % v = 0)
theorem made_of {a b c d m : Nat} (hv : 2 ^ a * (3 ^ b * (5 ^ c * (7 ^ d * m))) ≤ 9999) (hm : 0 < m) (h2 : ¬ 2 ∣ m) (h3 : ¬ 3 ∣ m) (h5 : ¬ 5 ∣ m) (h7 : ¬ 7 ∣ m) :
    made ((2 ^ a * (3 ^ b * (5 ^ c * (7 ^ d * m))) : Nat) : Int) = decide (m = 1) := by
  have c2 : Nat.Coprime 2 m := cop_small (by decide) (by decide) h2
  have c3 : Nat.Coprime 3 m := cop_small (by decide) (by decide) h3
  have c5 : Nat.Coprime 5 m := cop_small (by decide) (by decide) h5
  have c7 : Nat.Coprime 7 m := cop_small (by decide) (by decide) h7
  have vp : 0 < 2 ^ a * (3 ^ b * (5 ^ c * (7 ^ d * m))) := Nat.mul_pos (Nat.pow_pos (by decide)) (Nat.mul_pos (Nat.pow_pos (by decide)) (Nat.mul_pos (Nat.pow_pos (by decide)) (Nat.mul_pos (Nat.pow_pos (by decide)) hm)))
  unfold made
  rw [Bool.eq_iff_iff, decide_eq_true_eq, decide_eq_true_eq]
  have e210 : (210 : Nat) ^ 13 = 2 ^ 13 * (3 ^ 13 * (5 ^ 13 * 7 ^ 13)) := by decide +kernel
  constructor
  · intro h
    have hd : ((2 ^ a * (3 ^ b * (5 ^ c * (7 ^ d * m))) : Nat) : Int) ∣ ((210 ^ 13 : Nat) : Int) := by
      have := Int.dvd_of_emod_eq_zero h
      exact this
    have hd2 : m ∣ 210 ^ 13 := Nat.dvd_trans ⟨2 ^ a * (3 ^ b * (5 ^ c * 7 ^ d)), by ac_rfl⟩ (Int.natCast_dvd_natCast.mp hd)
    have cc : Nat.Coprime (210 ^ 13) m := by
      rw [e210]
      exact .mul_left (.pow_left _ c2) (.mul_left (.pow_left _ c3) (.mul_left (.pow_left _ c5) (.pow_left _ c7)))
    have : Nat.gcd (210 ^ 13) m = m := Nat.gcd_eq_right hd2
    rw [← this]
    exact cc
  · rintro rfl
    have ha := pow_le13 (p := 2) (by decide) (Nat.dvd_mul_right ..) vp hv
    have hb : b ≤ 13 := pow_le13 (p := 3) (v := 2 ^ a * (3 ^ b * (5 ^ c * (7 ^ d * 1)))) (by decide) ⟨2 ^ a * (5 ^ c * (7 ^ d * 1)), by ac_rfl⟩ vp hv
    have hc : c ≤ 13 := pow_le13 (p := 5) (v := 2 ^ a * (3 ^ b * (5 ^ c * (7 ^ d * 1)))) (by decide) ⟨2 ^ a * (3 ^ b * (7 ^ d * 1)), by ac_rfl⟩ vp hv
    have hd : d ≤ 13 := pow_le13 (p := 7) (v := 2 ^ a * (3 ^ b * (5 ^ c * (7 ^ d * 1)))) (by decide) ⟨2 ^ a * (3 ^ b * (5 ^ c * 1)), by ac_rfl⟩ vp hv
    have : 2 ^ a * (3 ^ b * (5 ^ c * (7 ^ d * 1))) ∣ 210 ^ 13 := by
      rw [e210, Nat.mul_one]
      exact Nat.mul_dvd_mul (Nat.pow_dvd_pow _ ha) (Nat.mul_dvd_mul (Nat.pow_dvd_pow _ hb) (Nat.mul_dvd_mul (Nat.pow_dvd_pow _ hc) (Nat.pow_dvd_pow _ hd)))
    exact Int.emod_eq_zero_of_dvd (Int.natCast_dvd_natCast.mpr this)
/-! ### a number's four powers -/
def vl (p n : Nat) : Nat := ((List.range 14).filter fun i => decide (n % p ^ (i + 1) = 0)).length
def e4 (n : Nat) : E4 := ⟨vl 2 n, vl 3 n, vl 5 n, vl 7 n⟩
theorem flt_lt (e : Nat) : ∀ k : Nat, ((List.range k).filter fun i => decide (i < e)).length = min k e
  | 0 => by simp
  | k + 1 => by
    rw [List.range_succ, List.filter_append, List.length_append, flt_lt e k]
    by_cases h : k < e
    · simp [List.filter_cons, h]; omega
    · simp [List.filter_cons, h]; omega
theorem vl_of {p e m : Nat} (hp : 2 ≤ p) (hm : ¬ p ∣ m) (he : e ≤ 14) : vl p (p ^ e * m) = e := by
  have h : ∀ i, decide (p ^ e * m % p ^ (i + 1) = 0) = decide (i < e) := by
    intro i
    rw [Bool.eq_iff_iff, decide_eq_true_eq, decide_eq_true_eq]
    constructor
    · intro h
      have hd := Nat.dvd_of_mod_eq_zero h
      by_cases hi : i < e
      · exact hi
      · exfalso
        have : p ^ (e + 1) ∣ p ^ e * m := Nat.dvd_trans (Nat.pow_dvd_pow _ (by omega)) hd
        rw [Nat.pow_succ] at this
        exact hm (Nat.dvd_of_mul_dvd_mul_left (Nat.pow_pos (by omega)) this)
    · intro hi
      exact Nat.mod_eq_zero_of_dvd (Nat.dvd_trans (Nat.pow_dvd_pow _ hi) (Nat.dvd_mul_right ..))
  unfold vl
  simp only [h]
  rw [flt_lt]
  omega
theorem e4_n {e : E4} (h : e.n ≤ 9999) : e4 e.n = e := by
  have hp := E4.n_pos e
  obtain ⟨m2, a2, b2⟩ := e.p2
  obtain ⟨m3, a3, b3⟩ := e.p3
  obtain ⟨m5, a5, b5⟩ := e.p5
  obtain ⟨m7, a7, b7⟩ := e.p7
  have l2 : e.a ≤ 13 := pow_le13 (p := 2) (by decide) ⟨m2, a2⟩ hp h
  have l3 : e.b ≤ 13 := pow_le13 (p := 3) (by decide) ⟨m3, a3⟩ hp h
  have l5 : e.c ≤ 13 := pow_le13 (p := 5) (by decide) ⟨m5, a5⟩ hp h
  have l7 : e.d ≤ 13 := pow_le13 (p := 7) (by decide) ⟨m7, a7⟩ hp h
  have r2 : vl 2 e.n = e.a := by rw [a2]; exact vl_of (by decide) b2 (by omega)
  have r3 : vl 3 e.n = e.b := by rw [a3]; exact vl_of (by decide) b3 (by omega)
  have r5 : vl 5 e.n = e.c := by rw [a5]; exact vl_of (by decide) b5 (by omega)
  have r7 : vl 7 e.n = e.d := by rw [a7]; exact vl_of (by decide) b7 (by omega)
  unfold e4
  rw [r2, r3, r5, r7]
/-- a number made of the four alone is what its powers make -/
theorem made_e4 {v : Nat} (h0 : 0 < v) (hv : v ≤ 9999) (h : made (v : Int) = true) : (e4 v).n = v := by
  obtain ⟨a, m1, e1, n1, p1⟩ := split_p (p := 2) (by decide) v h0
  obtain ⟨b, m2, e2, n2, p2⟩ := split_p (p := 3) (by decide) m1 p1
  obtain ⟨c, m3, e3, n3, p3⟩ := split_p (p := 5) (by decide) m2 p2
  obtain ⟨d, m4, e4', n4, p4⟩ := split_p (p := 7) (by decide) m3 p3
  have hv' : v = 2 ^ a * (3 ^ b * (5 ^ c * (7 ^ d * m4))) := by rw [e1, e2, e3, e4']
  have q3 : ¬ 5 ∣ m4 := fun x => n3 (e4' ▸ Nat.dvd_trans x (Nat.dvd_mul_left ..))
  have q2 : ¬ 3 ∣ m4 := fun x => n2 (e3 ▸ Nat.dvd_trans (e4' ▸ Nat.dvd_trans x (Nat.dvd_mul_left ..)) (Nat.dvd_mul_left ..))
  have q1 : ¬ 2 ∣ m4 := fun x => n1 (e2 ▸ Nat.dvd_trans (e3 ▸ Nat.dvd_trans (e4' ▸ Nat.dvd_trans x (Nat.dvd_mul_left ..)) (Nat.dvd_mul_left ..)) (Nat.dvd_mul_left ..))
  have hm := made_of (hv' ▸ hv) p4 q1 q2 q3 n4
  rw [← hv', h] at hm
  have h1 : m4 = 1 := of_decide_eq_true hm.symm
  subst h1
  have : v = E4.n ⟨a, b, c, d⟩ := by rw [hv']; simp only [E4.n]; ac_rfl
  rw [this, e4_n (this ▸ hv)]
theorem e4_made {e : E4} (h : e.n ≤ 9999) : made (e.n : Int) = true := by
  have := made_of (a := e.a) (b := e.b) (c := e.c) (d := e.d) (m := 1) (by simp only [E4.n] at h; rw [Nat.mul_one]; rw [← Nat.mul_assoc, ← Nat.mul_assoc]; exact h) (by decide) (by decide) (by decide) (by decide) (by decide)
  have e1 : 2 ^ e.a * (3 ^ e.b * (5 ^ e.c * (7 ^ e.d * 1))) = e.n := by simp only [E4.n]; ac_rfl
  rw [e1] at this
  rw [this]
  rfl
end CT

set_option maxRecDepth 100000
/-! Texts put together of words. -/
namespace CT
def tok (w : List Nat) : Prop := w ≠ [] ∧ w.length ≤ 600 ∧ (∀ c ∈ w.head?, c ∈ FIG → ∀ d ∈ w, d ∈ FIG)
theorem grp_fig : ∀ (s : List Nat), ∀ g ∈ grp s, ∀ c r, g = c :: r → c ∈ FIG → ∀ d ∈ g, d ∈ FIG
  | [], g, h, _, _, _, _ => by cases h
  | c :: s, g, h, c', r', e, hc => by
    have ih := grp_fig s
    simp only [grp] at h
    split at h
    · rw [List.mem_singleton.mp h] at e ⊢
      cases e
      intro d hd
      rw [List.mem_singleton.mp hd]; exact hc
    · rename_i g0 gs eg
      split at h
      · rename_i hj
        rcases List.mem_cons.mp h with h | h
        · subst h
          cases e
          obtain ⟨d, r, q, es, e0⟩ := grp_head eg
          subst e0
          have hk : kind c = kind d := by simp only [joins, Bool.and_eq_true, decide_eq_true_eq] at hj; exact hj.2
          have hd : d ∈ FIG := kind_f.mp (hk ▸ kind_f.mpr hc)
          intro x hx
          rcases List.mem_cons.mp hx with hx | hx
          · rw [hx]; exact hc
          · exact ih _ (by rw [eg]; exact List.mem_cons_self ..) d q rfl hd x hx
        · exact ih g (by rw [eg]; exact List.mem_cons_of_mem _ h) c' r' e hc
      · rcases List.mem_cons.mp h with h | h
        · subst h
          cases e
          intro d hd
          rw [List.mem_singleton.mp hd]; exact hc
        · exact ih g (by rw [eg]; exact h) c' r' e hc
theorem due_words {Q : List Nat → Prop} : ∀ (ws : List (List Nat)) (a : Nat) (rows out : List (List (List Nat))), due ws a rows = .ok out → (∀ w ∈ ws, isWord w = true → Q w) → (∀ r ∈ rows, ∀ w ∈ r, Q w) → ∀ r ∈ out, ∀ w ∈ r, Q w
  | [], a, rows, out, h, _, g => by cases h; exact g
  | w :: ws, a, rows, out, h, q, g => by
    have q' : ∀ w ∈ ws, isWord w = true → Q w := fun x hx => q x (List.mem_cons_of_mem _ hx)
    rw [due] at h
    split at h
    · refine due_words ws _ _ out h q' fun r hr => ?_
      rcases List.mem_append.mp hr with hr | hr
      · exact g r hr
      · rw [List.mem_singleton.mp hr]; intro x hx; cases hx
    · split at h
      · exact due_words ws _ _ out h q' g
      · split at h
        · rename_i hw
          refine due_words ws _ _ out h q' fun r hr => ?_
          rcases List.mem_append.mp hr with hr | hr
          · exact g r (List.dropLast_subset _ hr)
          · rw [List.mem_singleton.mp hr]
            intro x hx
            rcases List.mem_append.mp hx with hx | hx
            · cases rows with
              | nil => cases hx
              | cons r0 rs => exact g ((r0 :: rs).getLastD []) (by rw [List.getLastD_cons, List.getLastD_eq_getLast?]; cases e : rs.getLast? with
                  | none => simp
                  | some z => exact List.mem_cons_of_mem _ (List.mem_of_getLast? e)) x hx
            · rw [List.mem_singleton.mp hx]; exact q w (List.mem_cons_self ..) hw
        · cases h
theorem word_tok {t w : List Nat} (h : w ∈ grp t) (hw : isWord w = true) : tok w := by
  cases w with
  | nil => cases hw
  | cons c r =>
    refine ⟨by simp, ?_, ?_⟩
    · simp only [isWord] at hw
      split at hw
      · simp only [Bool.and_eq_true, decide_eq_true_eq] at hw; omega
      · simp only [Bool.or_eq_true, Bool.and_eq_true, decide_eq_true_eq] at hw
        rcases hw with hw | hw
        · rw [hw]; decide
        · omega
    · intro c' hc' hf
      cases hc'
      exact grp_fig t _ h c r rfl hf
theorem parse_tok {t : List Nat} {rows : List (List (List Nat))} (h : parse t = .ok rows) : ∀ r ∈ rows, ∀ w ∈ r, tok w :=
  due_words (grp t) 0 [[]] rows h (fun w hw hi => word_tok hw hi) fun r hr w hw => by rw [List.mem_singleton.mp hr] at hw; cases hw
theorem grp_len : ∀ t : List Nat, (grp t).length ≤ t.length ∧ ∀ w ∈ grp t, w.length ≤ t.length
  | [] => ⟨Nat.le_refl _, fun _ h => by cases h⟩
  | c :: r => by
    obtain ⟨h1, h2⟩ := grp_len r
    simp only [grp]
    split
    · rename_i e
      refine ⟨by simp, fun w h => ?_⟩
      rw [List.mem_singleton.mp h]; simp
    · rename_i g gs e
      rw [e] at h1 h2
      split
      · refine ⟨by simp only [List.length_cons] at h1 ⊢; omega, fun w h => ?_⟩
        rcases List.mem_cons.mp h with rfl | h
        · have := h2 g (by simp); simp only [List.length_cons]; omega
        · have := h2 w (List.mem_cons_of_mem _ h); simp only [List.length_cons]; omega
      · refine ⟨by simp only [List.length_cons] at h1 ⊢; omega, fun w h => ?_⟩
        rcases List.mem_cons.mp h with rfl | h
        · simp
        · have := h2 w h; simp only [List.length_cons]; omega
theorem parse_small (t : List Nat) : ∀ rows, parse t = .ok rows → rows.length ≤ t.length + 1 ∧ ∀ r ∈ rows, r.length ≤ t.length := fun rows h => by
  obtain ⟨h1, h2⟩ := due_small (grp t) 0 0 [[]] rows h (by simp)
  have := grp_len t
  simp only [List.length_cons, List.length_nil] at h1
  exact ⟨by omega, fun r hr => by have := h2 r hr; omega⟩
/-! ### pieces of a text -/
/-- pieces that do not run into each other -/
def apart : List (List Nat) → Prop
  | [] => True
  | w :: ws => ((∃ c, w = [c] ∧ kind c = none) ∨ ∃ k, w ≠ [] ∧ (∀ c ∈ w, kind c = some k) ∧ ∀ d r', ws.flatten = d :: r' → kind d ≠ some k) ∧ apart ws
theorem grp_flat : ∀ ps : List (List Nat), apart ps → grp ps.flatten = ps
  | [], _ => rfl
  | w :: ws, ⟨h, hs⟩ => by
    rw [List.flatten_cons]
    rcases h with ⟨c, rfl, hc⟩ | ⟨k, h1, h2, h3⟩
    · rw [List.singleton_append, grp_one hc, grp_flat ws hs]
    · rw [grp_run (k := k) h3 h1 h2, grp_flat ws hs]
end CT

set_option maxRecDepth 100000
/-! Lines of words, put together as a text. -/
namespace CT
/-- a word of letters, of figures, or the mark -/
def Wd (w : List Nat) : Prop := isWord w = true ∧ (w = [47] ∨ ∃ k, w ≠ [] ∧ ∀ c ∈ w, kind c = some k)
def PieceOk (w : List Nat) : Prop := (∃ c, w = [c] ∧ kind c = none) ∨ ∃ k, w ≠ [] ∧ ∀ c ∈ w, kind c = some k
theorem Wd.ne {w : List Nat} (h : Wd w) : w ≠ [] := by rcases h.2 with h | ⟨_, h, _⟩ <;> simp [h]
theorem Wd.piece {w : List Nat} (h : Wd w) : PieceOk w := by
  rcases h.2 with h | h
  · exact .inl ⟨47, h, by decide⟩
  · exact .inr h
theorem Wd.nb {w : List Nat} (h : Wd w) : w ≠ [10] ∧ w ≠ [32] := by
  constructor <;> (rintro rfl; exact absurd h.1 (by decide))
theorem apart_snoc : ∀ (ps : List (List Nat)) {w : List Nat}, apart ps → PieceOk w → (∀ c ∈ ps.flatten.getLast?, ∀ d ∈ w.head?, kind c = none ∨ kind c ≠ kind d) → apart (ps ++ [w])
  | [], w, _, hw, _ => by
    refine ⟨?_, trivial⟩
    rcases hw with hw | ⟨k, h1, h2⟩
    · exact .inl hw
    · exact .inr ⟨k, h1, h2, fun d r' h => by cases h⟩
  | p :: ps, w, ⟨h1, h2⟩, hw, hl => by
    have hne : w ≠ [] := by rcases hw with ⟨c, rfl, _⟩ | ⟨_, h, _⟩ <;> simp_all
    refine ⟨?_, apart_snoc ps h2 hw fun c hc => hl c ?_⟩
    · rcases h1 with h1 | ⟨k, h1, h3, h4⟩
      · exact .inl h1
      · refine .inr ⟨k, h1, h3, fun d r' e => ?_⟩
        replace e : (ps ++ [w]).flatten = d :: r' := e
        cases hf : ps.flatten with
        | cons x xs => rw [List.flatten_append, hf] at e; cases e; exact h4 d xs hf
        | nil =>
          rw [List.flatten_append, hf] at e
          simp only [List.nil_append, List.flatten_cons, List.flatten_nil, List.append_nil] at e
          obtain ⟨c, hc⟩ : ∃ c, p.getLast? = some c := ⟨p.getLast h1, List.getLast?_eq_some_getLast h1⟩
          have hcm : c ∈ p := List.mem_of_getLast? hc
          have := hl c (by rw [List.flatten_cons, hf, List.append_nil]; exact hc) d (by rw [e]; rfl)
          rw [h3 c hcm] at this
          rcases this with z | z
          · cases z
          · exact fun y => z y.symm
    · rw [List.flatten_cons]
      rw [Option.mem_def] at hc ⊢
      rw [List.getLast?_append, hc]; rfl
theorem apart_app : ∀ (ps : List (List Nat)) {qs : List (List Nat)}, apart ps → apart qs → (∀ d r', qs.flatten = d :: r' → kind d = none) → apart (ps ++ qs)
  | [], qs, _, h, _ => h
  | p :: ps, qs, ⟨h1, h2⟩, hq, hn => by
    refine ⟨?_, apart_app ps h2 hq hn⟩
    rcases h1 with h1 | ⟨k, h1, h3, h4⟩
    · exact .inl h1
    · refine .inr ⟨k, h1, h3, fun d r' e => ?_⟩
      replace e : (ps ++ qs).flatten = d :: r' := e
      rw [List.flatten_append] at e
      cases hf : ps.flatten with
      | cons x xs => rw [hf] at e; cases e; exact h4 d xs hf
      | nil =>
        rw [hf] at e
        rw [hn d r' e]
        simp
/-- pieces put behind rows -/
def putP : List (List Nat) → List (List (List Nat)) → List (List (List Nat))
  | [], rows => rows
  | w :: ws, rows => if w = [10] then putP ws (rows ++ [[]]) else if w = [32] then putP ws rows else putP ws (rows.dropLast ++ [rows.getLastD [] ++ [w]])
theorem due_put : ∀ (ps : List (List Nat)) (a : Nat) (rows : List (List (List Nat))), (∀ w ∈ ps, w = [10] ∨ w = [32] ∨ isWord w = true) → due ps a rows = .ok (putP ps rows)
  | [], a, rows, _ => rfl
  | w :: ws, a, rows, h => by
    have ih := fun a rows => due_put ws a rows fun x hx => h x (List.mem_cons_of_mem _ hx)
    rw [due, putP]
    split
    · exact ih _ _
    · split
      · exact ih _ _
      · rcases h w (List.mem_cons_self ..) with h | h | h
        · contradiction
        · contradiction
        · rw [if_pos h]; exact ih _ _
theorem putP_app : ∀ (ps qs : List (List Nat)) (rows : List (List (List Nat))), putP (ps ++ qs) rows = putP qs (putP ps rows)
  | [], qs, rows => rfl
  | w :: ws, qs, rows => by
    rw [List.cons_append, putP, putP]
    split
    · exact putP_app ws qs _
    · split <;> exact putP_app ws qs _
/-- a line and its words -/
def LineP (l : List Nat) (ws : List (List Nat)) : Prop := ∃ ps : List (List Nat), l = ps.flatten ∧ apart ps ∧ (∀ w ∈ ps, w = [32] ∨ Wd w) ∧ ps.filter (fun w => decide (w ≠ [32])) = ws
theorem put_line : ∀ (ps : List (List Nat)) (R : List (List (List Nat))) (r : List (List Nat)), (∀ w ∈ ps, w = [32] ∨ Wd w) → putP ps (R ++ [r]) = R ++ [r ++ ps.filter (fun w => decide (w ≠ [32]))]
  | [], R, r, _ => by simp [putP]
  | w :: ws, R, r, h => by
    have hw := h w (List.mem_cons_self ..)
    have ih := fun r => put_line ws R r fun x hx => h x (List.mem_cons_of_mem _ hx)
    rw [putP]
    rcases hw with rfl | hw
    · rw [if_neg (by decide), if_pos rfl, ih, List.filter_cons, if_neg (by decide)]
    · rw [if_neg hw.nb.1, if_neg hw.nb.2, List.dropLast_concat, List.filter_cons, if_pos (by simpa using hw.nb.2)]
      have : (R ++ [r]).getLastD [] = r := by simp [List.getLastD_eq_getLast?]
      rw [this, ih, List.append_assoc]; rfl
theorem LineP.nil : LineP [] [] := ⟨[], rfl, trivial, (fun _ h => by cases h), rfl⟩
theorem blanks_apart : ∀ n : Nat, apart (List.replicate n [32])
  | 0 => trivial
  | n + 1 => ⟨.inl ⟨32, rfl, by decide⟩, blanks_apart n⟩
theorem blanks_flat (n : Nat) : (List.replicate n [32]).flatten = List.replicate n 32 := by
  induction n with
  | zero => rfl
  | succ n ih => rw [List.replicate_succ, List.flatten_cons, ih, List.replicate_succ]; rfl
/-- blanks behind -/
theorem LineP.blanks {l : List Nat} {ws : List (List Nat)} (h : LineP l ws) (n : Nat) : LineP (l ++ List.replicate n 32) ws := by
  obtain ⟨ps, rfl, h1, h2, rfl⟩ := h
  refine ⟨ps ++ List.replicate n [32], by rw [List.flatten_append, blanks_flat], apart_app ps h1 (blanks_apart n) fun d r' e => ?_, fun w hw => ?_, ?_⟩
  · rw [blanks_flat] at e
    have : d ∈ List.replicate n 32 := by rw [e]; exact List.mem_cons_self ..
    rw [(List.mem_replicate.mp this).2]; decide
  · rcases List.mem_append.mp hw with hw | hw
    · exact h2 w hw
    · exact .inl (List.mem_replicate.mp hw).2
  · rw [List.filter_append]
    have : (List.replicate n [32]).filter (fun w : List Nat => decide (w ≠ [32])) = [] := by
      rw [List.filter_eq_nil_iff]
      intro w hw
      rw [(List.mem_replicate.mp hw).2]; decide
    rw [this, List.append_nil]
/-- a word behind -/
theorem LineP.word {l w : List Nat} {ws : List (List Nat)} (h : LineP l ws) (hw : Wd w) (hb : ∀ c ∈ l.getLast?, ∀ d ∈ w.head?, kind c = none ∨ kind c ≠ kind d) : LineP (l ++ w) (ws ++ [w]) := by
  obtain ⟨ps, rfl, h1, h2, rfl⟩ := h
  refine ⟨ps ++ [w], by simp, apart_snoc ps h1 hw.piece hb, fun x hx => ?_, ?_⟩
  · rcases List.mem_append.mp hx with hx | hx
    · exact h2 x hx
    · rw [List.mem_singleton.mp hx]; exact .inr hw
  · rw [List.filter_append]
    simp [hw.nb.2]
/-- lines and their words, one by one -/
inductive Lines : List (List Nat) → List (List (List Nat)) → Prop
  | nil : Lines [] []
  | cons {l : List Nat} {ws : List (List Nat)} {ls : List (List Nat)} {rs : List (List (List Nat))} : LineP l ws → Lines ls rs → Lines (l :: ls) (ws :: rs)
theorem Lines.snoc {ls : List (List Nat)} {rs : List (List (List Nat))} (h : Lines ls rs) {l : List Nat} {ws : List (List Nat)} (g : LineP l ws) : Lines (ls ++ [l]) (rs ++ [ws]) := by
  induction h with
  | nil => exact .cons g .nil
  | cons a _ ih => exact .cons a ih
theorem Lines.app {ls : List (List Nat)} {rs : List (List (List Nat))} (h : Lines ls rs) {ls' : List (List Nat)} {rs' : List (List (List Nat))} (g : Lines ls' rs') : Lines (ls ++ ls') (rs ++ rs') := by
  induction h with
  | nil => exact g
  | cons a _ ih => exact .cons a ih
theorem lines_pieces {l : List Nat} {ws : List (List Nat)} {ls : List (List Nat)} {rs : List (List (List Nat))} (h : Lines (l :: ls) (ws :: rs)) :
    ∃ ps : List (List Nat), joinL [10] (l :: ls) = ps.flatten ∧ apart ps ∧ (∀ w ∈ ps, w = [10] ∨ w = [32] ∨ isWord w = true) ∧ ∀ R, putP ps (R ++ [[]]) = R ++ ws :: rs := by
  induction ls generalizing l ws rs with
  | nil =>
    cases h with
    | cons h g =>
      cases g
      obtain ⟨ps, rfl, h1, h2, rfl⟩ := h
      refine ⟨ps, rfl, h1, fun w hw => .inr ((h2 w hw).imp id (·.1)), fun R => ?_⟩
      rw [put_line ps R [] h2]; rfl
  | cons l2 ls ih =>
    cases h with
    | cons h g =>
      cases rs with
      | nil => cases g
      | cons ws2 rs =>
        obtain ⟨qs, e1, e2, e3, e4⟩ := ih g
        obtain ⟨ps, rfl, h1, h2, rfl⟩ := h
        refine ⟨ps ++ [10] :: qs, ?_, apart_app ps h1 ⟨.inl ⟨10, rfl, by decide⟩, e2⟩ ?_, ?_, ?_⟩
        · rw [joinL, e1]
          · simp
          · simp
        · intro d r' e
          rw [List.flatten_cons] at e
          cases e
          decide
        · intro w hw
          rcases List.mem_append.mp hw with hw | hw
          · exact .inr ((h2 w hw).imp id (·.1))
          · rcases List.mem_cons.mp hw with hw | hw
            · exact .inl hw
            · exact e3 w hw
        · intro R
          rw [putP_app, put_line ps R [] h2, putP, if_pos rfl, e4, List.append_assoc]; rfl
/-- a text of lines is read as their words -/
theorem parse_lines {ls : List (List Nat)} {rs : List (List (List Nat))} (h : Lines ls rs) : parse (joinL [10] ls) = .ok (if rs = [] then [[]] else rs) := by
  cases h with
  | nil => rfl
  | cons h g =>
    obtain ⟨ps, e1, e2, e3, e4⟩ := lines_pieces (.cons h g)
    rw [parse, e1, grp_flat ps e2, due_put _ _ _ e3]
    have := e4 []
    rw [List.nil_append, List.nil_append] at this
    rw [this, if_neg (by simp)]
theorem joinL_len (c : Nat) : ∀ ls : List (List Nat), (joinL [c] ls).length ≤ (ls.map fun l => l.length + 1).sum
  | [] => Nat.zero_le _
  | [x] => by simp [joinL]
  | x :: y :: l => by
    have := joinL_len c (y :: l)
    rw [joinL]
    · simp only [List.length_append, List.length_singleton, List.map_cons, List.sum_cons] at this ⊢; omega
    · simp
/-- rows with empty ones ahead, and where they stand -/
def spread (l : List (Nat × List (List Nat))) : List (List (List Nat)) := l.flatMap fun x => List.replicate x.1 [] ++ [x.2]
def plc : Nat → List (Nat × List (List Nat)) → List Nat
  | _, [] => []
  | i, (g, _) :: r => (i + g) :: plc (i + g + 1) r
theorem spread_len (x : Nat × List (List Nat)) (l : List (Nat × List (List Nat))) : (spread (x :: l)).length = x.1 + 1 + (spread l).length := by simp [spread]; omega
theorem plc_snoc (g : Nat) (w : List (List Nat)) : ∀ (l : List (Nat × List (List Nat))) (i : Nat), plc i (l ++ [(g, w)]) = plc i l ++ [i + (spread l).length + g]
  | [], i => by simp [plc, spread]
  | x :: l, i => by
    obtain ⟨g', w'⟩ := x
    rw [List.cons_append, plc, plc, plc_snoc g w l, spread_len, List.cons_append]
    simp only [Nat.add_assoc]
theorem spread_snoc (g : Nat) (w : List (List Nat)) (l : List (Nat × List (List Nat))) : spread (l ++ [(g, w)]) = spread l ++ (List.replicate g [] ++ [w]) := by simp [spread]
theorem plc_len : ∀ (l : List (Nat × List (List Nat))) (i : Nat), (plc i l).length = l.length
  | [], _ => rfl
  | (_, _) :: l, i => by rw [plc, List.length_cons, plc_len l, List.length_cons]
theorem leave_tup {st st' s : Store} {ds : List D} {d' : D} (h : fz st.length st' 4 (.tup ds) = some d') (ht : trunc st st' = some s) : leave .fz st (.tup ds) st' = .ok d' s := by
  simp only [leave, h, ht]
theorem fz_tup {b n : Nat} {st : Store} {ds es : List D} (h : allSome (ds.map (fz b st n)) = some es) (hp : D.pures ds = false) : fz b st (n + 1) (.tup ds) = some (.tup es) := by
  rw [fz]
  simp only [D.pure, hp, Bool.false_eq_true, if_false, h, Option.map_some]
/-- the store behind: one object changed, others new -/
theorem trunc_setA {st L : Store} {a : Nat} {o : O} (h : o.pure = true) : trunc st (st.set a o ++ L) = some (st.set a o) := by
  have e : truncOk st (st.set a o ++ L) = true := by
    unfold truncOk
    simp only [List.length_append, List.length_set, Nat.le_add_right, decide_true, Bool.true_and, List.all_eq_true, List.mem_range, Bool.or_eq_true, decide_eq_true_eq]
    intro b hb
    rw [List.getElem?_append_left (by rw [List.length_set]; exact hb)]
    by_cases hab : a = b
    · subst hab
      right
      rw [List.getElem?_set_self hb]
      exact h
    · left; rw [List.getElem?_set_ne hab]
  unfold trunc
  rw [e, if_pos rfl]
  have : st.length = (st.set a o).length := by simp
  rw [this, List.take_left]
end CT

set_option maxRecDepth 100000
/-! Equations with conditions that omega shows; comprehensions by what they make. -/
namespace CT
theorem bn_saddc (a b : List Nat) (h : a.length + b.length ≤ 16777216) : binD .add (.str a) (.str b) = some (.str (a ++ b)) := by rw [bn_sadd, if_pos h]
theorem bn_laddc (a b : List D) (h : a.length + b.length ≤ 16777216) : binD .add (.lst a) (.lst b) = some (.lst (a ++ b)) := by rw [bn_ladd, if_pos h]
theorem bn_taddc (a b : List D) (h : a.length + b.length ≤ 16777216) : binD .add (.tup a) (.tup b) = some (.tup (a ++ b)) := by rw [bn_tadd, if_pos h]
theorem bn_smul0 (a : List Nat) : binD .mul (.str a) (.int 0) = some (.str []) := by rw [bn_smul, if_pos ⟨by decide, by decide, by simp⟩]; rfl
theorem bn_smul1c (a : List Nat) (h : a.length ≤ 16777216) : binD .mul (.str a) (.int 1) = some (.str a) := by rw [bn_smul, if_pos ⟨by decide, by decide, by simpa using h⟩]; simp [rep]
theorem bn_lmul0 (a : List D) : binD .mul (.lst a) (.int 0) = some (.lst []) := by rw [bn_lmul, if_pos ⟨by decide, by decide, by simp⟩]; rfl
theorem bn_lmul1c (a : List D) (h : a.length ≤ 16777216) : binD .mul (.lst a) (.int 1) = some (.lst a) := by rw [bn_lmul, if_pos ⟨by decide, by decide, by simpa using h⟩]; simp [rep]
theorem lcKc (m : Bool) (ds : List D) (st : Store) (h : ds.length ≤ 16777216) : lcK m ds st = fin m (.lst ds) st := if_pos h
theorem bi_lst_lc (rp) (xs : List D) (h : xs.length ≤ 16777216) : biD rp .list [.lst xs] = some (.lst xs) := by rw [bi_lst_l, if_pos h]
theorem bi_lst_tc (rp) (xs : List D) (h : xs.length ≤ 16777216) : biD rp .list [.tup xs] = some (.lst xs) := by rw [bi_lst_t, if_pos h]
theorem bi_str_ic (rp) (i : Int) (h : i.natAbs < 18446744073709551616) : biD rp .str [.int i] = some (.str (itxt i)) := by
  rw [bi_str_i, if_pos (Nat.lt_of_lt_of_le h (Nat.le_trans (Nat.le_of_eq (show 18446744073709551616 = 2 ^ 64 by decide)) (Nat.pow_le_pow_right (by decide) (by decide))))]
theorem rng1Kc {n : Int} (st : Store) (h0 : -1099511627776 < n) (h : n < 1099511627776) : rng1K (.int n) st = .ok (rngL 0 n.toNat 1, none) st := rng1K_i st (smallII h0 h)
theorem rng2Kc {i n : Int} (st : Store) (h0 : -1099511627776 < n) (h : n < 1099511627776) (h2 : -1099511627776 < i) (h3 : i < 1099511627776) : rng2K (.int i) (.int n) st = .ok (rngL i (n - i).toNat 1, none) st := rng2K_i st (smallII h2 h3) (smallII h0 h)
theorem rng3Kc {i n k : Int} (st : Store) (h0 : -1099511627776 < n) (h : n < 1099511627776) (h2 : -1099511627776 < i) (h3 : i < 1099511627776) (h4 : 0 < k) (h5 : k < 1048576) : rng3K (.int i) (.int n) (.int k) st = .ok (rngL i (rngN i n k) k, none) st := rng3K_i st (smallII h2 h3) (smallII h0 h) h4 h5
theorem mulOk_lc {i j : Int} (h : i.natAbs < 18446744073709551616) : mulOk i j = true := mulOk_l h
theorem mulOk_rc {i j : Int} (h : j.natAbs < 18446744073709551616) : mulOk i j = true := mulOk_r h
theorem divOk_c {j : Int} (h : 0 < j) (h2 : j < 18446744073709551616) : divOk j = true := divOk_s h h2
theorem bn_modc (i j : Int) (h : 0 < j) : binD .mod (.int i) (.int j) = some (.int (i % j)) := by rw [bn_mod, if_pos h]
section
variable {σ : Env} {st : Store}
/-- a comprehension of one value each, that changes nothing -/
theorem wR_lcMap {α : Type} {el : Env → Store → R D} {c : Env → Store → R Bool} {g : G} {src : Option (Nat × O)} {Q : List D → Store → Prop} {X : Nat → List D → Store → Prop} (xs : List α) (q f : α → D) (hsrc : srcB st src = true)
    (h : ∀ x ∈ xs, ∃ σ1, bindG g (q x) σ = some σ1 ∧ c σ1 st = .ok true st ∧ el σ1 st = .ok (f x) st) (hq : Q (xs.map f) st) : wR (lcL el c g src σ (xs.map q) st) Q X := by
  rw [lc_mapW hsrc q f xs h]; exact .ok hq
theorem lc_filt {α : Type} {el : Env → Store → R D} {c : Env → Store → R Bool} {g : G} {src : Option (Nat × O)} (hsrc : srcB st src = true) (q f : α → D) (p : α → Bool) : ∀ xs : List α,
    (∀ x ∈ xs, ∃ σ1, bindG g (q x) σ = some σ1 ∧ c σ1 st = .ok (p x) st ∧ (p x = true → el σ1 st = .ok (f x) st)) → lcL el c g src σ (xs.map q) st = .ok ((xs.filter p).map f) st
  | [], _ => by simp only [List.map_nil, List.filter_nil, lcL]
  | x :: xs, h => by
    obtain ⟨σ1, h1, h2, h3⟩ := h x (List.mem_cons_self ..)
    have ih := lc_filt (c := c) hsrc q f p xs fun y hy => h y (List.mem_cons_of_mem _ hy)
    cases hp : p x with
    | true =>
      rw [hp] at h2
      simp only [List.map_cons, lcL, h1, h2, h3 hp, hsrc, if_true, ih, R.bind, List.filter_cons, hp]
    | false =>
      rw [hp] at h2
      simp only [List.map_cons, lcL, h1, h2, hsrc, if_true, ih, List.filter_cons, hp, Bool.false_eq_true, if_false]
/-- .. of those that a condition lets by -/
theorem wR_lcFilt {α : Type} {el : Env → Store → R D} {c : Env → Store → R Bool} {g : G} {src : Option (Nat × O)} {Q : List D → Store → Prop} {X : Nat → List D → Store → Prop} (xs : List α) (q f : α → D) (p : α → Bool) (hsrc : srcB st src = true)
    (h : ∀ x ∈ xs, ∃ σ1, bindG g (q x) σ = some σ1 ∧ c σ1 st = .ok (p x) st ∧ (p x = true → el σ1 st = .ok (f x) st)) (hq : Q ((xs.filter p).map f) st) : wR (lcL el c g src σ (xs.map q) st) Q X := by
  rw [lc_filt hsrc q f p xs h]; exact .ok hq
end
theorem join_line : ∀ {ws : List (List Nat)}, (∀ w ∈ ws, Wd w) → LineP (joinL [32] ws) ws
  | [], _ => .nil
  | [w], h => by
    have := LineP.nil.word (h w (by simp)) (fun c hc => by cases hc)
    simpa [joinL] using this
  | w :: x :: ws, h => by
    obtain ⟨ps, e, h1, h2, h3⟩ := join_line (ws := x :: ws) fun y hy => h y (List.mem_cons_of_mem _ hy)
    have hw := h w (by simp)
    refine ⟨w :: [32] :: ps, by rw [joinL]; rw [e]; simp; simp, ⟨?_, .inl ⟨32, rfl, by decide⟩, h1⟩, fun y hy => ?_, ?_⟩
    · rcases hw.piece with z | ⟨k, z1, z2⟩
      · exact .inl z
      · exact .inr ⟨k, z1, z2, fun d r' z => by cases z; have e32 : kind 32 = none := by decide
                                                rw [e32]; simp⟩
    · rcases List.mem_cons.mp hy with rfl | hy
      · exact .inr hw
      · rcases List.mem_cons.mp hy with rfl | hy
        · exact .inl rfl
        · exact h2 y hy
    · rw [List.filter_cons, if_pos (by simpa using hw.nb.2), List.filter_cons, if_neg (by decide), h3]
theorem join_len8 : ∀ {ws : List (List Nat)}, (∀ w ∈ ws, w.length ≤ 8) → (joinL [32] ws).length ≤ 9 * ws.length := fun {ws} h => by
  refine Nat.le_trans (joinL_len 32 ws) ?_
  induction ws with
  | nil => exact Nat.le_refl _
  | cons w ws ih =>
    have := ih fun y hy => h y (List.mem_cons_of_mem _ hy)
    have := h w (by simp)
    simp only [List.map_cons, List.sum_cons, List.length_cons]; omega
mutual
theorem eqv_refl : ∀ (n : Nat) (d : D), D.plain n d = true → D.eqv d d = true
  | _, .non, _ => rfl
  | _, .bl b, _ => by simp [D.eqv]
  | _, .int b, _ => by simp [D.eqv]
  | _, .str b, _ => by simp [D.eqv]
  | n, .tup ds, h => by
    cases n with
    | zero => simp [D.plain] at h
    | succ n => simp only [D.plain] at h; simp only [D.eqv]; exact eqvs_refl n ds h
  | n, .lst ds, h => by
    cases n with
    | zero => simp [D.plain] at h
    | succ n => simp only [D.plain] at h; simp only [D.eqv]; exact eqvs_refl n ds h
  | n, .dct _, h => by cases n <;> simp [D.plain] at h
  | n, .obj _ _, h => by cases n <;> simp [D.plain] at h
  | n, .exc _ _, h => by cases n <;> simp [D.plain] at h
  | n, .fn _, h => by cases n <;> simp [D.plain] at h
  | n, .ref _, h => by cases n <;> simp [D.plain] at h
theorem eqvs_refl : ∀ (n : Nat) (ds : List D), D.plains n ds = true → D.eqvs ds ds = true
  | _, [], _ => rfl
  | n, d :: ds, h => by
    simp only [D.plains, Bool.and_eq_true] at h
    simp only [D.eqvs, eqv_refl n d h.1, eqvs_refl n ds h.2, Bool.and_self]
end
theorem plains_mapc {α : Type} {f : α → D} {m : Nat} : ∀ {l : List α}, (∀ x ∈ l, D.plain m (f x) = true) → D.plains m (l.map f) = true
  | [], _ => by simp [D.plains]
  | x :: l, h => by
    simp only [List.map_cons, D.plains, h x (List.mem_cons_self ..), plains_mapc fun y hy => h y (List.mem_cons_of_mem _ hy), Bool.and_self]
theorem pl_tup (n : Nat) (ds : List D) : D.plain (n + 1) (.tup ds) = D.plains n ds := by simp only [D.plain]
theorem pl_lst (n : Nat) (ds : List D) : D.plain (n + 1) (.lst ds) = D.plains n ds := by simp only [D.plain]
theorem pls_cons (n : Nat) (d : D) (ds : List D) : D.plains n (d :: ds) = (D.plain n d && D.plains n ds) := by simp only [D.plains]
theorem eqvs_consD (a b : D) (as bs : List D) : D.eqvs (a :: as) (b :: bs) = (D.eqv a b && D.eqvs as bs) := by simp only [D.eqvs]
theorem eqv_tupD (as bs : List D) : D.eqv (.tup as) (.tup bs) = D.eqvs as bs := by simp only [D.eqv]
theorem eqv_lstD (as bs : List D) : D.eqv (.lst as) (.lst bs) = D.eqvs as bs := by simp only [D.eqv]
theorem eqvs_nilD : D.eqvs [] [] = true := by simp only [D.eqvs]
theorem ixl0 {α : Type} (a : α) (l : List α) : ixD (a :: l) 0 = some a := rfl
theorem ixl1 {α : Type} (a b : α) (l : List α) : ixD (a :: b :: l) 1 = some b := rfl
theorem ixl2 {α : Type} (a b c : α) (l : List α) : ixD (a :: b :: c :: l) 2 = some c := rfl
theorem ixl3 {α : Type} (a b c d : α) (l : List α) : ixD (a :: b :: c :: d :: l) 3 = some d := rfl
theorem ixl4 {α : Type} (a b c d e : α) (l : List α) : ixD (a :: b :: c :: d :: e :: l) 4 = some e := rfl
theorem ixl5 {α : Type} (a b c d e f : α) (l : List α) : ixD (a :: b :: c :: d :: e :: f :: l) 5 = some f := rfl
theorem map_get {α β : Type} {f : α → β} {xs : List α} {i : Nat} {d : β} (h : (xs.map f)[i]? = some d) : ∃ x, xs[i]? = some x ∧ d = f x := by
  rw [List.getElem?_map] at h
  obtain ⟨x, h1, h2⟩ := Option.map_eq_some_iff.mp h
  exact ⟨x, h1, h2.symm⟩
theorem take_snoc {α : Type} {xs : List α} {i : Nat} {x : α} (h : xs[i]? = some x) : xs.take (i + 1) = xs.take i ++ [x] := by rw [List.take_succ, h]; rfl
theorem zip_map {α : Type} (f g : α → D) : ∀ l : List α, zipD (l.map f) (l.map g) = l.map fun x => .tup [f x, g x]
  | [] => rfl
  | x :: l => by simp [zipD, zip_map f g l]
theorem zip_fs {α β : Type} : ∀ l : List (α × β), l = (l.map (·.1)).zip (l.map (·.2))
  | [] => rfl
  | x :: l => by rw [List.map_cons, List.map_cons, List.zip_cons_cons, ← zip_fs l]
theorem rngL_cons (lo : Int) (n : Nat) : rngL lo (n + 1) 1 = .int lo :: rngL (lo + 1) n 1 := by
  simp only [rngL, List.range_succ_eq_map, List.map_cons, List.map_map]
  congr 1
  · simp
  · apply List.map_congr_left
    intro i _
    simp only [Function.comp, Int.natCast_succ]
    congr 1
    omega
theorem enm_get {xs : List D} {i : Nat} {d : D} (h : (zipD (rngL 0 xs.length 1) xs)[i]? = some d) : ∃ x, xs[i]? = some x ∧ d = .tup [.int i, x] := by
  have go : ∀ (xs : List D) (j i : Nat) (d : D), (zipD (rngL j xs.length 1) xs)[i]? = some d → ∃ x, xs[i]? = some x ∧ d = .tup [.int ((j + i : Nat) : Int), x] := by
    intro xs
    induction xs with
    | nil => intro j i d h; cases h
    | cons x xs ih =>
      intro j i d h
      rw [List.length_cons, rngL_cons, zipD] at h
      cases i with
      | zero => cases h; exact ⟨x, rfl, rfl⟩
      | succ i =>
        rw [List.getElem?_cons_succ] at h
        obtain ⟨y, h1, h2⟩ := ih (j + 1) i d h
        exact ⟨y, by rw [List.getElem?_cons_succ]; exact h1, by rw [h2]; congr 3; omega⟩
  obtain ⟨x, h1, h2⟩ := go xs 0 i d h
  exact ⟨x, h1, by rw [h2, Nat.zero_add]⟩
theorem enm_len (xs : List D) : (zipD (rngL 0 xs.length 1) xs).length = xs.length := by
  have go : ∀ (xs : List D) (j : Nat), (zipD (rngL j xs.length 1) xs).length = xs.length := by
    intro xs
    induction xs with
    | nil => intro j; rfl
    | cons x xs ih => intro j; rw [List.length_cons, rngL_cons, zipD, List.length_cons]; exact congrArg (· + 1) (ih (j + 1))
  exact go xs 0
/-- .. of mapped items -/
theorem enmM_get {α : Type} {f : α → D} {xs : List α} {i : Nat} {d : D} (h : (zipD (rngL 0 xs.length 1) (xs.map f))[i]? = some d) : ∃ x, xs[i]? = some x ∧ d = .tup [.int i, f x] := by
  have h' : (zipD (rngL 0 (xs.map f).length 1) (xs.map f))[i]? = some d := by rw [List.length_map]; exact h
  obtain ⟨y, h1, h2⟩ := enm_get h'
  obtain ⟨x, h3, rfl⟩ := map_get h1
  exact ⟨x, h3, h2⟩
theorem enmM_len {α : Type} (f : α → D) (xs : List α) : (zipD (rngL 0 xs.length 1) (xs.map f)).length = xs.length := by
  have := enm_len (xs.map f)
  rwa [List.length_map] at this
/-- the first number below a bound that shows something -/
def firstB (p : Nat → Bool) (n : Nat) : Option Nat := (List.range n).find? p
theorem firstB_none {p : Nat → Bool} {n : Nat} (h : ∀ i, i < n → p i = false) : firstB p n = none := by
  unfold firstB
  rw [List.find?_eq_none]
  intro i hi
  rw [h i (List.mem_range.mp hi)]; decide
theorem firstB_some {p : Nat → Bool} {n i : Nat} (hi : i < n) (h : p i = true) (hj : ∀ j, j < i → p j = false) : firstB p n = some i := by
  unfold firstB
  rw [List.find?_eq_some_iff_getElem]
  refine ⟨h, i, by rw [List.length_range]; exact hi, by simp, fun j hj' => ?_⟩
  simp [hj j hj']
/-! ### a store with one object changed and others behind -/
section
variable {st : Store} {a : Nat}
theorem gR (o : O) (R : Store) (j : Nat) : (st.set a o ++ R)[st.length + j]? = R[j]? := by
  have e : (st.set a o).length = st.length := by simp
  rw [List.getElem?_append_right (by omega), e, Nat.add_sub_cancel_left]
theorem gR0 (o : O) (R : Store) : (st.set a o ++ R)[st.length]? = R[0]? := gR o R 0
theorem sR (o o' : O) (R : Store) (j : Nat) : (st.set a o ++ R).set (st.length + j) o' = st.set a o ++ R.set j o' := by
  have e : (st.set a o).length = st.length := by simp
  rw [List.set_append_right _ _ (by omega), e, Nat.add_sub_cancel_left]
theorem sR0 (o o' : O) (R : Store) : (st.set a o ++ R).set st.length o' = st.set a o ++ R.set 0 o' := sR o o' R 0
theorem lR (o : O) (R : Store) : (st.set a o ++ R).length = st.length + R.length := by simp
end
/-! ### dicts -/
theorem kvPut_map {α : Type} [DecidableEq α] (f : α → List Nat) (hf : ∀ x y, f x = f y → x = y) (g : α → D) {x : α} (d : D) {l : List α} (h : x ∈ l) : kvPut (.s (f x)) d (l.map fun y => (.s (f y), g y)) = l.map fun y => (.s (f y), if y = x then d else g y) := by
  unfold kvPut
  rw [if_pos]
  · rw [List.map_map]
    apply List.map_congr_left
    intro y _
    simp only [Function.comp]
    by_cases e : y = x
    · subst e; simp
    · rw [if_neg e, if_neg]
      intro z
      exact e (hf _ _ (by simpa using z))
  · rw [List.any_eq_true]
    exact ⟨(.s (f x), g x), List.mem_map.mpr ⟨x, h, rfl⟩, by simp⟩
theorem in_d (x : List Nat) (kvs : List (Ky × D)) : isIn (.str x) (.dct kvs) = some (kvGet (.s x) kvs).isSome := by
  cases x with
  | nil => rfl
  | cons a r => cases r <;> rfl
theorem kvPut_new {k : Ky} {d : D} {kvs : List (Ky × D)} (h : ∀ p ∈ kvs, p.1 ≠ k) : kvPut k d kvs = kvs ++ [(k, d)] := by
  unfold kvPut
  rw [if_neg]
  rw [List.any_eq_true]
  rintro ⟨p, hp, e⟩
  exact h p hp (of_decide_eq_true e)
theorem dictOf_nd : ∀ {ps : List (Ky × D)}, (ps.map (·.1)).Nodup → dictOf ps = ps := by
  have go : ∀ (ps acc : List (Ky × D)), ((acc ++ ps).map (·.1)).Nodup → ps.foldl (fun acc p => kvPut p.1 p.2 acc) acc = acc ++ ps := by
    intro ps
    induction ps with
    | nil => intro acc _; simp
    | cons p ps ih =>
      intro acc h
      have hn : ∀ q ∈ acc, q.1 ≠ p.1 := by
        intro q hq e
        rw [List.map_append, List.nodup_append] at h
        exact h.2.2 q.1 (List.mem_map_of_mem hq) p.1 (by simp) e
      rw [List.foldl_cons, kvPut_new hn, ih]
      · simp
      · simpa using h
  intro ps h
  have := go ps [] (by simpa using h)
  simpa [dictOf] using this
theorem kvGet_map {α : Type} (f : α → List Nat) (g : α → D) (k : List Nat) : ∀ l : List α, kvGet (.s k) (l.map fun x => (.s (f x), g x)) = (l.find? fun x => decide (f x = k)).map g
  | [] => rfl
  | x :: l => by
    rw [List.map_cons, kvGet, List.find?_cons]
    by_cases h : f x = k
    · simp [h]
    · have : ¬ (Ky.s (f x) = Ky.s k) := by simpa using h
      rw [if_neg this, kvGet_map f g k l]
      simp [h]
theorem pairsOf_map {α : Type} (f : α → List Nat) (g : α → D) : ∀ l : List α, pairsOf (l.map fun x => .tup [.str (f x), g x]) = some (l.map fun x => (.s (f x), g x))
  | [] => rfl
  | x :: l => by rw [List.map_cons, pairsOf]; simp [keyD, pairsOf_map f g l]
theorem bi_dict_l (rp) (xs : List D) {ps : List (Ky × D)} (h : pairsOf xs = some ps) : biD rp .dict [.lst xs] = some (.dct (dictOf ps)) := by
  show (pairsOf xs).map _ = _
  rw [h]; rfl
theorem filt_find {α : Type} {p : α → Bool} : ∀ {l : List α}, l.Pairwise (fun a b => ¬ (p a = true ∧ p b = true)) → l.filter p = (l.find? p).toList
  | [], _ => rfl
  | x :: l, h => by
    rw [List.pairwise_cons] at h
    rw [List.filter_cons, List.find?_cons]
    cases hx : p x with
    | true =>
      simp only [if_true, Option.toList_some]
      have : l.filter p = [] := by
        rw [List.filter_eq_nil_iff]
        intro y hy hp
        exact h.1 y hy ⟨hx, hp⟩
      rw [this]
    | false => simp only [Bool.false_eq_true, if_false]; exact filt_find h.2
end CT

set_option maxRecDepth 100000
/-! Sorted lists of names; names that hang together. -/
namespace CT
abbrev Nme := List Nat
/-- strictly rising -/
def Rise (l : List Nme) : Prop := l.Pairwise (fun a b => a < b)
theorem nlt_irrefl (a : Nme) : ¬ a < a := List.lt_irrefl a
theorem nlt_trans {a b c : Nme} (h : a < b) (g : b < c) : a < c := List.lt_trans h g
theorem nlt_tri : ∀ {a b : Nme}, ¬ a < b → a ≠ b → b < a
  | [], [], _, h => absurd rfl h
  | [], y :: b, h, _ => absurd (List.nil_lt_cons y b) h
  | x :: a, [], _, _ => List.nil_lt_cons x a
  | x :: a, y :: b, h, hne => by
    rw [List.cons_lt_cons_iff] at h ⊢
    rcases Nat.lt_trichotomy x y with hl | he | hg
    · exact absurd (.inl hl) h
    · subst he
      exact .inr ⟨rfl, nlt_tri (fun z => h (.inr ⟨rfl, z⟩)) fun e => hne (by rw [e])⟩
    · exact .inl hg
theorem rise_eq : ∀ {l m : List Nme}, Rise l → Rise m → (∀ x, x ∈ l ↔ x ∈ m) → l = m
  | [], [], _, _, _ => rfl
  | [], y :: m, _, _, h => absurd ((h y).mpr (by simp)) (by simp)
  | x :: l, [], _, _, h => absurd ((h x).mp (by simp)) (by simp)
  | x :: l, y :: m, hl, hm, h => by
    unfold Rise at hl hm
    rw [List.pairwise_cons] at hl hm
    have e : x = y := by
      rcases List.mem_cons.mp ((h x).mp (by simp)) with e | e
      · exact e
      · rcases List.mem_cons.mp ((h y).mpr (by simp)) with e2 | e2
        · exact e2.symm
        · exact absurd (nlt_trans (hl.1 y e2) (hm.1 x e)) (nlt_irrefl x)
    subst e
    congr 1
    refine rise_eq hl.2 hm.2 fun z => ⟨fun hz => ?_, fun hz => ?_⟩
    · rcases List.mem_cons.mp ((h z).mp (List.mem_cons_of_mem _ hz)) with e | e
      · subst e; exact absurd (hl.1 z hz) (nlt_irrefl z)
      · exact e
    · rcases List.mem_cons.mp ((h z).mpr (List.mem_cons_of_mem _ hz)) with e | e
      · subst e; exact absurd (hm.1 z hz) (nlt_irrefl z)
      · exact e
theorem insS_mem (x : Nme) : ∀ (l : List Nme) (y : Nme), y ∈ insS x l ↔ y = x ∨ y ∈ l
  | [], y => by simp [insS]
  | z :: l, y => by
    rw [insS]
    split
    · simp
    · rw [List.mem_cons, insS_mem x l y, List.mem_cons]
      constructor
      · rintro (h | h | h)
        · exact .inr (.inl h)
        · exact .inl h
        · exact .inr (.inr h)
      · rintro (h | h | h)
        · exact .inr (.inl h)
        · exact .inl h
        · exact .inr (.inr h)
theorem sortS_mem : ∀ (l : List Nme) (y : Nme), y ∈ sortS l ↔ y ∈ l
  | [], y => Iff.rfl
  | x :: l, y => by rw [sortS, insS_mem, sortS_mem l y, List.mem_cons]
theorem insS_rise (x : Nme) : ∀ {l : List Nme}, Rise l → x ∉ l → Rise (insS x l)
  | [], _, _ => List.pairwise_singleton _ _
  | z :: l, h, hn => by
    unfold Rise at *
    rw [List.pairwise_cons] at h
    rw [insS]
    split
    · rename_i hx
      rw [List.pairwise_cons, List.pairwise_cons]
      refine ⟨fun y hy => ?_, h⟩
      rcases List.mem_cons.mp hy with e | e
      · rw [e]; exact hx
      · exact nlt_trans hx (h.1 y e)
    · rename_i hx
      have hzx : z < x := nlt_tri hx fun e => hn (by rw [e]; exact List.mem_cons_self ..)
      rw [List.pairwise_cons]
      refine ⟨fun y hy => ?_, insS_rise x h.2 fun hm => hn (List.mem_cons_of_mem _ hm)⟩
      rcases (insS_mem x l y).mp hy with e | e
      · rw [e]; exact hzx
      · exact h.1 y e
theorem sortS_rise : ∀ {l : List Nme}, l.Nodup → Rise (sortS l)
  | [], _ => .nil
  | x :: l, h => by
    rw [List.nodup_cons] at h
    rw [sortS]
    exact insS_rise x (sortS_rise h.2) fun hm => h.1 ((sortS_mem l x).mp hm)
theorem insS_len (x : Nme) : ∀ l : List Nme, (insS x l).length = l.length + 1
  | [] => rfl
  | z :: l => by
    rw [insS]
    split
    · rfl
    · rw [List.length_cons, insS_len x l, List.length_cons]
theorem sortS_ln : ∀ l : List Nme, (sortS l).length = l.length
  | [] => rfl
  | x :: l => by rw [sortS, insS_len, sortS_ln l, List.length_cons]
theorem rise_nd {l : List Nme} (h : Rise l) : l.Nodup := by
  rw [List.nodup_iff_pairwise_ne]
  exact h.imp fun hlt e => by rw [e] at hlt; exact nlt_irrefl _ hlt
/-- by ties from one to the other -/
inductive Cn (ts : List (Nme × Nme)) (x : Nme) : Nme → Prop
  | refl : Cn ts x x
  | forth {y z : Nme} : Cn ts x y → (y, z) ∈ ts → Cn ts x z
  | back {y z : Nme} : Cn ts x y → (z, y) ∈ ts → Cn ts x z
theorem Cn.trans {ts : List (Nme × Nme)} {x y z : Nme} (h : Cn ts x y) (g : Cn ts y z) : Cn ts x z := by
  induction g with
  | refl => exact h
  | forth _ m ih => exact .forth ih m
  | back _ m ih => exact .back ih m
theorem Cn.symm {ts : List (Nme × Nme)} {x y : Nme} (h : Cn ts x y) : Cn ts y x := by
  induction h with
  | refl => exact .refl
  | forth _ m ih => exact (Cn.back .refl m).trans ih
  | back _ m ih => exact (Cn.forth .refl m).trans ih
theorem Cn.mono {ts us : List (Nme × Nme)} (hs : ∀ p ∈ ts, p ∈ us) {x y : Nme} (h : Cn ts x y) : Cn us x y := by
  induction h with
  | refl => exact .refl
  | forth _ m ih => exact .forth ih (hs _ m)
  | back _ m ih => exact .back ih (hs _ m)
theorem Cn.snoc {ts : List (Nme × Nme)} {a b x y : Nme} : Cn (ts ++ [(a, b)]) x y ↔ Cn ts x y ∨ (Cn ts x a ∧ Cn ts b y) ∨ (Cn ts x b ∧ Cn ts a y) := by
  have up : ∀ {x y}, Cn ts x y → Cn (ts ++ [(a, b)]) x y := fun h => h.mono fun p hp => List.mem_append_left _ hp
  have ab : Cn (ts ++ [(a, b)]) a b := .forth .refl (by simp)
  constructor
  · intro h
    induction h with
    | refl => exact .inl .refl
    | @forth y z _ m ih =>
      rcases List.mem_append.mp m with m | m
      · rcases ih with ih | ⟨i1, i2⟩ | ⟨i1, i2⟩
        · exact .inl (.forth ih m)
        · exact .inr (.inl ⟨i1, .forth i2 m⟩)
        · exact .inr (.inr ⟨i1, .forth i2 m⟩)
      · have e := List.mem_singleton.mp m
        cases e
        rcases ih with ih | ⟨i1, i2⟩ | ⟨i1, i2⟩
        · exact .inr (.inl ⟨ih, .refl⟩)
        · exact .inr (.inl ⟨i1, .refl⟩)
        · exact .inl i1
    | @back y z _ m ih =>
      rcases List.mem_append.mp m with m | m
      · rcases ih with ih | ⟨i1, i2⟩ | ⟨i1, i2⟩
        · exact .inl (.back ih m)
        · exact .inr (.inl ⟨i1, .back i2 m⟩)
        · exact .inr (.inr ⟨i1, .back i2 m⟩)
      · have e := List.mem_singleton.mp m
        cases e
        rcases ih with ih | ⟨i1, i2⟩ | ⟨i1, i2⟩
        · exact .inr (.inr ⟨ih, .refl⟩)
        · exact .inl i1
        · exact .inr (.inr ⟨i1, .refl⟩)
  · rintro (h | ⟨h1, h2⟩ | ⟨h1, h2⟩)
    · exact up h
    · exact (up h1).trans (ab.trans (up h2))
    · exact (up h1).trans (ab.symm.trans (up h2))
theorem Cn.inN {N : List Nme} {ts : List (Nme × Nme)} (ht : ∀ p ∈ ts, p.1 ∈ N ∧ p.2 ∈ N) {x y : Nme} (h : Cn ts x y) (hx : x ∈ N) : y ∈ N := by
  induction h with
  | refl => exact hx
  | forth _ m _ => exact (ht _ m).2
  | back _ m _ => exact (ht _ m).1
/-- a class: the strictly rising list of those that hang together with one -/
def Cls (ts : List (Nme × Nme)) (x : Nme) (l : List Nme) : Prop := Rise l ∧ ∀ y, y ∈ l ↔ Cn ts x y
theorem Cls.uniq {ts : List (Nme × Nme)} {x : Nme} {l m : List Nme} (h : Cls ts x l) (g : Cls ts x m) : l = m := rise_eq h.1 g.1 fun y => (h.2 y).trans (g.2 y).symm
theorem Cls.same {ts : List (Nme × Nme)} {x y : Nme} {l m : List Nme} (h : Cls ts x l) (g : Cls ts y m) : l = m ↔ Cn ts x y := by
  constructor
  · intro e
    exact (h.2 y).mp (by rw [e]; exact (g.2 y).mpr .refl)
  · intro c
    exact rise_eq h.1 g.1 fun z => (h.2 z).trans (⟨fun a => c.symm.trans a, fun a => c.trans a⟩ : Cn ts x z ↔ Cn ts y z) |>.trans (g.2 z).symm
/-- closed beneath ties: a list without twice of what hangs together, with all its neighbours -/
theorem closed_cls {ts : List (Nme × Nme)} {x : Nme} {l : List Nme} (hnd : l.Nodup) (hx : x ∈ l) (hc : ∀ y ∈ l, Cn ts x y) (cl : ∀ p ∈ ts, (p.1 ∈ l → p.2 ∈ l) ∧ (p.2 ∈ l → p.1 ∈ l)) : Cls ts x (sortS l) := by
  refine ⟨sortS_rise hnd, fun y => ?_⟩
  rw [sortS_mem]
  refine ⟨hc y, fun h => ?_⟩
  induction h with
  | refl => exact hx
  | forth _ m ih => exact (cl _ m).1 ih
  | back _ m ih => exact (cl _ m).2 ih
theorem sub_len {l N : List Nme} (hnd : l.Nodup) (hs : ∀ x ∈ l, x ∈ N) : l.length ≤ N.length := hnd.length_le_of_subset fun x hx => hs x hx
end CT

set_option maxRecDepth 100000
namespace CT.L
open CT
abbrev i_is_overlap : Nat := 0
abbrev i_parts_of : Nat := 1
abbrev i__law_next : Nat := 2
abbrev i__law_begun : Nat := 3
abbrev i__law_overlap : Nat := 4
abbrev i__law_fitting : Nat := 5
abbrev i__law_good : Nat := 6
abbrev i__law_come_to : Nat := 7
abbrev i__law_beats_right : Nat := 8
abbrev i__law_parts_right : Nat := 9
abbrev i__law_step : Nat := 10
abbrev i_law : Nat := 11
/-- is_overlap: 0 one 1 other -/
def b_is_overlap : Ss := .cons (.ret (.cmp .lt (.bi false .max2 (.cons (.idx (.var 0) (.int 2)) (.cons (.idx (.var 1) (.int 2)) .nil))) (.bi false .min2 (.cons (.idx (.var 0) (.int 3)) (.cons (.idx (.var 1) (.int 3)) .nil))))) .nil
def f_is_overlap : Fn := ⟨2, [], 2, b_is_overlap, .fz⟩
/-- parts_of: 0 song 1 parts 2 note 3 tie 4 one 5 other 6 more 7 name -/
def b_parts_of_2 : Ss := .cons (.asg (.sub (.var 1) (.var 7)) (.var 6)) .nil
def b_parts_of_1 : Ss := .cons (.par 4 5 (.idx (.var 1) (.idx (.var 3) (.int 1))) (.idx (.var 1) (.idx (.var 3) (.int 2)))) (.cons (.iff (.cmp .ne (.var 4) (.var 5)) (.cons (.asg (.g (.nm 6)) (.bi false .sorted (.cons (.bin false .add (.var 4) (.var 5)) .nil))) (.cons (.fr (.nm 7) (.seq (.var 6)) b_parts_of_2) .nil)) (.nil)) .nil)
def b_parts_of : Ss := .cons (.asg (.g (.nm 1)) (.bi true .dict (.cons (.lc false (.tup (.cons (.idx (.var 2) (.int 0)) (.cons (.lst false (.cons (.idx (.var 2) (.int 0)) .nil)) .nil))) (.nm 2) (.seq (.idx (.var 0) (.int 0))) (.no)) .nil))) (.cons (.fr (.nm 3) (.seq (.idx (.var 0) (.int 1))) b_parts_of_1) (.cons (.ret (.lc true (.bi true .list (.cons (.idx (.var 1) (.var 7)) .nil)) (.nm 7) (.seq (.bi false .sorted (.cons (.var 1) .nil))) (.cmp .eq (.idx (.idx (.var 1) (.var 7)) (.int 0)) (.var 7)))) .nil))
def f_parts_of : Fn := ⟨1, [], 8, b_parts_of, .raw⟩
/-- _law_next: 0 _law_state 1 _law_many 2 _law_k 3 _law_cells 4 _law_base -/
def b__law_next : Ss := .cons (.asg (.sub (.var 0) (.str [97, 116])) (.bin false .add (.idx (.var 0) (.str [97, 116])) (.int 1))) (.cons (.asg (.g (.nm 2)) (.idx (.var 0) (.str [97, 116]))) (.cons (.asg (.g (.nm 3)) (.idx (.var 0) (.str [99, 101, 108, 108, 115]))) (.cons (.asg (.g (.nm 4)) (.bin false .add (.bin false .mul (.bin false .mul (.int 31) (.var 2)) (.var 2)) (.bin false .mul (.int 7919) (.var 2)))) (.cons (.iff (.cmp .ne (.var 3) (.lst false (.nil))) (.cons (.asg (.g (.nm 4)) (.bin false .add (.var 4) (.bin false .mul (.bin false .mod (.idx (.var 3) (.bin false .mod (.var 2) (.bi false .len (.cons (.var 3) .nil)))) (.int 2147483647)) (.bin false .add (.int 1) (.bin false .fdiv (.var 2) (.bi false .len (.cons (.var 3) .nil))))))) .nil) (.nil)) (.cons (.ret (.bin false .mod (.bin false .fdiv (.bin false .mod (.bin false .mul (.var 4) (.int 48271)) (.int 2147483647)) (.int 7)) (.var 1))) .nil)))))
def f__law_next : Fn := ⟨2, [], 5, b__law_next, .fz⟩
/-- _law_begun: 0 _law_cells 1 _law_state 2 _law_rest 3 _law_k 4 _law_at 5 _law_some 6 _law_sign 7 _law_name -/
def b__law_begun : Ss := .cons (.asg (.g (.nm 1)) (.dct true (.cons (.str [99, 101, 108, 108, 115]) (.var 0) (.cons (.str [97, 116]) (.int 0) (.nil))))) (.cons (.asg (.g (.nm 2)) (.bm false .join (.str []) (.cons (.lc false (.idx (.str [113, 122, 106, 118]) (.call i__law_next (.cons (.var 1) (.cons (.int 4) .nil)))) (.nm 3) (.rng1 (.call i__law_next (.cons (.var 1) (.cons (.int 7) .nil)))) (.no)) .nil))) (.cons (.asg (.g (.nm 4)) (.call i__law_next (.cons (.var 1) (.cons (.bin false .add (.bi false .len (.cons (.var 2) .nil)) (.int 1)) .nil)))) (.cons (.asg (.g (.nm 5)) (.lc false (.bin false .add (.bin false .add (.slc false (.var 2) (.no) (.var 4)) (.var 6)) (.slc false (.var 2) (.var 4) (.no))) (.nm 6) (.seq (.str [109, 99, 120, 103, 116, 97, 113, 101, 114, 98, 118, 107, 100, 117, 110, 104, 115, 112, 106, 102, 119, 108, 105, 111])) (.no))) (.cons (.asg (.sub (.var 1) (.str [110, 97, 109, 101, 115])) (.bin false .add (.var 5) (.lc false (.bin false .add (.var 7) (.str [121])) (.nm 7) (.seq (.var 5)) (.no)))) (.cons (.ret (.var 1)) .nil)))))
def f__law_begun : Fn := ⟨1, [], 8, b__law_begun, .own⟩
/-- _law_overlap: 0 _law_one 1 _law_other 2 _law_beat -/
def b__law_overlap : Ss := .cons (.ret (.cmp .ne (.lc false (.var 2) (.nm 2) (.rng2 (.idx (.var 0) (.int 2)) (.bi false .min2 (.cons (.idx (.var 0) (.int 3)) (.cons (.int 400) .nil)))) (.chn .le .lt (.idx (.var 1) (.int 2)) (.var 2) (.idx (.var 1) (.int 3)))) (.lst false (.nil)))) .nil
def f__law_overlap : Fn := ⟨2, [], 3, b__law_overlap, .fz⟩
/-- _law_fitting: 0 _law_state 1 _law_notes 2 _law_at 3 _law_one 4 _law_other 5 _law_word 6 _law_ratio 7 _law_k -/
def b__law_fitting : Ss := .cons (.asg (.g (.nm 2)) (.call i__law_next (.cons (.var 0) (.cons (.bi false .len (.cons (.var 1) .nil)) .nil)))) (.cons (.par 3 4 (.idx (.var 1) (.var 2)) (.idx (.var 1) (.bin false .mod (.bin false .add (.bin false .add (.var 2) (.int 1)) (.call i__law_next (.cons (.var 0) (.cons (.bin false .sub (.bi false .len (.cons (.var 1) .nil)) (.int 1)) .nil)))) (.bi false .len (.cons (.var 1) .nil))))) (.cons (.asg (.g (.nm 5)) (.str [112, 117, 114, 101])) (.cons (.iff (.nt (.call i__law_overlap (.cons (.var 3) (.cons (.var 4) .nil)))) (.cons (.iff (.cmp .lt (.idx (.var 4) (.int 2)) (.idx (.var 3) (.int 3))) (.cons (.par 3 4 (.var 4) (.var 3)) .nil) (.nil)) (.cons (.asg (.g (.nm 5)) (.idx (.lst false (.cons (.str [104, 101, 108, 100]) (.cons (.str [115, 116, 101, 112]) .nil))) (.bin false .mul (.bi false .int (.cons (.cmp .eq (.idx (.var 3) (.int 1)) (.idx (.var 4) (.int 1))) .nil)) (.call i__law_next (.cons (.var 0) (.cons (.int 2) .nil)))))) .nil)) (.nil)) (.cons (.asg (.g (.nm 6)) (.bi false .tuple (.cons (.lc false (.bin false .sub (.call i__law_next (.cons (.var 0) (.cons (.int 3) .nil))) (.int 1)) (.nm 7) (.rng1 (.int 4)) (.no)) .nil))) (.cons (.iff (.cmp .eq (.var 5) (.str [104, 101, 108, 100])) (.cons (.asg (.g (.nm 6)) (.tup (.cons (.int 0) (.cons (.int 0) (.cons (.int 0) (.cons (.int 0) .nil)))))) .nil) (.nil)) (.cons (.ret (.tup (.cons (.var 5) (.cons (.idx (.var 3) (.int 0)) (.cons (.idx (.var 4) (.int 0)) (.cons (.var 6) (.cons (.call i__law_next (.cons (.var 0) (.cons (.int 100) .nil))) (.cons (.bin false .add (.int 1) (.call i__law_next (.cons (.var 0) (.cons (.int 9) .nil)))) .nil)))))))) .nil))))))
def f__law_fitting : Fn := ⟨2, [], 8, b__law_fitting, .fz⟩
/-- _law_good: 0 _law_state 1 _law_names 2 _law_first 3 _law_voices 4 _law_clocks 5 _law_voice 6 _law_notes 7 _law_far 8 _law_at 9 _law_k 10 _law_begins 11 _law_turn 12 _law_ties 13 _law_home -/
def b__law_good_1 : Ss := .cons (.asg (.g (.nm 5)) (.idx (.var 3) (.call i__law_next (.cons (.var 0) (.cons (.bi false .len (.cons (.var 3) .nil)) .nil))))) (.cons (.asg (.g (.nm 10)) (.bin false .add (.idx (.var 4) (.var 5)) (.call i__law_next (.cons (.var 0) (.cons (.int 3) .nil))))) (.cons (.asg (.sub (.var 4) (.var 5)) (.bin false .add (.bin false .add (.var 10) (.int 1)) (.call i__law_next (.cons (.var 0) (.cons (.int 5) .nil))))) (.cons (.exp (.bm false .append (.var 6) (.cons (.tup (.cons (.idx (.var 1) (.bin false .mod (.bin false .add (.var 8) (.bin false .mul (.var 7) (.var 9))) (.int 40))) (.cons (.var 5) (.cons (.var 10) (.cons (.idx (.var 4) (.var 5)) .nil))))) .nil))) .nil)))
def b__law_good : Ss := .cons (.asg (.g (.nm 1)) (.idx (.var 0) (.str [110, 97, 109, 101, 115]))) (.cons (.asg (.g (.nm 2)) (.idx (.lst false (.cons (.int 40) (.cons (.int 0) .nil))) (.call i__law_next (.cons (.var 0) (.cons (.int 2) .nil))))) (.cons (.asg (.g (.nm 3)) (.slc false (.var 1) (.var 2) (.bin false .add (.bin false .add (.var 2) (.int 2)) (.call i__law_next (.cons (.var 0) (.cons (.int 3) .nil)))))) (.cons (.asg (.g (.nm 4)) (.bi true .dict (.cons (.lc false (.tup (.cons (.var 5) (.cons (.call i__law_next (.cons (.var 0) (.cons (.int 5) .nil))) .nil))) (.nm 5) (.seq (.var 3)) (.no)) .nil))) (.cons (.asg (.g (.nm 6)) (.lst true (.nil))) (.cons (.par 7 8 (.idx (.lst false (.cons (.int 1) (.cons (.int 7) (.cons (.int 13) (.cons (.int 39) .nil))))) (.call i__law_next (.cons (.var 0) (.cons (.int 4) .nil)))) (.call i__law_next (.cons (.var 0) (.cons (.int 40) .nil)))) (.cons (.fr (.nm 9) (.rng1 (.idx (.lst false (.cons (.bin false .add (.int 1) (.call i__law_next (.cons (.var 0) (.cons (.int 6) .nil)))) (.cons (.bin false .add (.int 1) (.call i__law_next (.cons (.var 0) (.cons (.int 14) .nil)))) (.cons (.int 40) .nil)))) (.call i__law_next (.cons (.var 0) (.cons (.int 3) .nil))))) b__law_good_1) (.cons (.asg (.g (.nm 11)) (.call i__law_next (.cons (.var 0) (.cons (.bi false .len (.cons (.var 6) .nil)) .nil)))) (.cons (.asg (.g (.nm 6)) (.bin true .add (.slc false (.var 6) (.var 11) (.no)) (.slc false (.var 6) (.no) (.var 11)))) (.cons (.asg (.g (.nm 7)) (.bin false .mul (.idx (.lst false (.cons (.call i__law_next (.cons (.var 0) (.cons (.int 6) .nil))) (.cons (.call i__law_next (.cons (.var 0) (.cons (.int 20) .nil))) (.cons (.int 80) .nil)))) (.call i__law_next (.cons (.var 0) (.cons (.int 3) .nil)))) (.bi false .int (.cons (.cmp .gt (.bi false .len (.cons (.var 6) .nil)) (.int 1)) .nil)))) (.cons (.asg (.g (.nm 12)) (.lc false (.call i__law_fitting (.cons (.var 0) (.cons (.var 6) .nil))) (.nm 9) (.rng1 (.var 7)) (.no))) (.cons (.asg (.g (.nm 13)) (.non)) (.cons (.iff (.andE (.cmp .gt (.bi false .len (.cons (.var 6) .nil)) (.int 1)) (.cmp .eq (.call i__law_next (.cons (.var 0) (.cons (.int 2) .nil))) (.int 1))) (.cons (.asg (.g (.nm 13)) (.tup (.cons (.idx (.idx (.var 6) (.int 0)) (.int 0)) (.cons (.idx (.idx (.var 6) (.bin false .add (.int 1) (.call i__law_next (.cons (.var 0) (.cons (.bin false .sub (.bi false .len (.cons (.var 6) .nil)) (.int 1)) .nil))))) (.int 0)) .nil)))) .nil) (.nil)) (.cons (.ret (.tup (.cons (.bi false .tuple (.cons (.var 6) .nil)) (.cons (.bi false .tuple (.cons (.var 12) .nil)) (.cons (.var 13) .nil))))) .nil)))))))))))))
def f__law_good : Fn := ⟨1, [], 14, b__law_good, .fz⟩
/-- _law_come_to: 0 _law_song 1 _law_name 2 _law_found 3 _law_at 4 _law_tie 5 _law_one -/
def b__law_come_to_2 : Ss := .cons (.iff (.cmp .isin (.idx (.var 2) (.var 3)) (.slc false (.var 4) (.int 1) (.int 3))) (.cons (.asg (.g (.nm 2)) (.bin false .add (.var 2) (.lc false (.var 5) (.nm 5) (.seq (.slc false (.var 4) (.int 1) (.int 3))) (.cmp .notin (.var 5) (.var 2))))) .nil) (.nil)) .nil
def b__law_come_to_1 : Ss := .cons (.fr (.nm 4) (.seq (.idx (.var 0) (.int 1))) b__law_come_to_2) (.cons (.asg (.g (.nm 3)) (.bin false .add (.var 3) (.int 1))) .nil)
def b__law_come_to : Ss := .cons (.asg (.g (.nm 2)) (.lst false (.cons (.var 1) .nil))) (.cons (.asg (.g (.nm 3)) (.int 0)) (.cons (.whl (.cmp .lt (.var 3) (.bi false .len (.cons (.var 2) .nil))) b__law_come_to_1) (.cons (.ret (.bi false .sorted (.cons (.var 2) .nil))) .nil)))
def f__law_come_to : Fn := ⟨2, [], 6, b__law_come_to, .fz⟩
/-- _law_beats_right: 0 _law_state 1 _law_names 2 _law_begins 3 _law_ends 4 _law_other 5 _law_later 6 _law_due 7 _law_one 8 _law_two 9 _law_told 10 _law_each -/
def b__law_beats_right : Ss := .cons (.asg (.g (.nm 1)) (.idx (.var 0) (.str [110, 97, 109, 101, 115]))) (.cons (.asg (.g (.nm 2)) (.call i__law_next (.cons (.var 0) (.cons (.int 9990) .nil)))) (.cons (.asg (.g (.nm 3)) (.bi false .min2 (.cons (.int 9999) (.cons (.bin false .add (.bin false .add (.var 2) (.int 1)) (.call i__law_next (.cons (.var 0) (.cons (.idx (.lst false (.cons (.int 3) (.cons (.bin false .sub (.int 9999) (.var 2)) .nil))) (.call i__law_next (.cons (.var 0) (.cons (.int 2) .nil)))) .nil)))) .nil)))) (.cons (.asg (.g (.nm 4)) (.idx (.lst false (.cons (.call i__law_next (.cons (.var 0) (.cons (.int 9990) .nil))) (.cons (.var 3) (.cons (.bi false .max2 (.cons (.int 0) (.cons (.bin false .sub (.var 3) (.int 1)) .nil))) (.cons (.var 2) .nil))))) (.call i__law_next (.cons (.var 0) (.cons (.int 4) .nil))))) (.cons (.asg (.g (.nm 4)) (.bi false .min2 (.cons (.var 4) (.cons (.int 9998) .nil)))) (.cons (.asg (.g (.nm 5)) (.bi false .min2 (.cons (.int 9999) (.cons (.bin false .add (.bin false .add (.var 4) (.int 1)) (.call i__law_next (.cons (.var 0) (.cons (.idx (.lst false (.cons (.int 2) (.cons (.bin false .sub (.int 9999) (.var 4)) .nil))) (.call i__law_next (.cons (.var 0) (.cons (.int 2) .nil)))) .nil)))) .nil)))) (.cons (.asg (.g (.nm 6)) (.andE (.cmp .lt (.var 4) (.var 3)) (.cmp .lt (.var 2) (.var 5)))) (.cons (.asg (.g (.nm 7)) (.tup (.cons (.idx (.var 1) (.int 0)) (.cons (.idx (.var 1) (.int 1)) (.cons (.var 2) (.cons (.var 3) .nil)))))) (.cons (.asg (.g (.nm 8)) (.tup (.cons (.idx (.var 1) (.int 2)) (.cons (.idx (.var 1) (.call i__law_next (.cons (.var 0) (.cons (.int 3) .nil)))) (.cons (.var 4) (.cons (.var 5) .nil)))))) (.cons (.asg (.g (.nm 9)) (.lst false (.cons (.call i_is_overlap (.cons (.var 7) (.cons (.var 8) .nil))) (.cons (.call i_is_overlap (.cons (.var 8) (.cons (.var 7) .nil))) (.cons (.call i_is_overlap (.cons (.var 7) (.cons (.var 7) .nil))) .nil))))) (.cons (.ret (.andE (.cmp .eq (.var 9) (.lst false (.cons (.var 6) (.cons (.var 6) (.cons (.bl true) .nil))))) (.bi false .all (.cons (.lc false (.isi (.var 10) .bool) (.nm 10) (.seq (.var 9)) (.no)) .nil)))) .nil))))))))))
def f__law_beats_right : Fn := ⟨1, [], 11, b__law_beats_right, .fz⟩
/-- _law_parts_right: 0 _law_song 1 _law_due 2 _law_name 3 _law_note 4 _law_kept 5 _law_turn 6 _law_found 7 _law_part -/
def b__law_parts_right_3 : Ss := .cons (.iff (.cmp .eq (.idx (.call i__law_come_to (.cons (.var 0) (.cons (.var 2) .nil))) (.int 0)) (.var 2)) (.cons (.exp (.bm false .append (.var 1) (.cons (.call i__law_come_to (.cons (.var 0) (.cons (.var 2) .nil))) .nil))) .nil) (.nil)) .nil
def b__law_parts_right_2 : Ss := .cons (.exp (.bm false .append (.var 7) (.cons (.str [109, 111, 114, 101]) .nil))) .nil
def b__law_parts_right_1 : Ss := .cons (.asg (.g (.nm 6)) (.call i_parts_of (.cons (.var 0) .nil))) (.cons (.iff (.orE (.nt (.isi (.var 6) .lst)) (.orE (.cmp .ne (.var 6) (.var 1)) (.nt (.bi false .all (.cons (.lc false (.isi (.var 7) .lst) (.nm 7) (.seq (.var 6)) (.no)) .nil))))) (.cons (.ret (.bl false)) .nil) (.nil)) (.cons (.fr (.nm 7) (.seq (.var 6)) b__law_parts_right_2) (.cons (.exp (.bm false .append (.var 6) (.cons (.lst true (.nil)) .nil))) .nil)))
def b__law_parts_right : Ss := .cons (.asg (.g (.nm 1)) (.lst true (.nil))) (.cons (.fr (.nm 2) (.seq (.bi false .sorted (.cons (.lc false (.idx (.var 3) (.int 0)) (.nm 3) (.seq (.idx (.var 0) (.int 0))) (.no)) .nil))) b__law_parts_right_3) (.cons (.asg (.g (.nm 4)) (.bi false .repr (.cons (.var 0) .nil))) (.cons (.fr (.nm 5) (.rng1 (.int 2)) b__law_parts_right_1) (.cons (.ret (.cmp .eq (.bi false .repr (.cons (.var 0) .nil)) (.var 4))) .nil))))
def f__law_parts_right : Fn := ⟨1, [], 8, b__law_parts_right, .fz⟩
/-- _law_step: 0 _law_cells 1 _law_state 2 _law_song 3 _law_one 4 _law_other 5 _law_turn -/
def b__law_step_3 : Ss := .cons (.iff (.cmp .ne (.call i_is_overlap (.cons (.var 3) (.cons (.var 4) .nil))) (.call i__law_overlap (.cons (.var 3) (.cons (.var 4) .nil)))) (.cons (.ret (.bl false)) .nil) (.nil)) .nil
def b__law_step_2 : Ss := .cons (.fr (.nm 4) (.seq (.slc false (.idx (.var 2) (.int 0)) (.no) (.int 12))) b__law_step_3) .nil
def b__law_step_1 : Ss := .cons (.iff (.nt (.call i__law_beats_right (.cons (.var 1) .nil))) (.cons (.ret (.bl false)) .nil) (.nil)) .nil
def b__law_step : Ss := .cons (.asg (.g (.nm 1)) (.call i__law_begun (.cons (.var 0) .nil))) (.cons (.asg (.g (.nm 2)) (.call i__law_good (.cons (.var 1) .nil))) (.cons (.fr (.nm 3) (.seq (.slc false (.idx (.var 2) (.int 0)) (.no) (.int 12))) b__law_step_2) (.cons (.fr (.nm 5) (.rng1 (.int 6)) b__law_step_1) (.cons (.ret (.andE (.call i__law_parts_right (.cons (.var 2) .nil)) (.call i__law_parts_right (.cons (.tup (.cons (.idx (.var 2) (.int 0)) (.cons (.stp false (.idx (.var 2) (.int 1)) (2)) (.cons (.non) .nil)))) .nil)))) .nil))))
def f__law_step : Fn := ⟨1, [], 6, b__law_step, .fz⟩
/-- law: 0 _law_script 1 _law_first -/
def b_law_1 : Ss := .cons (.iff (.nt (.call i__law_step (.cons (.slc false (.var 0) (.var 1) (.bin false .add (.var 1) (.int 12))) .nil))) (.cons (.ret (.bl false)) .nil) (.nil)) .nil
def b_law : Ss := .cons (.fr (.nm 1) (.rng3 (.int 0) (.bi false .max2 (.cons (.int 1) (.cons (.bi false .len (.cons (.var 0) .nil)) .nil))) (.int 12)) b_law_1) (.cons (.ret (.cmp .eq (.call i_parts_of (.cons (.tup (.cons (.tup (.nil)) (.cons (.tup (.nil)) (.cons (.non) .nil)))) .nil)) (.lst false (.nil)))) .nil)
def f_law : Fn := ⟨1, [], 2, b_law, .fz⟩
def fnT : List Fn := [f_is_overlap, f_parts_of, f__law_next, f__law_begun, f__law_overlap, f__law_fitting, f__law_good, f__law_come_to, f__law_beats_right, f__law_parts_right, f__law_step, f_law]
def clT : List Cl := []
def subT : List (List Nat) := []
def xfT : List (Option Nat) := []
def glbT : List D := []
def PG (rp : D → Option (List Nat)) : Pg := ⟨fun f => fnT[f]?, fun c => clT[c]?, fun a b => (subT.getD a []).contains b, fun c => xfT.getD c none, fun g => glbT[g]?, rp⟩
abbrev lawId : Nat := 11
end CT.L

set_option maxRecDepth 100000
namespace CT.L
local macro_rules | `(tactic| erw [$[$ts:term],*]) => `(tactic| simp only [rb_ok, rb_ex, rb_bad, ro_some, so_ok, so_ex, sq_nx, sq_rt, sq_ex, bd_bl, bd_ex, fin_f, fin_l, fin_d, lk_non, lk_bl, lk_int, lk_str, lk_tup, lk_lst, lk_dct, lk_obj, lk_exc, dlk_non, dlk_bl, dlk_int, dlk_str, dlk_tup, dlk_lst, dlk_dct, bn_add, bn_sub, bn_mul, bn_sadd, bn_ladd, bn_tadd, bn_smul, bn_lmul, bn_div, bn_mod, bn_pow, cd_eq, cd_ne, cd_lt, cd_le, cd_gt, cd_ge, cd_in, cd_ni, ce_eq, ce_ne, ce_lt, ce_le, ce_gt, ce_ge, ce_in, ce_ni, pl_int, pl_str, pl_bl, pl_non, ev_ii, ev_ss, bi_len_l, bi_len_t, bi_len_s, bi_len_d, bi_max2, bi_min2, bi_min2s, bi_tup_l, bi_tup_t, bi_lst_l, bi_lst_t, bi_int_i, bi_int_b, bi_int_s, bi_str_i, bi_abs, ix_l, ix_t, ix_s, ix_d, bg_nm, bg_tp, bg_tpl, bg_nil, bg_cons, iffK_t, iffK_f, ifeK_t, ifeK_f, andK_t, andK_f, orK_t, orK_f, finO_s, okO_s, chnK_t, chnK_f, negK_i, isbK_b, bmK_ap, bmK_rv, bmK_pp, bmK_cl, bmK_sd, bmK_jn, bmK_g, bmK_g2, bmK_ix, bnd_i, e_no, e_var, e_non, e_bl, e_int, e_str, e_tup, e_lst, e_dct, e_bin, e_rpl, e_neg, e_nt, e_cmp, e_chn, e_isn, e_isb, e_and, e_or, e_ife, e_idx, e_slc, e_stp, e_atr, e_call, e_mth, e_bi, e_bm, e_isi, e_lc, e_glb, e_fnv, e_clv, es_nil, es_cons, ek_nil, ek_cons, et, zipK_ll, zipK_tt, zipK_lt, zipK_tl, enmK_l, enmK_t, revK_l, itmK_d, vlsK_d, sq_l, sq_t, sq_s, ei_seq, ei_rng1, ei_rng2, ei_rng3, ei_zip, ei_enm, ei_rev, ei_itm, ei_vls, t_nm, tpK_s, t_tp, t_sub, t_fld, s_asg, s_par, s_exp, s_ret, s_iff, s_fr, s_whl, s_rse, tryK_nx, tryK_rt, tryK_ex, s_tr, hsN_nx, hsN_rt, hsS_nx, hsS_rt, hs_nl, hs_cn, hs_cs, s_pss, ss_nl, ss_cn, wR_ok, wR_ex, wS_nx, wS_rt, wS_ex, wR_bind, wS_seq, wS_of, wR_boolD, wS_tr, wS_hsN, wS_hsS, lcK, slcK, bndK, sl_l, sl_t, sl_s, bm_join, in_ss, in_l, in_t, List.getElem?_cons_zero, List.getElem?_cons_succ, Option.getD_some, Option.getD_none, List.set_cons_zero, List.set_cons_succ, Option.bind_some, Option.map_some, List.map_cons, List.map_nil, if_true, if_false, ite_true, ite_false, reduceIte, decide_true, decide_false, Bool.not_true, Bool.not_false, Bool.and_true, Bool.true_and, Bool.and_self, Bool.and_false, Bool.false_and, Bool.false_eq_true, and_self, and_true, true_and, and_false, false_and, bmT, LIM, List.length_cons, List.length_nil, List.length_map, Nat.zero_add, Option.some.injEq, D.bl.injEq, bq_t, bq_f, exists_eq_left', slotsG, slotsG.slotsGs, wipeE, E.isNo, List.append_nil, List.cons_append, List.nil_append, List.append_eq, Nat.reduceAdd, Nat.reduceLeDiff, Nat.reduceMul, Nat.reduceSub, $[$ts:term],*])
local macro_rules | `(tactic| simp_all only [$ts,*]) => `(tactic| simp (disch := (first | assumption | ((try simp only [List.length_append, List.length_cons, List.length_nil, List.length_map, List.length_replicate, List.length_singleton, List.length_take, List.length_drop, LIM]); omega))) only [rb_ok, rb_ex, rb_bad, ro_some, so_ok, so_ex, sq_nx, sq_rt, sq_ex, bd_bl, bd_ex, fin_f, fin_l, fin_d, lk_non, lk_bl, lk_int, lk_str, lk_tup, lk_lst, lk_dct, lk_obj, lk_exc, dlk_non, dlk_bl, dlk_int, dlk_str, dlk_tup, dlk_lst, dlk_dct, bn_add, bn_sub, bn_mul, bn_saddc, bn_laddc, bn_taddc, bn_div, bn_modc, bn_pow, cd_eq, cd_ne, cd_lt, cd_le, cd_gt, cd_ge, cd_in, cd_ni, ce_eq, ce_ne, ce_lt, ce_le, ce_gt, ce_ge, ce_in, ce_ni, pl_int, pl_str, pl_bl, pl_non, ev_ii, ev_ss, bi_len_l, bi_len_t, bi_len_s, bi_len_d, bi_max2, bi_min2, bi_min2s, bi_tup_l, bi_tup_t, bi_lst_lc, bi_lst_tc, bi_int_i, bi_int_b, bi_int_s, bi_str_ic, bi_abs, ix_l, ix_t, ix_s, ix_d, bg_nm, bg_tp, bg_tpl, bg_nil, bg_cons, iffK_t, iffK_f, ifeK_t, ifeK_f, andK_t, andK_f, orK_t, orK_f, finO_s, okO_s, chnK_t, chnK_f, negK_i, isbK_b, bmK_ap, bmK_rv, bmK_pp, bmK_cl, bmK_sd, bmK_jn, bmK_g, bmK_g2, bmK_ix, bnd_i, e_no, e_var, e_non, e_bl, e_int, e_str, e_tup, e_lst, e_dct, e_bin, e_rpl, e_neg, e_nt, e_cmp, e_chn, e_isn, e_isb, e_and, e_or, e_ife, e_idx, e_slc, e_stp, e_atr, e_call, e_mth, e_bi, e_bm, e_isi, e_lc, e_glb, e_fnv, e_clv, es_nil, es_cons, ek_nil, ek_cons, et, zipK_ll, zipK_tt, zipK_lt, zipK_tl, enmK_l, enmK_t, revK_l, itmK_d, vlsK_d, sq_l, sq_t, sq_s, ei_seq, ei_rng1, ei_rng2, ei_rng3, ei_zip, ei_enm, ei_rev, ei_itm, ei_vls, t_nm, tpK_s, t_tp, t_sub, t_fld, s_asg, s_par, s_exp, s_ret, s_iff, s_fr, s_whl, s_rse, tryK_nx, tryK_rt, tryK_ex, s_tr, hsN_nx, hsN_rt, hsS_nx, hsS_rt, hs_nl, hs_cn, hs_cs, s_pss, ss_nl, ss_cn, wR_ok, wR_ex, wS_nx, wS_rt, wS_ex, wR_bind, wS_seq, wS_of, wR_boolD, wS_tr, wS_hsN, wS_hsS, lcKc, slcK, bndK, sl_l, sl_t, sl_s, bm_join, in_ss, in_l, in_t, rng1Kc, rng2Kc, rng3Kc, mulOk_lc, mulOk_rc, divOk_c, bn_smul0, bn_smul1c, bn_lmul0, bn_lmul1c, eqv_tupD, eqv_lstD, eqvs_consD, eqvs_nilD, ixl0, ixl1, ixl2, ixl3, ixl4, ixl5, List.getElem?_cons_zero, List.getElem?_cons_succ, Option.getD_some, Option.getD_none, List.set_cons_zero, List.set_cons_succ, Option.bind_some, Option.map_some, List.map_cons, List.map_nil, if_true, if_false, ite_true, ite_false, reduceIte, decide_true, decide_false, Bool.not_true, Bool.not_false, Bool.and_true, Bool.true_and, Bool.and_self, Bool.and_false, Bool.false_and, Bool.false_eq_true, and_self, and_true, true_and, and_false, false_and, bmT, LIM, List.length_cons, List.length_nil, List.length_map, Nat.zero_add, Option.some.injEq, D.bl.injEq, bq_t, bq_f, exists_eq_left', slotsG, slotsG.slotsGs, wipeE, E.isNo, List.append_nil, List.cons_append, List.nil_append, List.append_eq, Nat.reduceAdd, Nat.reduceLeDiff, Nat.reduceMul, Nat.reduceSub, $ts,*])
open CT
variable {rp : D → Option (List Nat)}
/-! ### the drawer -/
theorem c_next {k : Nat} {a : Nat} {m n : Int} {cs : List Int} {r : List (Ky × D)} {st : Store} (h : st[a]? = some (drO cs n r)) (hr : D.purek r = true) (hk : r.length < 1000) (hr2 : ∀ p ∈ r, p.1 ≠ .s [97, 116]) (h0 : 0 ≤ n) (hn : n < 2 ^ 60) (hcl : cs.length < 2 ^ 60) (hm : 0 < m) :
    runF (PG rp) (k + 1) i__law_next [.ref a, .int m] st = .ok (.int (drw cs (n + 1) m)) (st.set a (drO cs (n + 1) r)) := by
  have hl : a < st.length := (List.getElem?_eq_some_iff.mp h).1
  refine run_rt (F := f__law_next) (st' := st.set a (drO cs (n + 1) r)) (d := .int (drw cs (n + 1) m)) rfl rfl rfl ?_ (leave_fz rfl (trunc_set (drO_pure hr)))
  show evSs _ _ [some (.ref a), some (.int m), none, none, none] b__law_next st = _
  have h2 : (st.set a (drO cs (n + 1) r))[a]? = some (drO cs (n + 1) r) := List.getElem?_set_self hl
  have h3 : ∀ σ, subK σ (.int (n + 1)) (.ref a) (.str [97, 116]) st = .nx σ (st.set a (drO cs (n + 1) r)) := fun σ => subK_s h (dr_sub hk hr2)
  generalize st.set a (drO cs (n + 1) r) = st2 at h2 h3
  unfold b__law_next
  have m1 : mulOk 31 (n + 1) = true := mulOk_l (by decide)
  have m2 : mulOk (31 * (n + 1)) (n + 1) = true := mulOk_r (by omega)
  have m3 : mulOk 7919 (n + 1) = true := mulOk_l (by decide)
  have m4 : ∀ x : Int, mulOk x 48271 = true := fun x => mulOk_r (by decide)
  have m5 : ∀ x y : Int, mulOk (x % 2147483647) y = true := fun x y => mulOk_l (by omega)
  have d1 : divOk 7 = true := divOk_s (by decide) (by decide)
  have c1 : (0 : Int) < 2147483647 := by decide
  have p1 := plains_ints 7 cs
  erw [lk_rd h, lk_rd h2, kv_at, kv_cells, h3, m1, m2, m3, D.plain, p1, pls_nil, D.eqv, eqv_nil]
  by_cases hc : cs = []
  · subst hc
    erw [d1, c1, hm, m4, drw]
  · have hl1 : 0 < cs.length := List.length_pos_iff.mpr hc
    have hl2 : (0 : Int) < cs.length := by omega
    have i1 : ixD (cs.map D.int) ((n + 1) % (cs.length : Int)) = some (.int (cs.getD ((n + 1) % (cs.length : Int)).toNat 0)) := by
      have g1 := Int.emod_nonneg (n + 1) (show (cs.length : Int) ≠ 0 by omega)
      have g2 := Int.emod_lt_of_pos (n + 1) hl2
      rw [ixD_nn _ g1, List.getElem?_map, List.getD_eq_getElem?_getD, List.getElem?_eq_getElem (by omega)]
      rfl
    have hl3 : cs.length < 2 ^ 60 := hcl
    have d2 : divOk (cs.length : Int) = true := divOk_s hl2 (by omega)
    erw [hc, List.length_map, hl2, i1, m5, c1, m4, d1, d2, hm, drw]

/-- a drawer at a place of the store -/
structure Dw (st : Store) (a : Nat) (cs : List Int) (n : Int) (r : List (Ky × D)) : Prop where
  at_ : st[a]? = some (drO cs n r)
  pure : D.purek r = true
  small : r.length < 1000
  noat : ∀ p ∈ r, p.1 ≠ .s [97, 116]
  nn : 0 ≤ n
  len : cs.length < 2 ^ 60
theorem Dw.lt {st : Store} {a : Nat} {cs : List Int} {n : Int} {r : List (Ky × D)} (h : Dw st a cs n r) : a < st.length := (List.getElem?_eq_some_iff.mp h.at_).1
theorem Dw.set {st : Store} {a : Nat} {cs : List Int} {n m : Int} {r : List (Ky × D)} (h : Dw st a cs n r) (hm : 0 ≤ m) : Dw (st.set a (drO cs m r)) a cs m r :=
  ⟨List.getElem?_set_self h.lt, h.pure, h.small, h.noat, hm, h.len⟩
theorem Dw.rfl {st : Store} {a : Nat} {cs : List Int} {n : Int} {r : List (Ky × D)} (h : Dw st a cs n r) : st.set a (drO cs n r) = st := by
  obtain ⟨hl, he⟩ := List.getElem?_eq_some_iff.mp h.at_
  rw [← he, List.set_getElem_self]
theorem Dw.next {k : Nat} {a : Nat} {m n : Int} {cs : List Int} {r : List (Ky × D)} {st : Store} (h : Dw st a cs n r) (hn : n < 2 ^ 60) (hm : 0 < m) :
    runF (PG rp) (k + 1) i__law_next [.ref a, .int m] st = .ok (.int (drw cs (n + 1) m)) (st.set a (drO cs (n + 1) r)) := c_next h.at_ h.pure h.small h.noat h.nn hn h.len hm
/-- .. behind draws -/
theorem Dw.next2 {k : Nat} {a : Nat} {m n n' : Int} {cs : List Int} {r : List (Ky × D)} {st : Store} (h : Dw st a cs n r) (h0 : 0 ≤ n') (hn : n' < 2 ^ 60) (hm : 0 < m) :
    runF (PG rp) (k + 1) i__law_next [.ref a, .int m] (st.set a (drO cs n' r)) = .ok (.int (drw cs (n' + 1) m)) (st.set a (drO cs (n' + 1) r)) := by rw [(h.set h0).next hn hm, List.set_set]
theorem Dw.trunc {st : Store} {a : Nat} {cs : List Int} {n m : Int} {r : List (Ky × D)} (h : Dw st a cs n r) : trunc st (st.set a (drO cs m r)) = some (st.set a (drO cs m r)) := trunc_set (drO_pure h.pure)
/-! ### songs as data -/
abbrev NoteT := List Nat × List Nat × Int × Int
def encNote (x : NoteT) : D := .tup [.str x.1, .str x.2.1, .int x.2.2.1, .int x.2.2.2]
abbrev TieT := List Nat × List Nat × List Nat × List Int × Int × Int
def encTie (x : TieT) : D := .tup [.str x.1, .str x.2.1, .str x.2.2.1, ti x.2.2.2.1, .int x.2.2.2.2.1, .int x.2.2.2.2.2]
abbrev HomeT := List Nat × List Nat
def encHome (x : HomeT) : D := .tup [.str x.1, .str x.2]
def encHm : Option HomeT → D
  | none => .non
  | some x => encHome x
structure Sg where
  ns : List NoteT
  ts : List TieT
  hm : Option HomeT
def encSg (s : Sg) : D := .tup [.tup (s.ns.map encNote), .tup (s.ts.map encTie), encHm s.hm]
theorem lk_note (s : Store) (x : NoteT) : look s (encNote x) = encNote x := rfl
theorem lk_tie (s : Store) (x : TieT) : look s (encTie x) = encTie x := rfl
theorem lk_home (s : Store) (x : HomeT) : look s (encHome x) = encHome x := rfl
theorem lk_hm (s : Store) (x : Option HomeT) : look s (encHm x) = encHm x := by cases x <;> rfl
theorem lk_sg (s : Store) (x : Sg) : look s (encSg x) = encSg x := rfl
theorem ixn0 (x : NoteT) : idxD (encNote x) (.int 0) = some (.str x.1) := rfl
theorem ixn1 (x : NoteT) : idxD (encNote x) (.int 1) = some (.str x.2.1) := rfl
theorem ixn2 (x : NoteT) : idxD (encNote x) (.int 2) = some (.int x.2.2.1) := rfl
theorem ixn3 (x : NoteT) : idxD (encNote x) (.int 3) = some (.int x.2.2.2) := rfl
theorem ixt0 (x : TieT) : idxD (encTie x) (.int 0) = some (.str x.1) := rfl
theorem ixt1 (x : TieT) : idxD (encTie x) (.int 1) = some (.str x.2.1) := rfl
theorem ixt2 (x : TieT) : idxD (encTie x) (.int 2) = some (.str x.2.2.1) := rfl
theorem ixt3 (x : TieT) : idxD (encTie x) (.int 3) = some (ti x.2.2.2.1) := rfl
theorem ixh0 (x : HomeT) : idxD (encHome x) (.int 0) = some (.str x.1) := rfl
theorem ixh1 (x : HomeT) : idxD (encHome x) (.int 1) = some (.str x.2) := rfl
theorem sl_tie3 (x : TieT) : slcD (encTie x) none (some 3) = some (.tup [.str x.1, .str x.2.1, .str x.2.2.1]) := rfl
theorem pures_enc {α : Type} {f : α → D} (h : ∀ x, (f x).pure = true) : ∀ l : List α, D.pures (l.map f) = true
  | [] => rfl
  | x :: l => by simp [D.pures, h x, pures_enc h l]
theorem pure_note (x : NoteT) : (encNote x).pure = true := rfl
theorem pure_tie (x : TieT) : (encTie x).pure = true := by
  have := pure_ti x.2.2.2.1
  simp only [ti, D.pure] at this
  simp [encTie, D.pure, D.pures, this]
theorem pure_hm (x : Option HomeT) : (encHm x).pure = true := by cases x <;> rfl
theorem pure_sg (s : Sg) : (encSg s).pure = true := by
  simp only [encSg, D.pure, D.pures, pures_enc pure_note, pures_enc pure_tie, pure_hm, Bool.and_self]
def PUREW : List Nat := [112, 117, 114, 101]
def HELD : List Nat := [104, 101, 108, 100]
def STEPW : List Nat := [115, 116, 101, 112]
def NOTEW : List Nat := [110, 111, 116, 101]
def TIEW1 : List Nat := [116, 105, 101]
def HOMEW : List Nat := [104, 111, 109, 101]
/-! ### songs looked at, as the program has it -/
def ovl (a b : NoteT) : Bool := decide ((if b.2.2.1 > a.2.2.1 then b.2.2.1 else a.2.2.1) < (if b.2.2.2 < a.2.2.2 then b.2.2.2 else a.2.2.2))
theorem ovl_iff (a b : NoteT) : ovl a b = true ↔ a.2.2.1 < a.2.2.2 ∧ a.2.2.1 < b.2.2.2 ∧ b.2.2.1 < a.2.2.2 ∧ b.2.2.1 < b.2.2.2 := by
  simp only [ovl, decide_eq_true_eq]
  split <;> split <;> omega
theorem ovl_comm (a b : NoteT) : ovl a b = ovl b a := by
  rw [Bool.eq_iff_iff, ovl_iff, ovl_iff]; omega
def goodN (ahead : List NoteT) (x : NoteT) : Bool := decide (ahead.length < 40) && (decide (x.2.2.1 < x.2.2.2) && ahead.all fun o => decide (o.1 ≠ x.1) && (decide (o.2.1 ≠ x.2.1) || !ovl o x))
def findN (ns : List NoteT) (w : List Nat) : Option NoteT := ns.find? fun x => decide (x.1 = w)
def fitT (t : TieT) (a b : NoteT) : Bool := if t.1 = PUREW then ovl a b else decide (a.2.2.2 ≤ b.2.2.1) && (decide (t.1 = HELD) || decide (a.2.1 = b.2.1))
def goodT (ns : List NoteT) (t : TieT) : Bool := match findN ns t.2.1, findN ns t.2.2.1 with
  | some a, some b => !decide (t.2.1 = t.2.2.1) && fitT t a b
  | _, _ => false
def wrongN (ns : List NoteT) (i : Nat) : Bool := match ns[i]? with
  | some x => !goodN (ns.take i) x
  | none => false
def wrongT (s : Sg) (i : Nat) : Bool := match s.ts[i]? with
  | some t => decide (80 ≤ i) || !goodT s.ns t
  | none => false
def wrongH (s : Sg) : Bool := match s.hm with
  | none => false
  | some x => !(findN s.ns x.1).isSome || (!(findN s.ns x.2).isSome || decide (x.1 = x.2))
/-- the first thing that is wrong -/
def needS (s : Sg) : Option (List Nat × Nat) := match firstB (wrongN s.ns) s.ns.length with
  | some k => some (NOTEW, k)
  | none => match firstB (wrongT s) s.ts.length with
    | some k => some (TIEW1, k)
    | none => if wrongH s then some (HOMEW, 0) else none
def knownOf (ns : List NoteT) : List (Ky × D) := ns.map fun x => (.s x.1, encNote x)
def NamesNd (ns : List NoteT) : Prop := ns.Pairwise fun a b => a.1 ≠ b.1
theorem nd_of_good {ns : List NoteT} (h : ∀ i, i < ns.length → wrongN ns i = false) : NamesNd ns := by
  unfold NamesNd
  rw [List.pairwise_iff_getElem]
  intro i j hi hj hij
  have := h j hj
  simp only [wrongN, List.getElem?_eq_getElem hj, Bool.not_eq_false', goodN, Bool.and_eq_true, List.all_eq_true, decide_eq_true_eq] at this
  exact (this.2.2 ns[i] (by
    rw [List.mem_take_iff_getElem]
    exact ⟨i, by omega, rfl⟩)).1
theorem known_get (ns : List NoteT) (w : List Nat) : kvGet (.s w) (knownOf ns) = (findN ns w).map encNote := kvGet_map (fun x : NoteT => x.1) encNote w ns
theorem known_dict {ns : List NoteT} (h : NamesNd ns) : dictOf (knownOf ns) = knownOf ns := by
  refine dictOf_nd ?_
  unfold knownOf
  rw [List.map_map, List.nodup_iff_pairwise_ne, List.pairwise_map]
  exact h.imp fun hne e => hne (by simpa using e)
section
variable {st : Store} {k : Nat}
theorem c_is_overlap (a b : NoteT) : runF (PG rp) (k + 1) i_is_overlap [encNote a, encNote b] st = .ok (.bl (ovl a b)) st := by
  refine run_p (F := f_is_overlap) rfl rfl rfl rfl ?_
  show wS (evSs _ _ [some (encNote a), some (encNote b)] b_is_overlap st) _ _ _
  unfold b_is_overlap
  simp_all only [lk_note, ixn2, ixn3]
  exact ⟨rfl, rfl⟩
end
/-! ### the drawer begun, forty-eight names -/
theorem c_next_l {k : Nat} {m n : Int} {cs : List Int} {r : List (Ky × D)} {st : Store} (hr : D.purek r = true) (hk : r.length < 1000) (hr2 : ∀ p ∈ r, p.1 ≠ .s [97, 116]) (h0 : 0 ≤ n) (hn : n < 2 ^ 60) (hcl : cs.length < 2 ^ 60) (hm : 0 < m) :
    runF (PG rp) (k + 1) i__law_next [.ref st.length, .int m] (st ++ [drO cs n r]) = .ok (.int (drw cs (n + 1) m)) (st ++ [drO cs (n + 1) r]) := by
  rw [c_next (get_last _ _) hr hk hr2 h0 hn hcl hm, set_last]
def signs : List Nat := [109, 99, 120, 103, 116, 97, 113, 101, 114, 98, 118, 107, 100, 117, 110, 104, 115, 112, 106, 102, 119, 108, 105, 111]
/-- the names that are drawn from a rest and a place -/
def names24 (rest : List Nat) (a : Nat) : List (List Nat) := signs.map fun c => rest.take a ++ [c] ++ rest.drop a
def namesOf (rest : List Nat) (a : Nat) : List (List Nat) := names24 rest a ++ (names24 rest a).map fun w => w ++ [121]
def namesR (rest : List Nat) (a : Nat) : List (Ky × D) := [(.s [110, 97, 109, 101, 115], .lst ((namesOf rest a).map .str))]
theorem pures_strs : ∀ l : List (List Nat), D.pures (l.map .str) = true
  | [] => rfl
  | x :: l => by simp [D.pures, D.pure, pures_strs l]
theorem namesR_pure (rest : List Nat) (a : Nat) : D.purek (namesR rest a) = true := by simp [namesR, D.purek, D.pure, pures_strs]
theorem namesR_at (rest : List Nat) (a : Nat) : ∀ p ∈ namesR rest a, p.1 ≠ .s [97, 116] := by simp [namesR]
theorem names_sub {cs : List Int} {n : Int} {rest : List Nat} {a : Nat} : subO (drO cs n []) (.str [110, 97, 109, 101, 115]) (.lst ((namesOf rest a).map .str)) = some (drO cs n (namesR rest a)) := by
  simp [drO, subO, keyD, kvPut, namesR, LIM]
theorem c_begun {k : Nat} {cs : List Int} {st : Store} (hcl : cs.length < 2 ^ 60) : wR (runF (PG rp) (k + 2) i__law_begun [.lst (cs.map .int)] st)
    (fun d s => ∃ n rest a, d = .ref st.length ∧ s = st ++ [drO cs n (namesR rest a)] ∧ 0 ≤ n ∧ n ≤ 20 ∧ rest.length ≤ 6 ∧ a ≤ rest.length ∧ ∀ c ∈ rest, c ∈ [113, 122, 106, 118]) nX := by
  refine run_w (F := f__law_begun) rfl rfl rfl ?_
  show wS (evSs _ _ [some (.lst (cs.map .int)), none, none, none, none, none, none, none] b__law_begun st) _ _ _
  unfold b__law_begun
  have e0 : st ++ [.dct (dictOf [(.s [99, 101, 108, 108, 115], .lst (cs.map .int)), (.s [97, 116], .int 0)])] = st ++ [drO cs 0 []] := rfl
  have ps : pairsOf [.tup [.str [99, 101, 108, 108, 115], .lst (cs.map .int)], .tup [.str [97, 116], .int 0]] = some [(.s [99, 101, 108, 108, 115], .lst (cs.map .int)), (.s [97, 116], .int 0)] := rfl
  obtain ⟨v, hv⟩ : ∃ v, v = drw cs (0 + 1) 7 := ⟨_, rfl⟩
  have v0 : 0 ≤ v := hv ▸ drw_nn (by decide)
  have v8 : v < 7 := hv ▸ drw_lt (by decide)
  simp only [rb_ok, rb_ex, rb_bad, ro_some, so_ok, so_ex, sq_nx, sq_rt, sq_ex, bd_bl, bd_ex, fin_f, fin_l, fin_d, lk_non, lk_bl, lk_int, lk_str, lk_tup, lk_lst, lk_dct, lk_obj, lk_exc, dlk_non, dlk_bl, dlk_int, dlk_str, dlk_tup, dlk_lst, dlk_dct, bn_add, bn_sub, bn_mul, bn_sadd, bn_ladd, bn_tadd, bn_smul, bn_lmul, bn_div, bn_mod, bn_pow, cd_eq, cd_ne, cd_lt, cd_le, cd_gt, cd_ge, cd_in, cd_ni, ce_eq, ce_ne, ce_lt, ce_le, ce_gt, ce_ge, ce_in, ce_ni, pl_int, pl_str, pl_bl, pl_non, ev_ii, ev_ss, bi_len_l, bi_len_t, bi_len_s, bi_len_d, bi_max2, bi_min2, bi_min2s, bi_tup_l, bi_tup_t, bi_lst_l, bi_lst_t, bi_int_i, bi_int_b, bi_int_s, bi_str_i, bi_abs, ix_l, ix_t, ix_s, ix_d, bg_nm, bg_tp, bg_tpl, bg_nil, bg_cons, iffK_t, iffK_f, ifeK_t, ifeK_f, andK_t, andK_f, orK_t, orK_f, finO_s, okO_s, chnK_t, chnK_f, negK_i, isbK_b, bmK_ap, bmK_rv, bmK_pp, bmK_cl, bmK_sd, bmK_jn, bmK_g, bmK_g2, bmK_ix, bnd_i, e_no, e_var, e_non, e_bl, e_int, e_str, e_tup, e_lst, e_dct, e_bin, e_rpl, e_neg, e_nt, e_cmp, e_chn, e_isn, e_isb, e_and, e_or, e_ife, e_idx, e_slc, e_stp, e_atr, e_call, e_mth, e_bi, e_bm, e_isi, e_lc, e_glb, e_fnv, e_clv, es_nil, es_cons, ek_nil, ek_cons, et, zipK_ll, zipK_tt, zipK_lt, zipK_tl, enmK_l, enmK_t, revK_l, itmK_d, vlsK_d, sq_l, sq_t, sq_s, ei_seq, ei_rng1, ei_rng2, ei_rng3, ei_zip, ei_enm, ei_rev, ei_itm, ei_vls, t_nm, tpK_s, t_tp, t_sub, t_fld, s_asg, s_par, s_exp, s_ret, s_iff, s_fr, s_whl, s_rse, tryK_nx, tryK_rt, tryK_ex, s_tr, hsN_nx, hsN_rt, hsS_nx, hsS_rt, hs_nl, hs_cn, hs_cs, s_pss, ss_nl, ss_cn, wR_ok, wR_ex, wS_nx, wS_rt, wS_ex, wR_bind, wS_seq, wS_of, wR_boolD, wS_tr, wS_hsN, wS_hsS, lcK, slcK, bndK, sl_l, sl_t, sl_s, bm_join, in_ss, in_l, in_t, List.getElem?_cons_zero, List.getElem?_cons_succ, Option.getD_some, Option.getD_none, List.set_cons_zero, List.set_cons_succ, Option.bind_some, Option.map_some, List.map_cons, List.map_nil, if_true, if_false, ite_true, ite_false, reduceIte, decide_true, decide_false, Bool.not_true, Bool.not_false, Bool.and_true, Bool.true_and, Bool.and_self, Bool.and_false, Bool.false_and, Bool.false_eq_true, and_self, and_true, true_and, and_false, false_and, bmT, LIM, List.length_cons, List.length_nil, List.length_map, Nat.zero_add, Option.some.injEq, D.bl.injEq, bq_t, bq_f, exists_eq_left', slotsG, slotsG.slotsGs, wipeE, E.isNo, List.append_nil, List.cons_append, List.nil_append, List.append_eq, Nat.reduceAdd, Nat.reduceLeDiff, Nat.reduceMul, Nat.reduceSub, dctK_s _ _ _ ps, e0, c_next_l (cs := cs) (r := []) (n := 0) (m := 7) rfl (by decide) (by simp) (by decide) (by decide) hcl (by decide), ← hv, rng1K_i (n := v) _ (smallII (by omega) (by omega))]
  refine wR_lc (fun i acc s => s = st ++ [drO cs (1 + i) []] ∧ ∃ l : List Nat, l.length = i ∧ (∀ c ∈ l, c ∈ [113, 122, 106, 118]) ∧ acc = l.map fun c => .str [c]) ⟨rfl, [], rfl, by simp, rfl⟩ ?_ ?_
  · rintro i d acc s hi ⟨rfl, l, rfl, hl, rfl⟩
    obtain ⟨h1, rfl⟩ := rngL_get hi
    refine ⟨_, bg_nm _ _ _, ?_⟩
    obtain ⟨w, hw⟩ : ∃ w, w = drw cs (1 + (l.length : Int) + 1) 4 := ⟨_, rfl⟩
    have w0 : 0 ≤ w := hw ▸ drw_nn (by decide)
    have w4 : w < 4 := hw ▸ drw_lt (by decide)
    have hx : ∃ c, ixD [113, 122, 106, 118] w = some c ∧ c ∈ [113, 122, 106, 118] := by
      have : w = 0 ∨ w = 1 ∨ w = 2 ∨ w = 3 := by omega
      rcases this with h | h | h | h <;> rw [h] <;> exact ⟨_, rfl, by decide⟩
    obtain ⟨c, hc, hc2⟩ := hx
    simp only [rb_ok, rb_ex, rb_bad, ro_some, so_ok, so_ex, sq_nx, sq_rt, sq_ex, bd_bl, bd_ex, fin_f, fin_l, fin_d, lk_non, lk_bl, lk_int, lk_str, lk_tup, lk_lst, lk_dct, lk_obj, lk_exc, dlk_non, dlk_bl, dlk_int, dlk_str, dlk_tup, dlk_lst, dlk_dct, bn_add, bn_sub, bn_mul, bn_sadd, bn_ladd, bn_tadd, bn_smul, bn_lmul, bn_div, bn_mod, bn_pow, cd_eq, cd_ne, cd_lt, cd_le, cd_gt, cd_ge, cd_in, cd_ni, ce_eq, ce_ne, ce_lt, ce_le, ce_gt, ce_ge, ce_in, ce_ni, pl_int, pl_str, pl_bl, pl_non, ev_ii, ev_ss, bi_len_l, bi_len_t, bi_len_s, bi_len_d, bi_max2, bi_min2, bi_min2s, bi_tup_l, bi_tup_t, bi_lst_l, bi_lst_t, bi_int_i, bi_int_b, bi_int_s, bi_str_i, bi_abs, ix_l, ix_t, ix_s, ix_d, bg_nm, bg_tp, bg_tpl, bg_nil, bg_cons, iffK_t, iffK_f, ifeK_t, ifeK_f, andK_t, andK_f, orK_t, orK_f, finO_s, okO_s, chnK_t, chnK_f, negK_i, isbK_b, bmK_ap, bmK_rv, bmK_pp, bmK_cl, bmK_sd, bmK_jn, bmK_g, bmK_g2, bmK_ix, bnd_i, e_no, e_var, e_non, e_bl, e_int, e_str, e_tup, e_lst, e_dct, e_bin, e_rpl, e_neg, e_nt, e_cmp, e_chn, e_isn, e_isb, e_and, e_or, e_ife, e_idx, e_slc, e_stp, e_atr, e_call, e_mth, e_bi, e_bm, e_isi, e_lc, e_glb, e_fnv, e_clv, es_nil, es_cons, ek_nil, ek_cons, et, zipK_ll, zipK_tt, zipK_lt, zipK_tl, enmK_l, enmK_t, revK_l, itmK_d, vlsK_d, sq_l, sq_t, sq_s, ei_seq, ei_rng1, ei_rng2, ei_rng3, ei_zip, ei_enm, ei_rev, ei_itm, ei_vls, t_nm, tpK_s, t_tp, t_sub, t_fld, s_asg, s_par, s_exp, s_ret, s_iff, s_fr, s_whl, s_rse, tryK_nx, tryK_rt, tryK_ex, s_tr, hsN_nx, hsN_rt, hsS_nx, hsS_rt, hs_nl, hs_cn, hs_cs, s_pss, ss_nl, ss_cn, wR_ok, wR_ex, wS_nx, wS_rt, wS_ex, wR_bind, wS_seq, wS_of, wR_boolD, wS_tr, wS_hsN, wS_hsS, lcK, slcK, bndK, sl_l, sl_t, sl_s, bm_join, in_ss, in_l, in_t, List.getElem?_cons_zero, List.getElem?_cons_succ, Option.getD_some, Option.getD_none, List.set_cons_zero, List.set_cons_succ, Option.bind_some, Option.map_some, List.map_cons, List.map_nil, if_true, if_false, ite_true, ite_false, reduceIte, decide_true, decide_false, Bool.not_true, Bool.not_false, Bool.and_true, Bool.true_and, Bool.and_self, Bool.and_false, Bool.false_and, Bool.false_eq_true, and_self, and_true, true_and, and_false, false_and, bmT, LIM, List.length_cons, List.length_nil, List.length_map, Nat.zero_add, Option.some.injEq, D.bl.injEq, bq_t, bq_f, exists_eq_left', slotsG, slotsG.slotsGs, wipeE, E.isNo, List.append_nil, List.cons_append, List.nil_append, List.append_eq, Nat.reduceAdd, Nat.reduceLeDiff, Nat.reduceMul, Nat.reduceSub, c_next_l (cs := cs) (r := []) (n := 1 + (l.length : Int)) (m := 4) rfl (by decide) (by simp) (by omega) (by omega) hcl (by decide), ← hw, hc, srcB]
    refine ⟨by rw [show (1 : Int) + l.length + 1 = 1 + ((l.length + 1 : Nat) : Int) by omega], l ++ [c], by simp, ?_, by simp⟩
    intro x hx
    rcases List.mem_append.mp hx with h | h
    · exact hl x h
    · rw [List.mem_singleton.mp h]; exact hc2
  · rintro acc s ⟨rfl, l, hl, hl2, rfl⟩
    rw [rngL_len] at hl
    have z1 : l.length ≤ 16777216 := by omega
    have z2 : strsOf (l.map fun c => D.str [c]) = some (l.map fun c => [c]) := strs_map _ _
    have hl7 : l.length ≤ 6 := by omega
    obtain ⟨w, hw⟩ : ∃ w, w = drw cs (1 + ((rngL 0 v.toNat 1).length : Int) + 1) (l.length + 1) := ⟨_, rfl⟩
    have w0 : 0 ≤ w := hw ▸ drw_nn (by omega)
    have wl : w < l.length + 1 := hw ▸ drw_lt (by omega)
    simp only [rb_ok, rb_ex, rb_bad, ro_some, so_ok, so_ex, sq_nx, sq_rt, sq_ex, bd_bl, bd_ex, fin_f, fin_l, fin_d, lk_non, lk_bl, lk_int, lk_str, lk_tup, lk_lst, lk_dct, lk_obj, lk_exc, dlk_non, dlk_bl, dlk_int, dlk_str, dlk_tup, dlk_lst, dlk_dct, bn_add, bn_sub, bn_mul, bn_sadd, bn_ladd, bn_tadd, bn_smul, bn_lmul, bn_div, bn_mod, bn_pow, cd_eq, cd_ne, cd_lt, cd_le, cd_gt, cd_ge, cd_in, cd_ni, ce_eq, ce_ne, ce_lt, ce_le, ce_gt, ce_ge, ce_in, ce_ni, pl_int, pl_str, pl_bl, pl_non, ev_ii, ev_ss, bi_len_l, bi_len_t, bi_len_s, bi_len_d, bi_max2, bi_min2, bi_min2s, bi_tup_l, bi_tup_t, bi_lst_l, bi_lst_t, bi_int_i, bi_int_b, bi_int_s, bi_str_i, bi_abs, ix_l, ix_t, ix_s, ix_d, bg_nm, bg_tp, bg_tpl, bg_nil, bg_cons, iffK_t, iffK_f, ifeK_t, ifeK_f, andK_t, andK_f, orK_t, orK_f, finO_s, okO_s, chnK_t, chnK_f, negK_i, isbK_b, bmK_ap, bmK_rv, bmK_pp, bmK_cl, bmK_sd, bmK_jn, bmK_g, bmK_g2, bmK_ix, bnd_i, e_no, e_var, e_non, e_bl, e_int, e_str, e_tup, e_lst, e_dct, e_bin, e_rpl, e_neg, e_nt, e_cmp, e_chn, e_isn, e_isb, e_and, e_or, e_ife, e_idx, e_slc, e_stp, e_atr, e_call, e_mth, e_bi, e_bm, e_isi, e_lc, e_glb, e_fnv, e_clv, es_nil, es_cons, ek_nil, ek_cons, et, zipK_ll, zipK_tt, zipK_lt, zipK_tl, enmK_l, enmK_t, revK_l, itmK_d, vlsK_d, sq_l, sq_t, sq_s, ei_seq, ei_rng1, ei_rng2, ei_rng3, ei_zip, ei_enm, ei_rev, ei_itm, ei_vls, t_nm, tpK_s, t_tp, t_sub, t_fld, s_asg, s_par, s_exp, s_ret, s_iff, s_fr, s_whl, s_rse, tryK_nx, tryK_rt, tryK_ex, s_tr, hsN_nx, hsN_rt, hsS_nx, hsS_rt, hs_nl, hs_cn, hs_cs, s_pss, ss_nl, ss_cn, wR_ok, wR_ex, wS_nx, wS_rt, wS_ex, wR_bind, wS_seq, wS_of, wR_boolD, wS_tr, wS_hsN, wS_hsS, lcK, slcK, bndK, sl_l, sl_t, sl_s, bm_join, in_ss, in_l, in_t, List.getElem?_cons_zero, List.getElem?_cons_succ, Option.getD_some, Option.getD_none, List.set_cons_zero, List.set_cons_succ, Option.bind_some, Option.map_some, List.map_cons, List.map_nil, if_true, if_false, ite_true, ite_false, reduceIte, decide_true, decide_false, Bool.not_true, Bool.not_false, Bool.and_true, Bool.true_and, Bool.and_self, Bool.and_false, Bool.false_and, Bool.false_eq_true, and_self, and_true, true_and, and_false, false_and, bmT, LIM, List.length_cons, List.length_nil, List.length_map, Nat.zero_add, Option.some.injEq, D.bl.injEq, bq_t, bq_f, exists_eq_left', slotsG, slotsG.slotsGs, wipeE, E.isNo, List.append_nil, List.cons_append, List.nil_append, List.append_eq, Nat.reduceAdd, Nat.reduceLeDiff, Nat.reduceMul, Nat.reduceSub, z1, z2, sum_len1, join_each, Nat.mul_zero, Nat.add_zero, c_next_l (cs := cs) (r := []) (n := 1 + ((rngL 0 v.toNat 1).length : Int)) (m := (l.length : Int) + 1) rfl (by decide) (by simp) (by omega) (by rw [rngL_len]; omega) hcl (by omega), ← hw]
    refine wR_lcMap signs (fun c => .str [c]) (fun c => .str (l.take w.toNat ++ [c] ++ l.drop w.toNat)) rfl (fun c hc => ⟨_, by erw []; rfl, rfl, ?_⟩) ?_
    · have y1 : (l.take w.toNat).length + 1 ≤ 16777216 := by rw [List.length_take]; omega
      have y2 : (l.take w.toNat).length + 1 + (l.drop w.toNat).length ≤ 16777216 := by rw [List.length_take, List.length_drop]; omega
      erw [cut_lo l w0 (by omega), cut_hi l w0, y1, y2, List.length_append]
    have hm : (signs.map fun c => D.str (l.take w.toNat ++ [c] ++ l.drop w.toNat)) = (names24 l w.toNat).map .str := by simp [names24]
    rw [hm]
    have n24 : (names24 l w.toNat).length = 24 := by simp [names24, signs]
    have sb : ∀ (σ : Env) n, subK σ (.lst ((namesOf l w.toNat).map .str)) (.ref st.length) (.str [110, 97, 109, 101, 115]) (st ++ [drO cs n []]) = .nx σ (st ++ [drO cs n (namesR l w.toNat)]) := fun σ n => by rw [subK_s (get_last _ _) names_sub, set_last]
    have e48 : (names24 l w.toNat).map D.str ++ (names24 l w.toNat).map (fun x => D.str (x ++ [121])) = (namesOf l w.toNat).map .str := by simp [namesOf]
    have z24 : (names24 l w.toNat).length ≤ 16777216 := by omega
    simp_all only [z24]
    refine wR_lcMap (names24 l w.toNat) D.str (fun x => .str (x ++ [121])) rfl (fun x hx => ⟨_, by erw []; rfl, rfl, ?_⟩) ?_
    · have hx8 : x.length ≤ 100 := by
        obtain ⟨c, _, rfl⟩ := List.mem_map.mp hx
        simp only [List.length_append, List.length_take, List.length_drop, List.length_singleton]
        omega
      simp_all only []
    simp_all only [z24, e48, sb]
    refine wR_of_eq (leave_own (drO_pure (namesR_pure _ _))) ?_
    exact ⟨_, l, w.toNat, rfl, rfl, by omega, by rw [rngL_len]; omega, hl7, by omega, hl2⟩
theorem kv_names {cs : List Int} {n : Int} {rest : List Nat} {a : Nat} : kvGet (.s [110, 97, 109, 101, 115]) ((.s [99, 101, 108, 108, 115], .lst (cs.map .int)) :: (.s [97, 116], .int n) :: namesR rest a) = some (.lst ((namesOf rest a).map .str)) := by simp [kvGet, namesR]
theorem names24_len (rest : List Nat) (a : Nat) : (names24 rest a).length = 24 := by simp [names24, signs]
theorem names_len (rest : List Nat) (a : Nat) : (namesOf rest a).length = 48 := by simp [namesOf, names24_len]
theorem name24_len {rest : List Nat} {a : Nat} {w : List Nat} (h : w ∈ names24 rest a) : w.length = rest.length + 1 := by
  obtain ⟨c, _, rfl⟩ := List.mem_map.mp h
  simp [List.length_take, List.length_drop]
  omega
theorem names24_nd (rest : List Nat) (a : Nat) : (names24 rest a).Nodup := by
  unfold names24
  rw [List.nodup_iff_pairwise_ne, List.pairwise_map]
  have hs : signs.Pairwise (· ≠ ·) := by decide
  refine hs.imp fun {c d} hne e => hne ?_
  have := List.append_cancel_right e
  have := List.append_cancel_left this
  simpa using this
/-- no two names are alike -/
theorem names_nd (rest : List Nat) (a : Nat) : (namesOf rest a).Nodup := by
  unfold namesOf
  rw [List.nodup_append]
  refine ⟨names24_nd rest a, ?_, ?_⟩
  · rw [List.nodup_iff_pairwise_ne, List.pairwise_map]
    exact (List.nodup_iff_pairwise_ne.mp (names24_nd rest a)).imp fun hne e => hne (List.append_cancel_right e)
  · rintro x hx y hy rfl
    obtain ⟨z, hz, e⟩ := List.mem_map.mp hy
    have := congrArg List.length e
    rw [List.length_append, name24_len hz, name24_len hx] at this
    simp at this
/-- the i-th name -/
theorem name_at {rest : List Nat} {a : Nat} {i : Int} (h0 : 0 ≤ i) (h : i < 48) : ∃ w, (namesOf rest a)[i.toNat]? = some w ∧ ixD ((namesOf rest a).map D.str) i = some (.str w) := by
  have hn : i.toNat < (namesOf rest a).length := by rw [names_len]; omega
  refine ⟨(namesOf rest a)[i.toNat], List.getElem?_eq_getElem hn, ?_⟩
  rw [ixD_nn _ h0, List.getElem?_map, List.getElem?_eq_getElem hn]
  rfl
/-! ### the law's own look -/
section
variable {st : Store} {k : Nat}
theorem plains_notes (ns : List NoteT) (n : Nat) : D.plains (n + 1) (ns.map encNote) = true := plains_mapc fun x _ => by
  rw [encNote, pl_tup, pls_cons, pls_cons, pls_cons, pls_cons, pl_str, pl_str, pl_int, pl_int]; rfl
theorem eqvs_nil {α : Type} (f : α → D) (l : List α) : D.eqvs (l.map f) [] = decide (l = []) := by cases l <;> simp [D.eqvs]
/-- beats looked at one by one -/
theorem c_loverlap (a b : NoteT) (h : 0 ≤ a.2.2.1) (h1 : a.2.2.1 ≤ 1000000) (h2 : 0 ≤ a.2.2.2) (h3 : a.2.2.2 ≤ 400) : runF (PG rp) (k + 1) i__law_overlap [encNote a, encNote b] st = .ok (.bl (ovl a b)) st := by
  refine run_p (F := f__law_overlap) rfl rfl rfl rfl ?_
  show wS (evSs _ _ [some (encNote a), some (encNote b), none] b__law_overlap st) _ _ _
  unfold b__law_overlap
  have mn : (if (400 : Int) < a.2.2.2 then 400 else a.2.2.2) = a.2.2.2 := if_neg (by omega)
  simp_all only [lk_note, ixn2, ixn3, mn]
  refine wR_lcFilt (List.range (a.2.2.2 - a.2.2.1).toNat) (fun i : Nat => .int (a.2.2.1 + (i : Int) * 1)) (fun i : Nat => .int (a.2.2.1 + (i : Int) * 1)) (fun i => decide (b.2.2.1 ≤ a.2.2.1 + (i : Int)) && decide (a.2.2.1 + (i : Int) < b.2.2.2)) rfl (fun i hi => ⟨_, by erw []; rfl, ?_, fun _ => by erw []⟩) ?_
  · by_cases e1 : b.2.2.1 ≤ a.2.2.1 + (i : Int)
    · simp_all only [lk_note, ixn2, ixn3, e1, Int.mul_one]
    · simp_all only [lk_note, ixn2, ixn3, e1, Int.mul_one]
  · have hl : ((List.range (a.2.2.2 - a.2.2.1).toNat).filter fun i : Nat => decide (b.2.2.1 ≤ a.2.2.1 + (i : Int)) && decide (a.2.2.1 + (i : Int) < b.2.2.2)).length ≤ 16777216 := Nat.le_trans (List.length_filter_le ..) (by rw [List.length_range]; omega)
    have pl : D.plains 7 (((List.range (a.2.2.2 - a.2.2.1).toNat).filter fun i : Nat => decide (b.2.2.1 ≤ a.2.2.1 + (i : Int)) && decide (a.2.2.1 + (i : Int) < b.2.2.2)).map fun i : Nat => D.int (a.2.2.1 + (i : Int) * 1)) = true := plains_mapc fun _ _ => pl_int _ _
    simp_all only [List.length_map, hl, pl_lst, pl, pls_nil, eqvs_nil]
    refine ⟨?_, rfl⟩
    congr 1
    rw [Bool.eq_iff_iff, ovl_iff, Bool.not_eq_true', decide_eq_false_iff_not, List.filter_eq_nil_iff]
    constructor
    · intro hne
      simp only [List.mem_range, Bool.and_eq_true, decide_eq_true_eq, not_and] at hne
      by_cases hx : a.2.2.1 < a.2.2.2 ∧ a.2.2.1 < b.2.2.2 ∧ b.2.2.1 < a.2.2.2 ∧ b.2.2.1 < b.2.2.2
      · exact hx
      · exact absurd (fun i hi h4 => by omega) hne
    · intro hx hne
      have hi := hne ((if a.2.2.1 < b.2.2.1 then b.2.2.1 else a.2.2.1) - a.2.2.1).toNat
      simp only [List.mem_range, Bool.and_eq_true, decide_eq_true_eq, not_and] at hi
      split at hi
      · exact hi (by omega) (by omega) (by omega)
      · exact hi (by omega) (by omega) (by omega)
end
/-! ### a tie that fits -/
/-- a drawer at a place of the store -/
structure GoodNs (ns : List NoteT) : Prop where
  pw : ns.Pairwise fun a b => a.1 ≠ b.1 ∧ (a.2.1 ≠ b.2.1 ∨ ovl a b = false)
  bd : ∀ x ∈ ns, 0 ≤ x.2.2.1 ∧ x.2.2.1 < x.2.2.2 ∧ x.2.2.2 ≤ 300
  ne : ns ≠ []
  le : ns.length ≤ 40
theorem GoodNs.nd {ns : List NoteT} (h : GoodNs ns) : NamesNd ns := h.pw.imp fun h => h.1
theorem GoodNs.need {ns : List NoteT} (h : GoodNs ns) : ∀ i, i < ns.length → wrongN ns i = false := by
  intro i hi
  have hp := List.pairwise_iff_getElem.mp h.pw
  have hb := h.bd ns[i] (List.getElem_mem hi)
  have hl := h.le
  simp only [wrongN, List.getElem?_eq_getElem hi, Bool.not_eq_false', goodN, Bool.and_eq_true, List.all_eq_true, decide_eq_true_eq, List.length_take]
  refine ⟨by omega, hb.2.1, fun o ho => ?_⟩
  obtain ⟨j, hj, rfl⟩ := List.mem_take_iff_getElem.mp ho
  have := hp j i (by omega) hi (by omega)
  refine ⟨this.1, ?_⟩
  rw [Bool.or_eq_true, decide_eq_true_eq, Bool.not_eq_true']
  exact this.2
theorem findN_at {ns : List NoteT} (h : NamesNd ns) {i : Nat} {x : NoteT} (hx : ns[i]? = some x) : findN ns x.1 = some x := by
  obtain ⟨hi, e⟩ := List.getElem?_eq_some_iff.mp hx
  unfold findN
  rw [List.find?_eq_some_iff_getElem]
  refine ⟨by simp, i, hi, e, fun j hj => ?_⟩
  have := List.pairwise_iff_getElem.mp h j i (by omega) hi hj
  rw [e] at this
  simpa using this
def fitTail : Ss := (.cons (.asg (.g (.nm 6)) (.bi false .tuple (.cons (.lc false (.bin false .sub (.call i__law_next (.cons (.var 0) (.cons (.int 3) .nil))) (.int 1)) (.nm 7) (.rng1 (.int 4)) (.no)) .nil))) (.cons (.iff (.cmp .eq (.var 5) (.str [104, 101, 108, 100])) (.cons (.asg (.g (.nm 6)) (.tup (.cons (.int 0) (.cons (.int 0) (.cons (.int 0) (.cons (.int 0) .nil)))))) .nil) (.nil)) (.cons (.ret (.tup (.cons (.var 5) (.cons (.idx (.var 3) (.int 0)) (.cons (.idx (.var 4) (.int 0)) (.cons (.var 6) (.cons (.call i__law_next (.cons (.var 0) (.cons (.int 100) .nil))) (.cons (.bin false .add (.int 1) (.call i__law_next (.cons (.var 0) (.cons (.int 9) .nil)))) .nil)))))))) .nil)))
/-- small numbers -/
def TieSm (t : TieT) : Prop := t.2.2.2.1.length = 4 ∧ (∀ x ∈ t.2.2.2.1, -1 ≤ x ∧ x ≤ 1) ∧ 0 ≤ t.2.2.2.2.1 ∧ t.2.2.2.2.1 < 100 ∧ 0 ≤ t.2.2.2.2.2 ∧ t.2.2.2.2.2 < 100
def TieFits (ns : List NoteT) (t : TieT) : Prop := goodT ns t = true ∧ (t.1 = HELD ∨ t.1 = PUREW ∨ t.1 = STEPW) ∧ TieSm t
section
variable {st : Store} {k a : Nat} {n : Int} {cs : List Int} {r : List (Ky × D)}
theorem c_fitting {ns : List NoteT} {dn : D} (h : Dw st a cs n r) (hn : n < 2 ^ 58) (hd : ∀ n', look (st.set a (drO cs n' r)) dn = .lst (ns.map encNote)) (hg : GoodNs ns) (h2 : 2 ≤ ns.length) :
    wR (runF (PG rp) (k + 2) i__law_fitting [.ref a, dn] st) (fun d s => ∃ n' t, d = encTie t ∧ s = st.set a (drO cs n' r) ∧ n ≤ n' ∧ n' ≤ n + 9 ∧ TieFits ns t) nX := by
  refine run_z (F := f__law_fitting) rfl rfl rfl rfl ?_
  show wS (evSs _ _ [some (.ref a), some dn, none, none, none, none, none, none] b__law_fitting st) _ _ _
  have hb : b__law_fitting = (.cons (.asg (.g (.nm 2)) (.call i__law_next (.cons (.var 0) (.cons (.bi false .len (.cons (.var 1) .nil)) .nil)))) (.cons (.par 3 4 (.idx (.var 1) (.var 2)) (.idx (.var 1) (.bin false .mod (.bin false .add (.bin false .add (.var 2) (.int 1)) (.call i__law_next (.cons (.var 0) (.cons (.bin false .sub (.bi false .len (.cons (.var 1) .nil)) (.int 1)) .nil)))) (.bi false .len (.cons (.var 1) .nil))))) (.cons (.asg (.g (.nm 5)) (.str [112, 117, 114, 101])) (.cons (.iff (.nt (.call i__law_overlap (.cons (.var 3) (.cons (.var 4) .nil)))) (.cons (.iff (.cmp .lt (.idx (.var 4) (.int 2)) (.idx (.var 3) (.int 3))) (.cons (.par 3 4 (.var 4) (.var 3)) .nil) (.nil)) (.cons (.asg (.g (.nm 5)) (.idx (.lst false (.cons (.str [104, 101, 108, 100]) (.cons (.str [115, 116, 101, 112]) .nil))) (.bin false .mul (.bi false .int (.cons (.cmp .eq (.idx (.var 3) (.int 1)) (.idx (.var 4) (.int 1))) .nil)) (.call i__law_next (.cons (.var 0) (.cons (.int 2) .nil)))))) .nil)) (.nil)) fitTail)))) := rfl
  rw [hb]
  have nn := h.nn
  have hd0 : look st dn = .lst (ns.map encNote) := by have := hd n; rwa [h.rfl] at this
  have hl := hg.le
  have nx : ∀ (n' m : Int), 0 ≤ n' → n' < 2 ^ 60 → 0 < m → runF (PG rp) (k + 1) i__law_next [.ref a, .int m] (st.set a (drO cs n' r)) = .ok (.int (drw cs (n' + 1) m)) (st.set a (drO cs (n' + 1) r)) := fun n' m h0 h1 h2 => h.next2 h0 h1 h2
  obtain ⟨v, hv⟩ : ∃ v, v = drw cs (n + 1) (ns.length : Int) := ⟨_, rfl⟩
  have v0 : 0 ≤ v := hv ▸ drw_nn (by omega)
  have v1 : v < ns.length := hv ▸ drw_lt (by omega)
  obtain ⟨u, hu⟩ : ∃ v, v = drw cs (n + 1 + 1) ((ns.length : Int) - 1) := ⟨_, rfl⟩
  have u0 : 0 ≤ u := hu ▸ drw_nn (by omega)
  have u1 : u < (ns.length : Int) - 1 := hu ▸ drw_lt (by omega)
  have F1 := h.next (rp := rp) (k := k) (m := (ns.length : Int)) (by omega) (by omega)
  have F2 := nx (n + 1) ((ns.length : Int) - 1) (by omega) (by omega) (by omega)
  rw [← hv] at F1
  rw [← hu] at F2
  obtain ⟨w, hw⟩ : ∃ w, w = (v + 1 + u) % (ns.length : Int) := ⟨_, rfl⟩
  have w0 : 0 ≤ w := hw ▸ Int.emod_nonneg _ (by omega)
  have w1 : w < ns.length := hw ▸ Int.emod_lt_of_pos _ (by omega)
  have wv : w ≠ v := by
    intro e
    by_cases hc : v + 1 + u < ns.length
    · rw [hw, Int.emod_eq_of_lt (by omega) hc] at e; omega
    · have : (v + 1 + u) % (ns.length : Int) = v + 1 + u - ns.length := by
        rw [← Int.sub_emod_right]
        exact Int.emod_eq_of_lt (by omega) (by omega)
      rw [hw, this] at e; omega
  have hvn : v.toNat < ns.length := by omega
  have hwn : w.toNat < ns.length := by omega
  obtain ⟨x, hx⟩ : ∃ x, ns[v.toNat]? = some x := ⟨_, List.getElem?_eq_getElem hvn⟩
  obtain ⟨y, hy⟩ : ∃ x, ns[w.toNat]? = some x := ⟨_, List.getElem?_eq_getElem hwn⟩
  have ixx : ixD (ns.map encNote) v = some (encNote x) := by rw [ixD_nn _ v0, List.getElem?_map, hx]; rfl
  have ixy : ixD (ns.map encNote) w = some (encNote y) := by rw [ixD_nn _ w0, List.getElem?_map, hy]; rfl
  have xm := hg.bd x (List.mem_of_getElem? hx)
  have ym := hg.bd y (List.mem_of_getElem? hy)
  have fx := findN_at hg.nd hx
  have fy := findN_at hg.nd hy
  have xy : x.1 ≠ y.1 := by
    have hp := List.pairwise_iff_getElem.mp hg.nd
    obtain ⟨_, ex⟩ := List.getElem?_eq_some_iff.mp hx
    obtain ⟨_, ey⟩ := List.getElem?_eq_some_iff.mp hy
    rcases Nat.lt_or_gt_of_ne (show v.toNat ≠ w.toNat by omega) with hlt | hlt
    · have := hp _ _ hvn hwn hlt
      rwa [ex, ey] at this
    · have := hp _ _ hwn hvn hlt
      rw [ex, ey] at this
      exact fun e => this e.symm
  have F3 := fun s => c_loverlap (rp := rp) (k := k) (st := s) x y xm.1 (by omega) (by omega) (by omega)
  -- the tie's rest
  have tail : ∀ (p q : NoteT) (wd : List Nat) (n1 : Int) (v6 v7 : Option D), n ≤ n1 → n1 ≤ n + 3 → findN ns p.1 = some p → findN ns q.1 = some q → p.1 ≠ q.1 → (wd = HELD ∨ wd = PUREW ∨ wd = STEPW) → (∀ rv be we, fitT (wd, p.1, q.1, rv, be, we) p q = true) →
      wS (evSs (PG rp) (runF (PG rp) (k + 1)) [some (.ref a), some dn, some (.int v), some (encNote p), some (encNote q), some (.str wd), v6, v7] fitTail (st.set a (drO cs n1 r)))
        (fun _ s => ∃ s', trunc st s = some s' ∧ ∃ n' t, D.non = encTie t ∧ s' = st.set a (drO cs n' r) ∧ n ≤ n' ∧ n' ≤ n + 9 ∧ TieFits ns t) (fun d s => d.pure = true ∧ ∃ s', trunc st s = some s' ∧ ∃ n' t, d = encTie t ∧ s' = st.set a (drO cs n' r) ∧ n ≤ n' ∧ n' ≤ n + 9 ∧ TieFits ns t) (fun c pl _ s => D.pures pl = true ∧ ∃ s' : Store, False) := by
    intro p q wd n1 v6 v7 q1 q2 fp fq pq hwd fit
    unfold fitTail
    have r4 : rngL 0 (4 : Int).toNat 1 = (List.range 4).map fun i : Nat => D.int (0 + (i : Int) * 1) := rfl
    simp_all only []
    refine wR_lc (fun i acc s => s = st.set a (drO cs (n1 + i) r) ∧ ∃ l : List Int, l.length = i ∧ (∀ x ∈ l, -1 ≤ x ∧ x ≤ 1) ∧ acc = l.map .int) ⟨by simp, [], rfl, (fun x hx => by cases hx), rfl⟩ ?_ ?_
    · rintro i d acc s hi ⟨rfl, l, hl, hb3, rfl⟩
      obtain ⟨h1, rfl⟩ := rngL_get hi
      have h1 : i < 4 := h1
      refine ⟨_, bg_nm _ _ _, ?_⟩
      have F4 := nx (n1 + i) 3 (by omega) (by omega) (by decide)
      simp_all only [F4]
      refine ⟨rfl, by rw [show n1 + (i : Int) + 1 = n1 + ((i + 1 : Nat) : Int) by omega], l ++ [drw cs (n1 + (i : Int) + 1) 3 - 1], by simp [hl], fun x hx => ?_, by simp⟩
      rcases List.mem_append.mp hx with hx | hx
      · exact hb3 x hx
      · rw [List.mem_singleton.mp hx]
        have z0 := drw_nn (cs := cs) (k := n1 + (i : Int) + 1) (m := 3) (by decide)
        have z1 := drw_lt (cs := cs) (k := n1 + (i : Int) + 1) (m := 3) (by decide)
        omega
    · rintro acc s ⟨rfl, l, hl, hb3, rfl⟩
      rw [rngL_len] at hl
      have hl : l.length = 4 := hl
      have e4 : ((rngL 0 (4 : Int).toNat 1).length : Int) = 4 := by rw [rngL_len]; rfl
      rw [e4]
      have F5 := nx (n1 + 4) 100 (by omega) (by omega) (by decide)
      have F6 := nx (n1 + 4 + 1) 9 (by omega) (by omega) (by decide)
      have hw' : ([104, 101, 108, 100] : List Nat) = HELD := rfl
      have gt : ∀ rv be we, TieSm (wd, p.1, q.1, rv, be, we) → TieFits ns (wd, p.1, q.1, rv, be, we) := fun rv be we hsm => ⟨by simp only [goodT, fp, fq, decide_eq_false pq, Bool.not_false, Bool.true_and]; exact fit rv be we, hwd, hsm⟩
      have y0 := drw_nn (cs := cs) (k := n1 + 4 + 1) (m := 100) (by decide)
      have y1 := drw_lt (cs := cs) (k := n1 + 4 + 1) (m := 100) (by decide)
      have y2 := drw_nn (cs := cs) (k := n1 + 4 + 1 + 1) (m := 9) (by decide)
      have y3 := drw_lt (cs := cs) (k := n1 + 4 + 1 + 1) (m := 9) (by decide)
      by_cases eh : wd = HELD
      · simp_all only [hw', eh, F5, F6, lk_note, ixn0]
        refine ⟨pure_tie (HELD, p.1, q.1, [0, 0, 0, 0], drw cs (n1 + 4 + 1) 100, 1 + drw cs (n1 + 4 + 1 + 1) 9), _, h.trunc, n1 + 4 + 1 + 1, (HELD, p.1, q.1, [0, 0, 0, 0], drw cs (n1 + 4 + 1) 100, 1 + drw cs (n1 + 4 + 1 + 1) 9), rfl, rfl, by omega, by omega, ?_⟩
        rw [← eh]
        exact gt _ _ _ ⟨rfl, (by simp), y0, y1, by show 0 ≤ 1 + drw cs (n1 + 4 + 1 + 1) 9; omega, by show 1 + drw cs (n1 + 4 + 1 + 1) 9 < 100; omega⟩
      · simp_all only [hw', eh, F5, F6, lk_note, ixn0]
        exact ⟨pure_tie (wd, p.1, q.1, l, drw cs (n1 + 4 + 1) 100, 1 + drw cs (n1 + 4 + 1 + 1) 9), _, h.trunc, n1 + 4 + 1 + 1, (wd, p.1, q.1, l, drw cs (n1 + 4 + 1) 100, 1 + drw cs (n1 + 4 + 1 + 1) 9), rfl, rfl, by omega, by omega, gt _ _ _ ⟨hl, hb3, y0, y1, by show 0 ≤ 1 + drw cs (n1 + 4 + 1 + 1) 9; omega, by show 1 + drw cs (n1 + 4 + 1 + 1) 9 < 100; omega⟩⟩
  cases ho : ovl x y with
  | true =>
    rw [ho] at F3
    simp_all only [hd0, hd, F1, F2, List.length_map, ixx, ← hw, ixy, F3]
    exact tail x y PUREW (n + 1 + 1) none none (by omega) (by omega) fx fy xy (.inr (.inl rfl)) fun rv be we => by simp [fitT, ho]
  | false =>
    rw [ho] at F3
    obtain ⟨z, hz⟩ : ∃ v, v = drw cs (n + 1 + 1 + 1) 2 := ⟨_, rfl⟩
    have z0 : 0 ≤ z := hz ▸ drw_nn (by decide)
    have z1 : z < 2 := hz ▸ drw_lt (by decide)
    have F4 := nx (n + 1 + 1) 2 (by omega) (by omega) (by decide)
    rw [← hz] at F4
    have no : ¬ (ovl x y = true) := by rw [ho]; decide
    rw [ovl_iff] at no
    have hp1 : ¬ HELD = PUREW := by decide
    have hp2 : ¬ STEPW = PUREW := by decide
    have hp3 : ¬ STEPW = HELD := by decide
    have zz : z = 0 ∨ z = 1 := by omega
    have l0 : ixD [D.str [104, 101, 108, 100], .str [115, 116, 101, 112]] 0 = some (.str HELD) := rfl
    have l1 : ixD [D.str [104, 101, 108, 100], .str [115, 116, 101, 112]] 1 = some (.str STEPW) := rfl
    have m0 : ∀ x : Int, mulOk 1 x = true := fun x => mulOk_l (by decide)
    have m1 : ∀ x : Int, mulOk 0 x = true := fun x => mulOk_l (by decide)
    by_cases hs : y.2.2.1 < x.2.2.2
    · have xb : y.2.2.2 ≤ x.2.2.1 := by omega
      by_cases ev : x.2.1 = y.2.1
      · rcases zz with zz | zz
        · simp_all only [hd0, hd, F1, F2, List.length_map, ixx, ← hw, ixy, F3, lk_note, ixn1, ixn2, ixn3, hs, ev, F4, zz, Int.one_mul, l0]
          exact tail y x HELD (n + 1 + 1 + 1) none none (by omega) (by omega) fy fx (Ne.symm xy) (.inl rfl) fun rv be we => by simp [fitT, hp1, xb]
        · simp_all only [hd0, hd, F1, F2, List.length_map, ixx, ← hw, ixy, F3, lk_note, ixn1, ixn2, ixn3, hs, ev, F4, zz, Int.one_mul, l1]
          exact tail y x STEPW (n + 1 + 1 + 1) none none (by omega) (by omega) fy fx (Ne.symm xy) (.inr (.inr rfl)) fun rv be we => by simp [fitT, hp2, xb, ev]
      · have ev' : ¬ y.2.1 = x.2.1 := fun e => ev e.symm
        simp_all only [hd0, hd, F1, F2, List.length_map, ixx, ← hw, ixy, F3, lk_note, ixn1, ixn2, ixn3, hs, ev', F4, Int.zero_mul, l0]
        exact tail y x HELD (n + 1 + 1 + 1) none none (by omega) (by omega) fy fx (Ne.symm xy) (.inl rfl) fun rv be we => by simp [fitT, hp1, xb]
    · have xb : x.2.2.2 ≤ y.2.2.1 := by omega
      by_cases ev : x.2.1 = y.2.1
      · rcases zz with zz | zz
        · simp_all only [hd0, hd, F1, F2, List.length_map, ixx, ← hw, ixy, F3, lk_note, ixn1, ixn2, ixn3, hs, ev, F4, zz, Int.one_mul, l0]
          exact tail x y HELD (n + 1 + 1 + 1) none none (by omega) (by omega) fx fy xy (.inl rfl) fun rv be we => by simp [fitT, hp1, xb]
        · simp_all only [hd0, hd, F1, F2, List.length_map, ixx, ← hw, ixy, F3, lk_note, ixn1, ixn2, ixn3, hs, ev, F4, zz, Int.one_mul, l1]
          exact tail x y STEPW (n + 1 + 1 + 1) none none (by omega) (by omega) fx fy xy (.inr (.inr rfl)) fun rv be we => by simp [fitT, hp2, xb, ev]
      · simp_all only [hd0, hd, F1, F2, List.length_map, ixx, ← hw, ixy, F3, lk_note, ixn1, ixn2, ixn3, hs, ev, F4, Int.zero_mul, l0]
        exact tail x y HELD (n + 1 + 1 + 1) none none (by omega) (by omega) fx fy xy (.inl rfl) fun rv be we => by simp [fitT, hp1, xb]
end
section
variable {st : Store} {k a : Nat} {n m : Int} {cs : List Int} {r : List (Ky × D)}
theorem Dw.app (h : Dw st a cs n r) (L : Store) : Dw (st ++ L) a cs n r := ⟨by rw [List.getElem?_append_left h.lt]; exact h.at_, h.pure, h.small, h.noat, h.nn, h.len⟩
theorem Dw.setA (h : Dw st a cs n r) (o : O) (L : Store) : (st ++ L).set a o = st.set a o ++ L := List.set_append_left _ _ h.lt
/-- a draw beside lists in the making -/
theorem Dw.nextA {n' : Int} {L : Store} (h : Dw st a cs n r) (h0 : 0 ≤ n') (hn : n' < 2 ^ 60) (hm : 0 < m) :
    runF (PG rp) (k + 1) i__law_next [.ref a, .int m] (st.set a (drO cs n' r) ++ L) = .ok (.int (drw cs (n' + 1) m)) (st.set a (drO cs (n' + 1) r) ++ L) := by
  have := (h.app L).next2 (rp := rp) (k := k) (m := m) (n' := n') h0 hn hm
  rwa [h.setA, h.setA] at this
theorem ix2 {α : Type} (x y : α) {v : Int} (h0 : 0 ≤ v) (h : v < 2) : ∃ e, ixD [x, y] v = some e ∧ (e = x ∨ e = y) := by
  have : v = 0 ∨ v = 1 := by omega
  rcases this with h | h <;> rw [h]
  · exact ⟨x, rfl, .inl rfl⟩
  · exact ⟨y, rfl, .inr rfl⟩
theorem ix3 {α : Type} (x y z : α) {v : Int} (h0 : 0 ≤ v) (h : v < 3) : ∃ e, ixD [x, y, z] v = some e ∧ (e = x ∨ e = y ∨ e = z) := by
  have : v = 0 ∨ v = 1 ∨ v = 2 := by omega
  rcases this with h | h | h <;> rw [h]
  · exact ⟨x, rfl, .inl rfl⟩
  · exact ⟨y, rfl, .inr (.inl rfl)⟩
  · exact ⟨z, rfl, .inr (.inr rfl)⟩
theorem ix4 {α : Type} (x y z w : α) {v : Int} (h0 : 0 ≤ v) (h : v < 4) : ∃ e, ixD [x, y, z, w] v = some e ∧ (e = x ∨ e = y ∨ e = z ∨ e = w) := by
  have : v = 0 ∨ v = 1 ∨ v = 2 ∨ v = 3 := by omega
  rcases this with h | h | h | h <;> rw [h]
  · exact ⟨x, rfl, .inl rfl⟩
  · exact ⟨y, rfl, .inr (.inl rfl)⟩
  · exact ⟨z, rfl, .inr (.inr (.inl rfl))⟩
  · exact ⟨w, rfl, .inr (.inr (.inr rfl))⟩
end
/-! ### a song that may be -/
def clk (vs : List (List Nat)) (c : List Nat → Int) : List (Ky × D) := vs.map fun v => (.s v, .int (c v))
theorem clk_get {vs : List (List Nat)} {c : List Nat → Int} {v : List Nat} (h : v ∈ vs) : kvGet (.s v) (clk vs c) = some (.int (c v)) := by
  have := kvGet_map (fun v : List Nat => v) (fun v => D.int (c v)) v vs
  refine Eq.trans this ?_
  obtain ⟨w, hw⟩ : ∃ w, vs.find? (fun x => decide (x = v)) = some w := by
    rw [← Option.isSome_iff_exists, List.find?_isSome]
    exact ⟨v, h, by simp⟩
  have e : w = v := by simpa using List.find?_some hw
  rw [hw, e]; rfl
theorem clk_put {vs : List (List Nat)} {c : List Nat → Int} {v : List Nat} (h : v ∈ vs) (m : Int) : kvPut (.s v) (.int m) (clk vs c) = clk vs (fun u => if u = v then m else c u) := by
  have := kvPut_map (fun v : List Nat => v) (fun _ _ e => e) (fun v => D.int (c v)) (.int m) h
  refine Eq.trans this ?_
  apply List.map_congr_left
  intro u _
  by_cases e : u = v <;> simp [e]
/-- notes voice by voice, one behind the other -/
structure NotesIn (nm vs : List (List Nat)) (f p : Int) (c : List Nat → Int) (ns : List NoteT) : Prop where
  pw : ns.Pairwise fun a b => a.1 ≠ b.1 ∧ (a.2.1 = b.2.1 → a.2.2.2 ≤ b.2.2.1)
  bd : ∀ x ∈ ns, x.2.1 ∈ vs ∧ 0 ≤ x.2.2.1 ∧ x.2.2.1 < x.2.2.2 ∧ x.2.2.2 ≤ c x.2.1
  nmd : ∀ x ∈ ns, ∃ j : Nat, j < ns.length ∧ nm[((p + f * (j : Int)) % 40).toNat]? = some x.1
  ck : ∀ v, 0 ≤ c v ∧ c v ≤ 4 + 7 * (ns.length : Int)
theorem coprime40 {f p : Int} (hf : f = 1 ∨ f = 7 ∨ f = 13 ∨ f = 39) {i j : Nat} (hi : i < 40) (hj : j < 40) (h : (p + f * (i : Int)) % 40 = (p + f * (j : Int)) % 40) : i = j := by
  rcases hf with rfl | rfl | rfl | rfl <;> omega
section
variable {st : Store} {k a : Nat} {n : Int} {cs : List Int} {r : List (Ky × D)}
theorem w_goodRow {nm vs : List (List Nat)} {f p : Int} {c : List Nat → Int} {ns : List NoteT} {d1 d2 v5 v10 d11 d12 d13 : Option D} (h : Dw st a cs n r) (hn : n < 2 ^ 57) (hnm : nm.Nodup) (h48 : nm.length = 48) (hvs : vs ≠ []) (hv4 : vs.length ≤ 4) (hf : f = 1 ∨ f = 7 ∨ f = 13 ∨ f = 39) (hp : 0 ≤ p)
    (hi : NotesIn nm vs f p c ns) (hl : ns.length < 40) :
    wS (evSs (PG rp) (runF (PG rp) (k + 1)) [some (.ref a), some (.lst (nm.map .str)), d2, some (.lst (vs.map .str)), some (.ref st.length), v5, some (.ref (st.length + 1)), some (.int f), some (.int p), some (.int (ns.length : Int)), v10, d11, d12, d13] b__law_good_1
        (st.set a (drO cs n r) ++ [O.dct (clk vs c), O.lst (ns.map encNote)]))
      (fun σ s => ∃ n2 c2 x w5 w10, σ = [some (.ref a), some (.lst (nm.map .str)), d2, some (.lst (vs.map .str)), some (.ref st.length), w5, some (.ref (st.length + 1)), some (.int f), some (.int p), some (.int (ns.length : Int)), w10, d11, d12, d13] ∧
        s = st.set a (drO cs n2 r) ++ [O.dct (clk vs c2), O.lst ((ns ++ [x]).map encNote)] ∧ n ≤ n2 ∧ n2 ≤ n + 5 ∧ NotesIn nm vs f p c2 (ns ++ [x])) nT nXe := by
  have nn := h.nn
  have nx : ∀ (n' m : Int) (L : Store), 0 ≤ n' → n' < 2 ^ 60 → 0 < m → runF (PG rp) (k + 1) i__law_next [.ref a, .int m] (st.set a (drO cs n' r) ++ L) = .ok (.int (drw cs (n' + 1) m)) (st.set a (drO cs (n' + 1) r) ++ L) := fun n' m L h0 h1 h2 => h.nextA h0 h1 h2
  have vl : 0 < vs.length := List.length_pos_iff.mpr hvs
  obtain ⟨j, hj⟩ : ∃ v, v = drw cs (n + 1) (vs.length : Int) := ⟨_, rfl⟩
  have j0 : 0 ≤ j := hj ▸ drw_nn (by omega)
  have j1 : j < vs.length := hj ▸ drw_lt (by omega)
  obtain ⟨u, hu⟩ : ∃ v, v = drw cs (n + 1 + 1) 3 := ⟨_, rfl⟩
  have u0 : 0 ≤ u := hu ▸ drw_nn (by decide)
  have u1 : u < 3 := hu ▸ drw_lt (by decide)
  obtain ⟨w, hw⟩ : ∃ v, v = drw cs (n + 1 + 1 + 1) 5 := ⟨_, rfl⟩
  have w0 : 0 ≤ w := hw ▸ drw_nn (by decide)
  have w1 : w < 5 := hw ▸ drw_lt (by decide)
  have F1 := nx n (vs.length : Int) [O.dct (clk vs c), O.lst (ns.map encNote)] nn (by omega) (by omega)
  have F2 := nx (n + 1) 3 [O.dct (clk vs c), O.lst (ns.map encNote)] (by omega) (by omega) (by decide)
  have F3 := nx (n + 1 + 1) 5 [O.dct (clk vs c), O.lst (ns.map encNote)] (by omega) (by omega) (by decide)
  rw [← hj] at F1
  rw [← hu] at F2
  rw [← hw] at F3
  have jn : j.toNat < vs.length := by omega
  obtain ⟨v, hv⟩ : ∃ v, vs[j.toNat]? = some v := ⟨_, List.getElem?_eq_getElem jn⟩
  have vm : v ∈ vs := List.mem_of_getElem? hv
  have ixv : ixD (vs.map D.str) j = some (.str v) := by rw [ixD_nn _ j0, List.getElem?_map, hv]; rfl
  have ckv := hi.ck v
  obtain ⟨q, hq⟩ : ∃ q, q = (p + f * (ns.length : Int)) % 40 := ⟨_, rfl⟩
  have q0 : 0 ≤ q := hq ▸ Int.emod_nonneg _ (by decide)
  have q1 : q < 40 := hq ▸ Int.emod_lt_of_pos _ (by decide)
  have qn : q.toNat < nm.length := by omega
  obtain ⟨x, hx⟩ : ∃ v, nm[q.toNat]? = some v := ⟨_, List.getElem?_eq_getElem qn⟩
  have ixx : ixD (nm.map D.str) q = some (.str x) := by rw [ixD_nn _ q0, List.getElem?_map, hx]; rfl
  have lk0 : ∀ (o : O) (c : List Nat → Int) (R : O), look (st.set a o ++ [O.dct (clk vs c), R]) (.ref st.length) = .dct (clk vs c) := fun o c R => by simp only [look, gR0]; rfl
  have lk1 : ∀ (o : O) (c : List Nat → Int), look (st.set a o ++ [O.dct (clk vs c), O.lst (ns.map encNote)]) (.ref (st.length + 1)) = .lst (ns.map encNote) := fun o c => by simp only [look, gR]; rfl
  have ixc : ∀ c : List Nat → Int, kvGet (.s v) (clk vs c) = some (.int (c v)) := fun c => clk_get vm
  have sk : ∀ (σ : Env) (o : O) (m : Int), subK σ (.int m) (.ref st.length) (.str v) (st.set a o ++ [O.dct (clk vs c), O.lst (ns.map encNote)]) = .nx σ (st.set a o ++ [O.dct (clk vs fun z => if z = v then m else c z), O.lst (ns.map encNote)]) := fun σ o m => by
    have l : (clk vs c).length < LIM := by rw [clk, List.length_map]; exact Nat.lt_of_le_of_lt hv4 (by decide)
    rw [subK_s (o := O.dct (clk vs c)) (by rw [gR0]; rfl) (by simp only [subO, keyD, Option.bind_some, if_pos l, clk_put vm]; rfl), sR0]; rfl
  have ap : ∀ (o : O) (c : List Nat → Int) (y : NoteT), mutK .append (.ref (st.length + 1)) [encNote y] (st.set a o ++ [O.dct (clk vs c), O.lst (ns.map encNote)]) = .ok .non (st.set a o ++ [O.dct (clk vs c), O.lst ((ns ++ [y]).map encNote)]) := fun o c y => by
    have l : (ns.map encNote).length < LIM := by rw [List.length_map]; exact Nat.lt_of_le_of_lt (by omega : ns.length ≤ 40) (by decide)
    rw [mutK_s (o := O.lst (ns.map encNote)) (by rw [gR]; rfl) (by simp only [bmO, if_pos l]; rfl), sR]; simp
  have ite1 : (if v = v then c v + u + 1 + w else c v) = c v + u + 1 + w := if_pos rfl
  have m1 : mulOk f (ns.length : Int) = true := mulOk_l (by rcases hf with rfl | rfl | rfl | rfl <;> decide)
  unfold b__law_good_1
  have AP := fun o c => ap o c (x, v, c v + u, c v + u + 1 + w)
  have AP2 := ap (drO cs (n + 1 + 1 + 1) r) (fun z => if z = v then c v + u + 1 + w else c z) (x, v, c v + u, c v + u + 1 + w)
  simp only [encNote] at AP2
  simp_all only [List.length_map, F1, ixv, lk0, ixc, F2, F3, sk, lk1, m1, ← hq, ixx, AP2]
  refine ⟨_, _, (x, v, c v + u, c v + u + 1 + w), _, _, rfl, rfl, by omega, by omega, ?_⟩
  have ll : (ns ++ [(x, v, c v + u, c v + u + 1 + w)]).length = ns.length + 1 := by simp
  refine ⟨?_, ?_, ?_, ?_⟩
  · rw [List.pairwise_append]
    refine ⟨hi.pw, List.pairwise_singleton _ _, fun y hy z hz => ?_⟩
    rw [List.mem_singleton.mp hz]
    obtain ⟨b1, b2, b3, b4⟩ := hi.bd y hy
    refine ⟨fun e => ?_, fun e => ?_⟩
    · obtain ⟨i, hi1, hi2⟩ := hi.nmd y hy
      have e : y.1 = x := e
      rw [e] at hi2
      have hii : ((p + f * (i : Int)) % 40).toNat < nm.length := (List.getElem?_eq_some_iff.mp hi2).1
      have := (List.getElem?_inj hii hnm).mp (hi2.trans hx.symm)
      have z0 : 0 ≤ (p + f * (i : Int)) % 40 := Int.emod_nonneg _ (by decide)
      have e2 : (p + f * (i : Int)) % 40 = (p + f * (ns.length : Int)) % 40 := by rw [← hq]; omega
      have := coprime40 hf (show i < 40 by omega) hl e2
      omega
    · have e : y.2.1 = v := e
      rw [e] at b4
      show y.2.2.2 ≤ c v + u
      omega
  · intro y hy
    rcases List.mem_append.mp hy with hy | hy
    · obtain ⟨b1, b2, b3, b4⟩ := hi.bd y hy
      refine ⟨b1, b2, b3, ?_⟩
      by_cases e : y.2.1 = v
      · simp only [e, if_true]; rw [e] at b4; omega
      · simp only [if_neg e]; exact b4
    · rw [List.mem_singleton.mp hy]
      refine ⟨vm, by show 0 ≤ c v + u; omega, by show c v + u < c v + u + 1 + w; omega, ?_⟩
      show c v + u + 1 + w ≤ if v = v then c v + u + 1 + w else c v
      rw [if_pos rfl]; exact Int.le_refl _
  · intro y hy
    rcases List.mem_append.mp hy with hy | hy
    · obtain ⟨i, hi1, hi2⟩ := hi.nmd y hy
      exact ⟨i, by omega, hi2⟩
    · rw [List.mem_singleton.mp hy]
      exact ⟨ns.length, by omega, by rw [← hq]; exact hx⟩
  · intro z
    have := hi.ck z
    rw [ll]
    by_cases e : z = v
    · simp only [e, if_true]; omega
    · simp only [if_neg e]; omega
end
structure SgGood (nm : List (List Nat)) (s : Sg) : Prop where
  nmem : ∀ x ∈ s.ns, x.1 ∈ nm ∧ x.2.1 ∈ nm
  ns : GoodNs s.ns
  ts : ∀ t ∈ s.ts, TieFits s.ns t
  tl : s.ts.length ≤ 80
  hm : ∀ x, s.hm = some x → x.1 ≠ x.2 ∧ (findN s.ns x.1).isSome = true ∧ (findN s.ns x.2).isSome = true
def goodTail : Ss := (.cons (.asg (.g (.nm 11)) (.call i__law_next (.cons (.var 0) (.cons (.bi false .len (.cons (.var 6) .nil)) .nil)))) (.cons (.asg (.g (.nm 6)) (.bin true .add (.slc false (.var 6) (.var 11) (.no)) (.slc false (.var 6) (.no) (.var 11)))) (.cons (.asg (.g (.nm 7)) (.bin false .mul (.idx (.lst false (.cons (.call i__law_next (.cons (.var 0) (.cons (.int 6) .nil))) (.cons (.call i__law_next (.cons (.var 0) (.cons (.int 20) .nil))) (.cons (.int 80) .nil)))) (.call i__law_next (.cons (.var 0) (.cons (.int 3) .nil)))) (.bi false .int (.cons (.cmp .gt (.bi false .len (.cons (.var 6) .nil)) (.int 1)) .nil)))) (.cons (.asg (.g (.nm 12)) (.lc false (.call i__law_fitting (.cons (.var 0) (.cons (.var 6) .nil))) (.nm 9) (.rng1 (.var 7)) (.no))) (.cons (.asg (.g (.nm 13)) (.non)) (.cons (.iff (.andE (.cmp .gt (.bi false .len (.cons (.var 6) .nil)) (.int 1)) (.cmp .eq (.call i__law_next (.cons (.var 0) (.cons (.int 2) .nil))) (.int 1))) (.cons (.asg (.g (.nm 13)) (.tup (.cons (.idx (.idx (.var 6) (.int 0)) (.int 0)) (.cons (.idx (.idx (.var 6) (.bin false .add (.int 1) (.call i__law_next (.cons (.var 0) (.cons (.bin false .sub (.bi false .len (.cons (.var 6) .nil)) (.int 1)) .nil))))) (.int 0)) .nil)))) .nil) (.nil)) (.cons (.ret (.tup (.cons (.bi false .tuple (.cons (.var 6) .nil)) (.cons (.bi false .tuple (.cons (.var 12) .nil)) (.cons (.var 13) .nil))))) .nil)))))))
section
variable {st : Store} {k a : Nat} {n : Int} {cs : List Int} {r : List (Ky × D)}
theorem goodNs_of {nm vs : List (List Nat)} {f p : Int} {c : List Nat → Int} {ns : List NoteT} (h : NotesIn nm vs f p c ns) (hl : ns.length ≤ 40) (hne : ns ≠ []) : GoodNs ns := by
  have h1 : ∀ {a b : NoteT}, (a.1 ≠ b.1 ∧ (a.2.1 = b.2.1 → a.2.2.2 ≤ b.2.2.1)) → (a.1 ≠ b.1 ∧ (a.2.1 ≠ b.2.1 ∨ ovl a b = false)) := by
    intro a b hab
    refine ⟨hab.1, ?_⟩
    by_cases e : a.2.1 = b.2.1
    · right
      have := hab.2 e
      cases ho : ovl a b with
      | false => rfl
      | true => rw [ovl_iff] at ho; omega
    · exact .inl e
  have h2 : ∀ x ∈ ns, 0 ≤ x.2.2.1 ∧ x.2.2.1 < x.2.2.2 ∧ x.2.2.2 ≤ 300 := by
    intro x hx
    obtain ⟨_, b2, b3, b4⟩ := h.bd x hx
    have := (h.ck x.2.1).2
    exact ⟨b2, b3, by omega⟩
  exact ⟨h.pw.imp h1, h2, hne, hl⟩
theorem goodNs_rot {ns : List NoteT} (h : GoodNs ns) (t : Nat) : GoodNs (ns.drop t ++ ns.take t) := by
  have hp : ((ns.drop t ++ ns.take t)).Perm ns := by
    have := List.perm_append_comm (l₁ := ns.drop t) (l₂ := ns.take t)
    rwa [List.take_append_drop] at this
  have sym : ∀ {x y : NoteT}, (x.1 ≠ y.1 ∧ (x.2.1 ≠ y.2.1 ∨ ovl x y = false)) → (y.1 ≠ x.1 ∧ (y.2.1 ≠ x.2.1 ∨ ovl y x = false)) := by
    intro x y hxy
    refine ⟨Ne.symm hxy.1, ?_⟩
    rw [ovl_comm]
    exact hxy.2.imp Ne.symm id
  have hne : ns.drop t ++ ns.take t ≠ [] := by
    intro e
    have := hp.length_eq
    rw [e] at this
    exact h.ne (List.length_eq_zero_iff.mp this.symm)
  exact ⟨(hp.pairwise_iff sym).mpr h.pw, fun x hx => h.bd x (hp.mem_iff.mp hx), hne, by rw [hp.length_eq]; exact h.le⟩
theorem w_goodTail {nm vs : List (List Nat)} {ns : List NoteT} {kvs : List (Ky × D)} {d1 d2 d3 v5 v7 v8 v9 v10 : Option D} (h : Dw st a cs n r) (hn : n < 2 ^ 57) (hg : GoodNs ns) (hnmm : ∀ x ∈ ns, x.1 ∈ nm ∧ x.2.1 ∈ nm) :
    wS (evSs (PG rp) (runF (PG rp) (k + 2)) [some (.ref a), d1, d2, d3, some (.ref st.length), v5, some (.ref (st.length + 1)), v7, v8, v9, v10, none, none, none] goodTail (st.set a (drO cs n r) ++ [O.dct kvs, O.lst (ns.map encNote)]))
      nN (fun d s => ∃ n' sg, d = encSg sg ∧ (∃ R, s = st.set a (drO cs n' r) ++ R) ∧ n ≤ n' ∧ n' ≤ n + 1000 ∧ SgGood nm sg) nXe := by
  have nn := h.nn
  have hl := hg.le
  have l1 : 0 < ns.length := List.length_pos_iff.mpr hg.ne
  have nx : ∀ (n' m : Int) (L : Store), 0 ≤ n' → n' < 2 ^ 60 → 0 < m → runF (PG rp) (k + 2) i__law_next [.ref a, .int m] (st.set a (drO cs n' r) ++ L) = .ok (.int (drw cs (n' + 1) m)) (st.set a (drO cs (n' + 1) r) ++ L) := fun n' m L h0 h1 h2 => h.nextA h0 h1 h2
  obtain ⟨t, ht⟩ : ∃ v, v = drw cs (n + 1) (ns.length : Int) := ⟨_, rfl⟩
  have t0 : 0 ≤ t := ht ▸ drw_nn (by omega)
  have t1 : t < ns.length := ht ▸ drw_lt (by omega)
  have F1 := nx n (ns.length : Int) [O.dct kvs, O.lst (ns.map encNote)] nn (by omega) (by omega)
  rw [← ht] at F1
  have lk1 : ∀ (o : O) (R : Store), look (st.set a o ++ (O.dct kvs :: O.lst (ns.map encNote) :: R)) (.ref (st.length + 1)) = .lst (ns.map encNote) := fun o R => by simp only [look, gR]; rfl
  have lk1' : ∀ (o : O), look (st.set a o ++ [O.dct kvs, O.lst (ns.map encNote)]) (.ref (st.length + 1)) = .lst (ns.map encNote) := fun o => lk1 o []
  have c1 : cut (ns.map encNote) (some t) none = (ns.drop t.toNat).map encNote := by rw [cut_map, cut_hi _ t0]
  have c2 : cut (ns.map encNote) none (some t) = (ns.take t.toNat).map encNote := by rw [cut_map, cut_lo _ t0 (by omega)]
  obtain ⟨ms, hms⟩ : ∃ ms, ms = ns.drop t.toNat ++ ns.take t.toNat := ⟨_, rfl⟩
  have em : (ns.drop t.toNat).map encNote ++ (ns.take t.toNat).map encNote = ms.map encNote := by rw [hms, List.map_append]
  have gm : GoodNs ms := hms ▸ goodNs_rot hg t.toNat
  have mmem : ∀ x ∈ ms, x.1 ∈ nm ∧ x.2.1 ∈ nm := fun x hx => hnmm x (by
    rw [hms] at hx
    rcases List.mem_append.mp hx with hx | hx
    · exact List.mem_of_mem_drop hx
    · exact List.mem_of_mem_take hx)
  have ml : ms.length = ns.length := by rw [hms, List.length_append, List.length_drop, List.length_take]; omega
  have ea : ∀ (o x : O), st.set a o ++ [O.dct kvs, O.lst (ns.map encNote)] ++ [x] = st.set a o ++ [O.dct kvs, O.lst (ns.map encNote), x] := fun o x => by simp
  have lk2 : ∀ (o : O), look (st.set a o ++ [O.dct kvs, O.lst (ns.map encNote), O.lst (ms.map encNote)]) (.ref (st.length + (0 + 1 + 1))) = .lst (ms.map encNote) := fun o => by simp only [look, gR]; rfl
  obtain ⟨p1, hp1⟩ : ∃ v, v = drw cs (n + 1 + 1) 6 := ⟨_, rfl⟩
  obtain ⟨p2, hp2⟩ : ∃ v, v = drw cs (n + 1 + 1 + 1) 20 := ⟨_, rfl⟩
  obtain ⟨p3, hp3⟩ : ∃ v, v = drw cs (n + 1 + 1 + 1 + 1) 3 := ⟨_, rfl⟩
  have b1 : 0 ≤ p1 ∧ p1 < 6 := ⟨hp1 ▸ drw_nn (by decide), hp1 ▸ drw_lt (by decide)⟩
  have b2 : 0 ≤ p2 ∧ p2 < 20 := ⟨hp2 ▸ drw_nn (by decide), hp2 ▸ drw_lt (by decide)⟩
  have b3 : 0 ≤ p3 ∧ p3 < 3 := ⟨hp3 ▸ drw_nn (by decide), hp3 ▸ drw_lt (by decide)⟩
  have F2 := nx (n + 1) 6 [O.dct kvs, O.lst (ns.map encNote), O.lst (ms.map encNote)] (by omega) (by omega) (by decide)
  have F3 := nx (n + 1 + 1) 20 [O.dct kvs, O.lst (ns.map encNote), O.lst (ms.map encNote)] (by omega) (by omega) (by decide)
  have F4 := nx (n + 1 + 1 + 1) 3 [O.dct kvs, O.lst (ns.map encNote), O.lst (ms.map encNote)] (by omega) (by omega) (by decide)
  rw [← hp1] at F2
  rw [← hp2] at F3
  rw [← hp3] at F4
  obtain ⟨f, hf, f0, f1⟩ : ∃ f : Int, ixD [D.int p1, .int p2, .int 80] p3 = some (.int f) ∧ 0 ≤ f ∧ f ≤ 80 := by
    obtain ⟨e, h1, h2 | h2 | h2⟩ := ix3 (D.int p1) (.int p2) (.int 80) b3.1 b3.2 <;> subst h2
    · exact ⟨p1, h1, by omega, by omega⟩
    · exact ⟨p2, h1, by omega, by omega⟩
    · exact ⟨80, h1, by omega, by omega⟩
  obtain ⟨g, hg2, g0, g1, g2⟩ : ∃ g : Int, f * (if (ms.length : Int) > 1 then 1 else 0) = g ∧ 0 ≤ g ∧ g ≤ 80 ∧ (0 < g → 2 ≤ ms.length) := by
    by_cases hc : (ms.length : Int) > 1
    · exact ⟨f, by rw [if_pos hc, Int.mul_one], f0, f1, fun _ => by omega⟩
    · exact ⟨0, by rw [if_neg hc, Int.mul_zero], by omega, by omega, fun z => absurd z (by decide)⟩
  have m1 : mulOk f (if (ms.length : Int) > 1 then 1 else 0) = true := mulOk_l (by omega)
  have len3 : ∀ o : O, (st.set a o ++ [O.dct kvs, O.lst (ns.map encNote)]).length = st.length + (0 + 1 + 1) := fun o => by simp
  unfold goodTail
  have m1' : mulOk f 1 = true := mulOk_l (by omega)
  have m0' : mulOk f 0 = true := mulOk_l (by omega)
  -- from the ties on
  have ties : ∀ (v7 : Option D) {Q : List D → Store → Prop}, (∀ (ts : List TieT) (n2 : Int), n + 1 + 1 + 1 + 1 ≤ n2 → n2 ≤ n + 4 + 9 * 80 → (∀ t ∈ ts, TieFits ms t) → ts.length ≤ 80 → Q (ts.map encTie) (st.set a (drO cs n2 r) ++ [O.dct kvs, O.lst (ns.map encNote), O.lst (ms.map encNote)])) →
      wR (lcL (fun σ st => evE (PG rp) (runF (PG rp) (k + 2)) σ (.call i__law_fitting (.cons (.var 0) (.cons (.var 6) .nil))) st) (fun σ st => .ok true st) (.nm 9) none [some (.ref a), d1, d2, d3, some (.ref st.length), v5, some (.ref (st.length + (0 + 1 + 1))), some (.int g), v8, none, v10, some (.int t), none, none] (rngL 0 g.toNat 1) (st.set a (drO cs (n + 1 + 1 + 1 + 1) r) ++ [O.dct kvs, O.lst (ns.map encNote), O.lst (ms.map encNote)])) Q nX := by
    intro v7 Q hQ
    refine wR_lc (fun i acc s => ∃ (ts : List TieT) (n2 : Int), acc = ts.map encTie ∧ ts.length = i ∧ (∀ t ∈ ts, TieFits ms t) ∧ n + 1 + 1 + 1 + 1 ≤ n2 ∧ n2 ≤ n + 4 + 9 * i ∧ s = st.set a (drO cs n2 r) ++ [O.dct kvs, O.lst (ns.map encNote), O.lst (ms.map encNote)]) ⟨[], _, rfl, rfl, (fun t ht => by cases ht), Int.le_refl _, by omega, rfl⟩ ?_ ?_
    · rintro i d acc s hi ⟨ts, n2, rfl, tl, tf, q1, q2, rfl⟩
      obtain ⟨h1, rfl⟩ := rngL_get hi
      refine ⟨_, bg_nm _ _ _, ?_⟩
      have D1 := (h.set (m := n2) (by omega)).app [O.dct kvs, O.lst (ns.map encNote), O.lst (ms.map encNote)]
      have sa : ∀ (o o' : O) (R : Store), (st.set a o ++ R).set a o' = st.set a o' ++ R := fun o o' R => by rw [List.set_append_left _ _ (by rw [List.length_set]; exact h.lt), List.set_set]
      have F := c_fitting (rp := rp) (k := k) (ns := ms) (dn := .ref (st.length + (0 + 1 + 1))) D1 (by omega) (fun n' => by rw [sa]; exact lk2 _) gm (g2 (by omega))
      simp only [sa] at F
      simp_all only []
      refine wR_use F ?_
      rintro d s ⟨n3, x, rfl, rfl, q3, q4, q5⟩
      refine ⟨rfl, ts ++ [x], n3, by simp, by simp [tl], fun y hy => ?_, by omega, by omega, rfl⟩
      rcases List.mem_append.mp hy with hy | hy
      · exact tf y hy
      · rw [List.mem_singleton.mp hy]; exact q5
    · rintro acc s ⟨ts, n2, rfl, tl, tf, q1, q2, rfl⟩
      rw [rngL_len] at tl q2
      exact hQ ts n2 q1 (by omega) tf (by omega)
  have fin : ∀ (ts : List TieT) (n2 : Int) (hm : Option HomeT), n ≤ n2 → n2 ≤ n + 1000 → (∀ t ∈ ts, TieFits ms t) → ts.length ≤ 80 → (∀ x, hm = some x → x.1 ≠ x.2 ∧ (findN ms x.1).isSome = true ∧ (findN ms x.2).isSome = true) →
      ∃ n' sg, D.tup [.tup (ms.map encNote), .tup (ts.map encTie), encHm hm] = encSg sg ∧ (∃ R, st.set a (drO cs n2 r) ++ [O.dct kvs, O.lst (ns.map encNote), O.lst (ms.map encNote)] = st.set a (drO cs n' r) ++ R) ∧ n ≤ n' ∧ n' ≤ n + 1000 ∧ SgGood nm sg :=
    fun ts n2 hm q1 q2 tf tl hh => ⟨n2, ⟨ms, ts, hm⟩, rfl, ⟨_, rfl⟩, q1, q2, mmem, gm, tf, tl, hh⟩
  by_cases hc : ms.length = 1
  · have hc' : ¬ (1 : Int) < (ms.length : Int) := by omega
    have hc2 : ¬ ((ms.length : Int) > 1) := hc'
    rw [if_neg hc2] at hg2
    simp_all only [lk1', List.length_map, F1, c1, c2, em, ea, len3, lk2, F2, F3, F4, hf, hc', m0', hg2]
    refine ties none fun ts n2 q1 q2 tf tl => ?_
    simp_all only [List.length_map, lk2, hc']
    exact fin ts n2 none (by omega) (by omega) tf tl fun x hx => by cases hx
  · have hc' : (1 : Int) < (ms.length : Int) := by omega
    rw [if_pos hc'] at hg2
    simp_all only [lk1', List.length_map, F1, c1, c2, em, ea, len3, lk2, F2, F3, F4, hf, hc', m1', hg2]
    refine ties none fun ts n2 q1 q2 tf tl => ?_
    obtain ⟨y, hy⟩ : ∃ v, v = drw cs (n2 + 1) 2 := ⟨_, rfl⟩
    have F5 := nx n2 2 [O.dct kvs, O.lst (ns.map encNote), O.lst (ms.map encNote)] (by omega) (by omega) (by decide)
    rw [← hy] at F5
    by_cases y1 : y = 1
    · obtain ⟨z, hz⟩ : ∃ v, v = drw cs (n2 + 1 + 1) ((ms.length : Int) - 1) := ⟨_, rfl⟩
      have z0 : 0 ≤ z := hz ▸ drw_nn (by omega)
      have z1 : z < (ms.length : Int) - 1 := hz ▸ drw_lt (by omega)
      have F6 := nx (n2 + 1) ((ms.length : Int) - 1) [O.dct kvs, O.lst (ns.map encNote), O.lst (ms.map encNote)] (by omega) (by omega) (by omega)
      rw [← hz] at F6
      have h0 : 0 < ms.length := by omega
      have hzn : (1 + z).toNat < ms.length := by omega
      obtain ⟨x0, hx0⟩ : ∃ v, ms[0]? = some v := ⟨_, List.getElem?_eq_getElem h0⟩
      obtain ⟨x1, hx1⟩ : ∃ v, ms[(1 + z).toNat]? = some v := ⟨_, List.getElem?_eq_getElem hzn⟩
      have ix0 : ixD (ms.map encNote) 0 = some (encNote x0) := by
        have := ixD_nat (ms.map encNote) 0
        rw [show ((0 : Nat) : Int) = 0 from rfl] at this
        rw [this, List.getElem?_map, hx0]; rfl
      have ix1 : ixD (ms.map encNote) (1 + z) = some (encNote x1) := by rw [ixD_nn _ (by omega), List.getElem?_map, hx1]; rfl
      simp_all only [List.length_map, lk2, hc', F5, y1, ix0, ix1, F6, lk_note, ixn0]
      refine fin ts _ (some (x0.1, x1.1)) (by omega) (by omega) tf tl fun x hx => ?_
      cases hx
      have hp := List.pairwise_iff_getElem.mp gm.nd
      obtain ⟨_, e0⟩ := List.getElem?_eq_some_iff.mp hx0
      obtain ⟨_, e1⟩ := List.getElem?_eq_some_iff.mp hx1
      have hne := hp 0 (1 + z).toNat h0 hzn (by omega)
      rw [e0, e1] at hne
      rw [findN_at gm.nd hx0, findN_at gm.nd hx1]
      exact ⟨hne, rfl, rfl⟩
    · simp_all only [List.length_map, lk2, hc', F5, y1]
      exact fin ts _ none (by omega) (by omega) tf tl fun x hx => by cases hx
end
section
variable {st : Store} {k a : Nat} {n : Int} {cs : List Int}
theorem c_good {rest : List Nat} {p : Nat} (h : Dw st a cs n (namesR rest p)) (hn : n < 2 ^ 56) :
    wR (runF (PG rp) (k + 3) i__law_good [.ref a] st) (fun d s => ∃ n' sg, d = encSg sg ∧ s = st.set a (drO cs n' (namesR rest p)) ∧ n ≤ n' ∧ n' ≤ n + 2000 ∧ SgGood (namesOf rest p) sg) nX := by
  refine run_w (F := f__law_good) rfl rfl rfl ?_
  show wS (evSs _ _ [some (.ref a), none, none, none, none, none, none, none, none, none, none, none, none, none] b__law_good st) _ _ _
  have hb : b__law_good = (.cons (.asg (.g (.nm 1)) (.idx (.var 0) (.str [110, 97, 109, 101, 115]))) (.cons (.asg (.g (.nm 2)) (.idx (.lst false (.cons (.int 40) (.cons (.int 0) .nil))) (.call i__law_next (.cons (.var 0) (.cons (.int 2) .nil))))) (.cons (.asg (.g (.nm 3)) (.slc false (.var 1) (.var 2) (.bin false .add (.bin false .add (.var 2) (.int 2)) (.call i__law_next (.cons (.var 0) (.cons (.int 3) .nil)))))) (.cons (.asg (.g (.nm 4)) (.bi true .dict (.cons (.lc false (.tup (.cons (.var 5) (.cons (.call i__law_next (.cons (.var 0) (.cons (.int 5) .nil))) .nil))) (.nm 5) (.seq (.var 3)) (.no)) .nil))) (.cons (.asg (.g (.nm 6)) (.lst true (.nil))) (.cons (.par 7 8 (.idx (.lst false (.cons (.int 1) (.cons (.int 7) (.cons (.int 13) (.cons (.int 39) .nil))))) (.call i__law_next (.cons (.var 0) (.cons (.int 4) .nil)))) (.call i__law_next (.cons (.var 0) (.cons (.int 40) .nil)))) (.cons (.fr (.nm 9) (.rng1 (.idx (.lst false (.cons (.bin false .add (.int 1) (.call i__law_next (.cons (.var 0) (.cons (.int 6) .nil)))) (.cons (.bin false .add (.int 1) (.call i__law_next (.cons (.var 0) (.cons (.int 14) .nil)))) (.cons (.int 40) .nil)))) (.call i__law_next (.cons (.var 0) (.cons (.int 3) .nil))))) b__law_good_1) goodTail))))))) := rfl
  rw [hb]
  have nn := h.nn
  have nx : ∀ (n' m : Int) (L : Store), 0 ≤ n' → n' < 2 ^ 60 → 0 < m → runF (PG rp) (k + 2) i__law_next [.ref a, .int m] (st.set a (drO cs n' (namesR rest p)) ++ L) = .ok (.int (drw cs (n' + 1) m)) (st.set a (drO cs (n' + 1) (namesR rest p)) ++ L) := fun n' m L h0 h1 h2 => h.nextA h0 h1 h2
  have nx0 : ∀ (n' m : Int), 0 ≤ n' → n' < 2 ^ 60 → 0 < m → runF (PG rp) (k + 2) i__law_next [.ref a, .int m] (st.set a (drO cs n' (namesR rest p))) = .ok (.int (drw cs (n' + 1) m)) (st.set a (drO cs (n' + 1) (namesR rest p))) := fun n' m h0 h1 h2 => h.next2 h0 h1 h2
  obtain ⟨nm, hnm⟩ : ∃ nm, nm = namesOf rest p := ⟨_, rfl⟩
  have nl : nm.length = 48 := hnm ▸ names_len rest p
  have nd : nm.Nodup := hnm ▸ names_nd rest p
  have kvn := kv_names (cs := cs) (n := n) (rest := rest) (a := p)
  rw [← hnm] at kvn ⊢
  obtain ⟨t, ht⟩ : ∃ v, v = drw cs (n + 1) 2 := ⟨_, rfl⟩
  have t0 : 0 ≤ t ∧ t < 2 := ⟨ht ▸ drw_nn (by decide), ht ▸ drw_lt (by decide)⟩
  obtain ⟨u, hu⟩ : ∃ v, v = drw cs (n + 1 + 1) 3 := ⟨_, rfl⟩
  have u0 : 0 ≤ u ∧ u < 3 := ⟨hu ▸ drw_nn (by decide), hu ▸ drw_lt (by decide)⟩
  have F1 := h.next (rp := rp) (k := k + 1) (m := 2) (by omega) (by decide)
  have F2 := nx0 (n + 1) 3 (by omega) (by omega) (by decide)
  rw [← ht] at F1
  rw [← hu] at F2
  obtain ⟨f, hf, hf2⟩ : ∃ f : Int, ixD [D.int 40, .int 0] t = some (.int f) ∧ (f = 40 ∨ f = 0) := by
    obtain ⟨e, h1, h2 | h2⟩ := ix2 (D.int 40) (.int 0) t0.1 t0.2 <;> subst h2
    · exact ⟨40, h1, .inl rfl⟩
    · exact ⟨0, h1, .inr rfl⟩
  obtain ⟨vs, hvs⟩ : ∃ vs, vs = (nm.drop f.toNat).take (2 + u).toNat := ⟨_, rfl⟩
  have vl : vs.length = (2 + u).toNat := by rw [hvs, List.length_take, List.length_drop]; omega
  have vnd : vs.Nodup := by rw [hvs]; exact (nd.sublist (List.drop_sublist _ _)).sublist (List.take_sublist _ _)
  have ct : cut (nm.map D.str) (some f) (some (f + 2 + u)) = vs.map .str := by
    rw [cut_map]
    have := cut_mid nm (a := f.toNat) (b := (f + 2 + u).toNat) (by omega) (by omega)
    rw [Int.toNat_of_nonneg (by omega), Int.toNat_of_nonneg (by omega)] at this
    rw [this, hvs, show (f + 2 + u).toNat - f.toNat = (2 + u).toNat by omega]
  simp_all only [lk_rd h.at_, kvn, F1, hf, F2, ct]
  refine wR_lc (fun i acc s => s = st.set a (drO cs (n + 1 + 1 + i) (namesR rest p)) ∧ ∃ c : List Nat → Int, (∀ v, 0 ≤ c v ∧ c v ≤ 4) ∧ acc = (vs.take i).map fun v => .tup [.str v, .int (c v)]) ⟨by simp, fun _ => 0, fun _ => ⟨Int.le_refl _, by simp⟩, rfl⟩ ?_ ?_
  · rintro i d acc s hi ⟨rfl, c, hc, rfl⟩
    obtain ⟨v, hv, rfl⟩ := map_get hi
    have il : i < vs.length := (List.getElem?_eq_some_iff.mp hv).1
    refine ⟨_, bg_nm _ _ _, ?_⟩
    obtain ⟨w, hw⟩ : ∃ w, w = drw cs (n + 1 + 1 + (i : Int) + 1) 5 := ⟨_, rfl⟩
    have w0 : 0 ≤ w ∧ w < 5 := ⟨hw ▸ drw_nn (by decide), hw ▸ drw_lt (by decide)⟩
    have F3 := nx0 (n + 1 + 1 + i) 5 (by omega) (by omega) (by decide)
    rw [← hw] at F3
    simp_all only [F3]
    refine ⟨rfl, by rw [show n + 1 + 1 + (i : Int) + 1 = n + 1 + 1 + ((i + 1 : Nat) : Int) by omega], fun z => if z = v then w else c z, fun z => ?_, ?_⟩
    · by_cases e : z = v
      · simp only [e, if_true]; omega
      · simp only [if_neg e]; exact hc z
    · rw [take_snoc hv, List.map_append, List.map_cons, List.map_nil]
      simp only [if_true]
      congr 1
      apply List.map_congr_left
      intro z hz
      have : z ≠ v := by
        rintro rfl
        obtain ⟨j, hj, e⟩ := List.mem_take_iff_getElem.mp hz
        have hj2 : j < vs.length := by omega
        have := (List.getElem?_inj hj2 vnd).mp ((List.getElem?_eq_getElem hj2).trans ((congrArg some e).trans hv.symm))
        omega
      rw [if_neg this]
  · rintro acc s ⟨rfl, c, hc, rfl⟩
    rw [List.length_map, List.take_length]
    obtain ⟨n1, hn1⟩ : ∃ m, m = n + 1 + 1 + (vs.length : Int) := ⟨_, rfl⟩
    rw [← hn1]
    have po := pairsOf_map (fun v : List Nat => v) (fun v => D.int (c v)) vs
    have dc : dictOf (clk vs c) = clk vs c := by
      refine dictOf_nd ?_
      unfold clk
      rw [List.map_map, List.nodup_iff_pairwise_ne, List.pairwise_map]
      exact (List.nodup_iff_pairwise_ne.mp vnd).imp fun hne e => hne (by simpa using e)
    have bd : biD (PG rp).rp .dict [.lst (vs.map fun v => .tup [.str v, .int (c v)])] = some (.dct (clk vs c)) := by
      rw [bi_dict_l _ _ po]
      exact congrArg (fun z => some (D.dct z)) dc
    have ea : ∀ (o : O), st.set a o ++ [O.dct (clk vs c)] ++ [O.lst []] = st.set a o ++ [O.dct (clk vs c), O.lst []] := fun o => by simp
    have len1 : ∀ o : O, (st.set a o).length = st.length := fun o => by simp
    have len2 : ∀ o x : O, (st.set a o ++ [x]).length = st.length + (0 + 1) := fun o x => by simp
    obtain ⟨t4, ht4⟩ : ∃ v, v = drw cs (n1 + 1) 4 := ⟨_, rfl⟩
    have b4 : 0 ≤ t4 ∧ t4 < 4 := ⟨ht4 ▸ drw_nn (by decide), ht4 ▸ drw_lt (by decide)⟩
    obtain ⟨t5, ht5⟩ : ∃ v, v = drw cs (n1 + 1 + 1) 40 := ⟨_, rfl⟩
    have b5 : 0 ≤ t5 ∧ t5 < 40 := ⟨ht5 ▸ drw_nn (by decide), ht5 ▸ drw_lt (by decide)⟩
    obtain ⟨t6, ht6⟩ : ∃ v, v = drw cs (n1 + 1 + 1 + 1) 6 := ⟨_, rfl⟩
    have b6 : 0 ≤ t6 ∧ t6 < 6 := ⟨ht6 ▸ drw_nn (by decide), ht6 ▸ drw_lt (by decide)⟩
    obtain ⟨t7, ht7⟩ : ∃ v, v = drw cs (n1 + 1 + 1 + 1 + 1) 14 := ⟨_, rfl⟩
    have b7 : 0 ≤ t7 ∧ t7 < 14 := ⟨ht7 ▸ drw_nn (by decide), ht7 ▸ drw_lt (by decide)⟩
    obtain ⟨t8, ht8⟩ : ∃ v, v = drw cs (n1 + 1 + 1 + 1 + 1 + 1) 3 := ⟨_, rfl⟩
    have b8 : 0 ≤ t8 ∧ t8 < 3 := ⟨ht8 ▸ drw_nn (by decide), ht8 ▸ drw_lt (by decide)⟩
    have F4 := nx n1 4 [O.dct (clk vs c), O.lst []] (by omega) (by omega) (by decide)
    have F5 := nx (n1 + 1) 40 [O.dct (clk vs c), O.lst []] (by omega) (by omega) (by decide)
    have F6 := nx (n1 + 1 + 1) 6 [O.dct (clk vs c), O.lst []] (by omega) (by omega) (by decide)
    have F7 := nx (n1 + 1 + 1 + 1) 14 [O.dct (clk vs c), O.lst []] (by omega) (by omega) (by decide)
    have F8 := nx (n1 + 1 + 1 + 1 + 1) 3 [O.dct (clk vs c), O.lst []] (by omega) (by omega) (by decide)
    rw [← ht4] at F4
    rw [← ht5] at F5
    rw [← ht6] at F6
    rw [← ht7] at F7
    rw [← ht8] at F8
    obtain ⟨q, hq, hq2⟩ : ∃ q : Int, ixD [D.int 1, .int 7, .int 13, .int 39] t4 = some (.int q) ∧ (q = 1 ∨ q = 7 ∨ q = 13 ∨ q = 39) := by
      obtain ⟨e, h1, h2 | h2 | h2 | h2⟩ := ix4 (D.int 1) (.int 7) (.int 13) (.int 39) b4.1 b4.2 <;> subst h2
      · exact ⟨1, h1, .inl rfl⟩
      · exact ⟨7, h1, .inr (.inl rfl)⟩
      · exact ⟨13, h1, .inr (.inr (.inl rfl))⟩
      · exact ⟨39, h1, .inr (.inr (.inr rfl))⟩
    obtain ⟨m, hm, m0, m1⟩ : ∃ m : Int, ixD [D.int (1 + t6), .int (1 + t7), .int 40] t8 = some (.int m) ∧ 1 ≤ m ∧ m ≤ 40 := by
      obtain ⟨e, h1, h2 | h2 | h2⟩ := ix3 (D.int (1 + t6)) (.int (1 + t7)) (.int 40) b8.1 b8.2 <;> subst h2
      · exact ⟨1 + t6, h1, by omega, by omega⟩
      · exact ⟨1 + t7, h1, by omega, by omega⟩
      · exact ⟨40, h1, by omega, by omega⟩
    simp_all only [List.length_map, bd, ea, len1, len2, F4, F5, F6, F7, F8, hq, hm]
    have vne : vs ≠ [] := by intro e; rw [e] at vl; simp at vl; omega
    refine wS_for (fun i σ s => ∃ (n2 : Int) (c : List Nat → Int) (ns : List NoteT) (w5 w9 w10 : Option D), σ = [some (.ref a), some (.lst (nm.map .str)), some (.int f), some (.lst (vs.map .str)), some (.ref st.length), w5, some (.ref (st.length + (0 + 1))), some (.int q), some (.int t5), w9, w10, none, none, none] ∧
      s = st.set a (drO cs n2 (namesR rest p)) ++ [O.dct (clk vs c), O.lst (ns.map encNote)] ∧ n1 + 5 ≤ n2 ∧ n2 ≤ n1 + 5 + 5 * i ∧ NotesIn nm vs q t5 c ns ∧ ns.length = i) ⟨_, c, [], _, _, _, rfl, rfl, by omega, by omega, ⟨.nil, (fun x hx => by cases hx), (fun x hx => by cases hx), fun v => by have := hc v; simpa using this⟩, rfl⟩ ?_ ?_
    · rintro i d σ s hi ⟨n2, c, ns, w5, w9, w10, rfl, rfl, q1, q2, q3, q4⟩
      obtain ⟨h1, rfl⟩ := rngL_get hi
      refine ⟨_, bg_nm _ _ _, ?_⟩
      have D1 := h.set (m := n2) (by omega)
      have w := w_goodRow (rp := rp) (k := k + 1) (nm := nm) (vs := vs) (f := q) (p := t5) (c := c) (ns := ns) (d1 := none) (d2 := some (.int f)) (v5 := w5) (v10 := w10) (d11 := none) (d12 := none) (d13 := none) D1 (by omega) nd nl vne (by omega) hq2 b5.1 q3 (by omega)
      simp only [List.set_set, List.length_set] at w
      have ei : (0 : Int) + (i : Int) * 1 = (ns.length : Int) := by omega
      rw [ei]
      refine wS_mono w ?_ (fun _ _ h => h.elim) (fun _ _ _ _ h => h.elim)
      rintro σ s ⟨n3, c2, x, u5, u10, rfl, rfl, p1, p2, p3⟩
      exact ⟨rfl, n3, c2, ns ++ [x], _, _, _, rfl, rfl, by omega, by omega, p3, by simp [q4]⟩
    · rintro σ s ⟨n2, c, ns, w5, w9, w10, rfl, rfl, q1, q2, q3, q4⟩
      rw [rngL_len] at q2 q4
      have hne : ns ≠ [] := by rintro rfl; simp at q4; omega
      have D1 := h.set (m := n2) (by omega)
      have w := w_goodTail (rp := rp) (k := k) (nm := nm) (vs := vs) (ns := ns) (kvs := clk vs c) (d1 := some (.lst (nm.map .str))) (d2 := some (.int f)) (d3 := some (.lst (vs.map .str))) (v5 := w5) (v7 := some (.int q)) (v8 := some (.int t5)) (v9 := w9) (v10 := w10) D1 (by omega) (goodNs_of q3 (by omega) hne) (fun x hx => ⟨by obtain ⟨j, _, e⟩ := q3.nmd x hx; exact List.mem_of_getElem? e, by
        have := (q3.bd x hx).1
        rw [hvs] at this
        exact List.mem_of_mem_drop (List.mem_of_mem_take this)⟩)
      simp only [List.set_set, List.length_set] at w
      refine wS_mono w (fun _ _ h => h.elim) ?_ (fun _ _ _ _ h => h.elim)
      rintro d s ⟨n3, sg, rfl, ⟨R, rfl⟩, p1, p2, p3⟩
      exact wR_of_eq (leave_fz (pure_sg sg) (trunc_setA (drO_pure h.pure))) ⟨n3, sg, rfl, rfl, by omega, by omega, p3⟩
end
/-! ### names that hang together, by the law -/
def nmsS (s : Sg) : List Nme := s.ns.map (·.1)
def prsS (s : Sg) : List (Nme × Nme) := s.ts.map fun t => (t.2.1, t.2.2.1)
structure CnS (s : Sg) : Prop where
  nd : (nmsS s).Nodup
  inn : ∀ t ∈ s.ts, t.2.1 ∈ nmsS s ∧ t.2.2.1 ∈ nmsS s ∧ t.2.1 ≠ t.2.2.1
  nl : s.ns.length ≤ 40
  tl : s.ts.length ≤ 80
theorem findN_mem {ns : List NoteT} {w : Nme} (h : (findN ns w).isSome = true) : w ∈ ns.map (·.1) := by
  obtain ⟨x, hx⟩ := Option.isSome_iff_exists.mp h
  have h1 := List.mem_of_find?_eq_some hx
  have h2 : x.1 = w := by simpa using List.find?_some hx
  exact List.mem_map.mpr ⟨x, h1, h2⟩
theorem goodT_inn {ns : List NoteT} {t : TieT} (h : goodT ns t = true) : t.2.1 ∈ ns.map (·.1) ∧ t.2.2.1 ∈ ns.map (·.1) ∧ t.2.1 ≠ t.2.2.1 := by
  unfold goodT at h
  cases h1 : findN ns t.2.1 with
  | none => rw [h1] at h; cases h
  | some a =>
    cases h2 : findN ns t.2.2.1 with
    | none => rw [h1, h2] at h; cases h
    | some b =>
      rw [h1, h2] at h
      simp only [Bool.and_eq_true, Bool.not_eq_true', decide_eq_false_iff_not] at h
      exact ⟨findN_mem (by rw [h1]; rfl), findN_mem (by rw [h2]; rfl), h.1⟩
theorem SgGood.cn {nm : List (List Nat)} {s : Sg} (h : SgGood nm s) : CnS s := ⟨by
  unfold nmsS
  rw [List.nodup_iff_pairwise_ne, List.pairwise_map]
  exact h.ns.nd, fun t ht => goodT_inn (h.ts t ht).1, h.ns.le, h.tl⟩
theorem prs_in {s : Sg} (h : CnS s) : ∀ p ∈ prsS s, p.1 ∈ nmsS s ∧ p.2 ∈ nmsS s := by
  intro p hp
  obtain ⟨t, ht, rfl⟩ := List.mem_map.mp hp
  exact ⟨(h.inn t ht).1, (h.inn t ht).2.1⟩
theorem nms_len (s : Sg) : (nmsS s).length = s.ns.length := by simp [nmsS]
section
variable {st : Store} {k : Nat}
abbrev tsL' (l : List Nme) : D := .lst (l.map .str)
theorem w_come_tie {s : Sg} (h : CnS s) {x y : Nme} {l : List Nme} {a : Nat} {t : TieT} (ht : t ∈ s.ts) {v5 : Option D} (hnd : l.Nodup) (hy : l[a]? = some y) (hc : ∀ z ∈ l, Cn (prsS s) x z) (hx : x ∈ nmsS s) {cf : CallF} :
    wS (evSs (PG rp) cf [some (encSg s), some (.str x), some (tsL l), some (.int (a : Int)), some (encTie t), v5] b__law_come_to_2 st)
      (fun σ s' => ∃ (l2 : List Nme) (w5 : Option D), σ = [some (encSg s), some (.str x), some (tsL l2), some (.int (a : Int)), some (encTie t), w5] ∧ s' = st ∧ l2.Nodup ∧ (∃ e, l2 = l ++ e) ∧ (∀ z ∈ l2, Cn (prsS s) x z) ∧ (t.2.1 = y → t.2.2.1 ∈ l2) ∧ (t.2.2.1 = y → t.2.1 ∈ l2)) nT nXe := by
  have hs : slcD (encTie t) (some 1) (some 3) = some (.tup [.str t.2.1, .str t.2.2.1]) := rfl
  have hll : l.length ≤ 40 := by
    have := sub_len hnd fun z hz => (hc z hz).inN (prs_in h) hx
    rw [nms_len] at this
    have := h.nl
    omega
  have iy : ixD (l.map D.str) (a : Int) = some (.str y) := by rw [ixD_nat, List.getElem?_map, hy]; rfl
  have ym : y ∈ l := List.mem_of_getElem? hy
  have pl2 : D.plains 8 [D.str t.2.1, .str t.2.2.1] = true := plains_strs 8 [t.2.1, t.2.2.1]
  have in2 : inD (.str y) [D.str t.2.1, .str t.2.2.1] = decide (y ∈ [t.2.1, t.2.2.1]) := inD_strs y [t.2.1, t.2.2.1]
  have pll : D.plains 8 (l.map D.str) = true := plains_strs 8 l
  have tp : (t.2.1, t.2.2.1) ∈ prsS s := List.mem_map.mpr ⟨t, ht, rfl⟩
  have tne := (h.inn t ht).2.2
  unfold b__law_come_to_2
  by_cases hin : y ∈ [t.2.1, t.2.2.1]
  · simp_all only [tsL, iy, lk_tie, hs, in_t, pl2, in2, hin]
    refine wR_lcFilt [t.2.1, t.2.2.1] D.str D.str (fun w => !decide (w ∈ l)) rfl (fun w hw => ⟨_, by erw []; rfl, ?_, fun _ => by erw []⟩) ?_
    · have inl := inD_strs w l
      simp_all only [in_l, pll, inl]
    · have fl : ([t.2.1, t.2.2.1].filter fun w => !decide (w ∈ l)).length ≤ 2 := List.length_filter_le ..
      obtain ⟨e, he⟩ : ∃ e, e = [t.2.1, t.2.2.1].filter fun w => !decide (w ∈ l) := ⟨_, rfl⟩
      rw [← he] at fl ⊢
      simp_all only []
      have mem : ∀ w, w ∈ e ↔ (w = t.2.1 ∨ w = t.2.2.1) ∧ w ∉ l := fun w => by rw [he]; simp [List.mem_filter]
      have end_ : ∀ w, (w = t.2.1 ∨ w = t.2.2.1) → w ∈ l ++ e := fun w hw => by
        by_cases hl : w ∈ l
        · exact List.mem_append_left _ hl
        · exact List.mem_append_right _ ((mem w).mpr ⟨hw, hl⟩)
      refine ⟨l ++ e, _, by rw [List.map_append], ?_, ⟨e, rfl⟩, fun z hz => ?_, fun _ => end_ _ (.inr rfl), fun _ => end_ _ (.inl rfl)⟩
      · rw [List.nodup_append]
        refine ⟨hnd, ?_, fun u hu v hv e2 => ?_⟩
        · rw [he]
          have : [t.2.1, t.2.2.1].Nodup := by simpa using tne
          exact this.sublist List.filter_sublist
        · rw [e2] at hu
          exact ((mem v).mp hv).2 hu
      · rcases List.mem_append.mp hz with hz | hz
        · exact hc z hz
        · have cy := hc y ym
          simp only [List.mem_cons, List.not_mem_nil, or_false] at hin
          rcases ((mem z).mp hz).1 with rfl | rfl
          · rcases hin with rfl | rfl
            · exact cy
            · exact .back cy tp
          · rcases hin with rfl | rfl
            · exact .forth cy tp
            · exact cy
  · simp_all only [tsL, iy, lk_tie, hs, in_t, pl2, in2, hin]
    simp only [List.mem_cons, List.not_mem_nil, or_false, not_or] at hin
    exact ⟨l, _, rfl, hnd, ⟨[], by simp⟩, hc, fun e => absurd e.symm hin.1, fun e => absurd e.symm hin.2⟩
def cloS (s : Sg) (z : Nme) (l : List Nme) : Prop := ∀ p ∈ prsS s, (p.1 = z → p.2 ∈ l) ∧ (p.2 = z → p.1 ∈ l)
theorem c_come {s : Sg} (h : CnS s) {x : Nme} (hx : x ∈ nmsS s) : wR (runF (PG rp) (k + 1) i__law_come_to [encSg s, .str x] st) (fun d s' => ∃ l, Cls (prsS s) x l ∧ d = tsL l ∧ s' = st) nX := by
  refine run_z (F := f__law_come_to) rfl rfl rfl rfl ?_
  show wS (evSs _ _ [some (encSg s), some (.str x), none, none, none, none] b__law_come_to st) _ _ _
  unfold b__law_come_to
  have sub : ∀ l : List Nme, l.Nodup → (∀ z ∈ l, Cn (prsS s) x z) → l.length ≤ s.ns.length := fun l hnd hc => by
    have := sub_len hnd fun z hz => (hc z hz).inN (prs_in h) hx
    rwa [nms_len] at this
  have hnl := h.nl
  have n1 : 1 ≤ s.ns.length := by rw [← nms_len]; exact List.length_pos_iff.mpr (List.ne_nil_of_mem hx)
  simp_all only []
  refine wS_whl (fun m σ s' => ∃ (l : List Nme) (a : Nat) (v4 v5 : Option D), σ = [some (encSg s), some (.str x), some (tsL l), some (.int (a : Int)), v4, v5] ∧ s' = st ∧ a + m = s.ns.length ∧ a ≤ l.length ∧ l.Nodup ∧ x ∈ l ∧ (∀ z ∈ l, Cn (prsS s) x z) ∧ ∀ (j : Nat) z, j < a → l[j]? = some z → cloS s z l)
    s.ns.length ⟨[x], 0, _, _, rfl, rfl, by omega, by simp, by simp, by simp, (fun z hz => by rw [List.mem_singleton.mp hz]; exact .refl), fun j z hj => absurd hj (Nat.not_lt_zero j)⟩ ?_
  rintro m σ s' ⟨l, a, v4, v5, rfl, rfl, q1, q2, q3, q4, q5, q6⟩
  have hll := sub l q3 q5
  by_cases ha : a < l.length
  · have ha' : (a : Int) < (l.length : Int) := by omega
    obtain ⟨y, hy⟩ : ∃ y, l[a]? = some y := ⟨_, List.getElem?_eq_getElem ha⟩
    have i1 : idxD (encSg s) (.int 1) = some (.tup (s.ts.map encTie)) := rfl
    unfold b__law_come_to_1
    simp_all only [tsL, List.length_map, ha', lk_sg, i1]
    refine wS_for (fun i σ s2 => ∃ (l2 : List Nme) (w4 w5 : Option D), σ = [some (encSg s), some (.str x), some (tsL l2), some (.int (a : Int)), w4, w5] ∧ s2 = s' ∧ l2.Nodup ∧ (∃ e, l2 = l ++ e) ∧ (∀ z ∈ l2, Cn (prsS s) x z) ∧ ∀ t ∈ s.ts.take i, (t.2.1 = y → t.2.2.1 ∈ l2) ∧ (t.2.2.1 = y → t.2.1 ∈ l2))
      ⟨l, _, _, rfl, rfl, q3, ⟨[], by simp⟩, q5, fun t ht => by cases ht⟩ ?_ ?_
    · rintro i d σ s2 hi ⟨l2, w4, w5, rfl, rfl, p1, ⟨e, rfl⟩, p3, p4⟩
      obtain ⟨t, ht, rfl⟩ := map_get hi
      refine ⟨_, bg_nm _ _ _, ?_⟩
      have hy2 : (l ++ e)[a]? = some y := by rw [List.getElem?_append_left ha]; exact hy
      refine wS_mono (w_come_tie (st := s2) h (List.mem_of_getElem? ht) (v5 := w5) p1 hy2 p3 hx) ?_ (fun _ _ h => h.elim) (fun _ _ _ _ h => h.elim)
      rintro σ s3 ⟨l3, u5, rfl, rfl, r1, ⟨e3, rfl⟩, r3, r4, r5⟩
      refine ⟨rfl, _, _, _, rfl, rfl, r1, ⟨e ++ e3, by simp⟩, r3, fun t2 ht2 => ?_⟩
      rw [take_snoc ht] at ht2
      rcases List.mem_append.mp ht2 with h2 | h2
      · have := p4 t2 h2
        exact ⟨fun z => List.mem_append_left _ (this.1 z), fun z => List.mem_append_left _ (this.2 z)⟩
      · rw [List.mem_singleton.mp h2]; exact ⟨r4, r5⟩
    · rintro σ s2 ⟨l2, w4, w5, rfl, rfl, p1, ⟨e, rfl⟩, p3, p4⟩
      rw [List.length_map, List.take_length] at p4
      have hl2 := sub _ p1 p3
      simp_all only []
      refine ⟨m - 1, by omega, l ++ e, a + 1, _, _, rfl, by omega, by simp only [List.length_append]; omega, p1, List.mem_append_left _ q4, p3, fun j z hj hz => ?_⟩
      rcases Nat.lt_succ_iff_lt_or_eq.mp hj with hj | rfl
      · rw [List.getElem?_append_left (by omega)] at hz
        intro p hp
        have := q6 j z hj hz p hp
        exact ⟨fun w => List.mem_append_left _ (this.1 w), fun w => List.mem_append_left _ (this.2 w)⟩
      · rw [List.getElem?_append_left ha, hy] at hz
        cases hz
        intro p hp
        obtain ⟨t, ht, rfl⟩ := List.mem_map.mp hp
        exact p4 t ht
  · have ha' : ¬ (a : Int) < (l.length : Int) := by omega
    have so : biD (PG rp).rp .sorted [.lst (l.map D.str)] = some (.lst ((sortS l).map .str)) := by
      show (match strsOf (l.map D.str) with
        | some ss => if ss.length < 64 then some (D.lst ((sortS ss).map .str)) else none
        | none => _) = _
      rw [strs_of]
      simp only
      rw [if_pos (by omega)]
    simp_all only [tsL, List.length_map, ha', so, D.pure, pures_strs]
    refine ⟨_, trunc_rfl _, sortS l, closed_cls q3 q4 q5 fun p hp => ⟨fun h1 => ?_, fun h1 => ?_⟩, rfl, rfl⟩
    · obtain ⟨j, hj, e⟩ := List.mem_iff_getElem.mp h1
      exact (q6 j p.1 (by omega) (by rw [List.getElem?_eq_getElem hj, e]) p hp).1 rfl
    · obtain ⟨j, hj, e⟩ := List.mem_iff_getElem.mp h1
      exact (q6 j p.2 (by omega) (by rw [List.getElem?_eq_getElem hj, e]) p hp).2 rfl
end
/-! ### names that hang together, by the program -/
def parD (N : List Nme) (P : Nme → List Nme) : List (Ky × D) := N.map fun v => (.s v, tsL (P v))
theorem parD_get {N : List Nme} {P : Nme → List Nme} {v : Nme} (h : v ∈ N) : kvGet (.s v) (parD N P) = some (tsL (P v)) := by
  have := kvGet_map (fun v : Nme => v) (fun v => tsL (P v)) v N
  refine Eq.trans this ?_
  obtain ⟨w, hw⟩ : ∃ w, N.find? (fun x => decide (x = v)) = some w := by
    rw [← Option.isSome_iff_exists, List.find?_isSome]
    exact ⟨v, h, by simp⟩
  have e : w = v := by simpa using List.find?_some hw
  rw [hw, e]; rfl
theorem parD_put {N : List Nme} {P : Nme → List Nme} {v : Nme} (h : v ∈ N) (m : List Nme) : kvPut (.s v) (tsL m) (parD N P) = parD N (fun u => if u = v then m else P u) := by
  have := kvPut_map (fun v : Nme => v) (fun _ _ e => e) (fun v => tsL (P v)) (tsL m) h
  refine Eq.trans this ?_
  apply List.map_congr_left
  intro u _
  by_cases e : u = v <;> simp [e]
def doneS (N : List Nme) (P : Nme → List Nme) : List (List Nme) := ((sortS N).filter fun v => decide ((P v).head? = some v)).map P
def refL (b n : Nat) : List D := (List.range n).map fun i => .ref (b + i)
theorem refL_snoc (b n : Nat) : refL b (n + 1) = refL b n ++ [.ref (b + n)] := by simp [refL, List.range_succ]
def parSt (N : List Nme) (P : Nme → List Nme) : Store := O.dct (parD N P) :: (doneS N P).map fun l => O.lst (l.map .str)
theorem sorted_strs (rp) {l : List Nme} (h : l.length < 64) : biD rp .sorted [.lst (l.map D.str)] = some (.lst ((sortS l).map .str)) := by
  show (match strsOf (l.map D.str) with
    | some ss => if ss.length < 64 then some (D.lst ((sortS ss).map .str)) else none
    | none => _) = _
  rw [strs_of]
  simp only
  rw [if_pos h]
theorem sorted_par (rp) {N : List Nme} {P : Nme → List Nme} (h : N.length < 64) : biD rp .sorted [.dct (parD N P)] = some (.lst ((sortS N).map .str)) := by
  have e : (parD N P).map (fun p => kyD p.1) = N.map .str := by simp [parD, kyD, Function.comp_def]
  show (strsOf ((parD N P).map fun p => kyD p.1)).bind _ = _
  rw [e, strs_of]
  show (if N.length < 64 then _ else _) = _
  rw [if_pos h]
section
variable {st : Store} {k : Nat}
theorem eqv_ts (l m : List Nme) : D.eqv (tsL l) (tsL m) = decide (l = m) := by
  show D.eqvs _ _ = _
  exact eqvs_strs l m
theorem plain_ts (n : Nat) (l : List Nme) : D.plain (n + 1) (tsL l) = true := by rw [tsL, pl_lst]; exact plains_strs n l
theorem w_parts_put {N : List Nme} {P : Nme → List Nme} {more : List Nme} {d0 v2 v3 v4 v5 v7 : Option D} (hm : ∀ v ∈ more, v ∈ N) (hN : N.length ≤ 40) {cf : CallF} {N' : Env → Store → Prop} {T : D → Store → Prop} {X : Nat → List D → Env → Store → Prop}
    (hk : ∀ w7, N' [d0, some (.ref st.length), v2, v3, v4, v5, some (tsL more), w7] (st ++ [O.dct (parD N fun u => if u ∈ more then more else P u)])) :
    wS (forL (fun σ st => evSs (PG rp) cf σ b_parts_of_2 st) (.nm 7) none (more.map D.str) [d0, some (.ref st.length), v2, v3, v4, v5, some (tsL more), v7] (st ++ [O.dct (parD N P)])) N' T X := by
  refine wS_for (fun i σ s => ∃ w7, σ = [d0, some (.ref st.length), v2, v3, v4, v5, some (tsL more), w7] ∧ s = st ++ [O.dct (parD N fun u => if u ∈ more.take i then more else P u)]) ⟨v7, rfl, by simp⟩ ?_ ?_
  · rintro i d σ s hi ⟨w7, rfl, rfl⟩
    obtain ⟨v, hv, rfl⟩ := map_get hi
    refine ⟨_, bg_nm _ _ _, ?_⟩
    have vm := hm v (List.mem_of_getElem? hv)
    have sk : ∀ (σ : Env) (Q : Nme → List Nme), subK σ (tsL more) (.ref st.length) (.str v) (st ++ [O.dct (parD N Q)]) = .nx σ (st ++ [O.dct (parD N fun u => if u = v then more else Q u)]) := fun σ Q => by
      have l : (parD N Q).length < LIM := by rw [parD, List.length_map]; exact Nat.lt_of_le_of_lt hN (by decide)
      rw [subK_s (get_last _ _) (by simp only [subO, keyD, Option.bind_some, if_pos l, parD_put vm]; rfl), set_last]
    unfold b_parts_of_2
    simp_all only [sk]
    refine ⟨rfl, _, rfl, ?_⟩
    congr 4
    funext u
    have tk := take_snoc hv
    by_cases e : u = v
    · simp [tk, e]
    · by_cases e2 : u ∈ more.take i
      · simp [tk, e, e2]
      · simp [tk, e, e2]
  · rintro σ s ⟨w7, rfl, rfl⟩
    rw [List.length_map, List.take_length]
    exact hk w7
theorem w_parts {s : Sg} (h : CnS s) (hne : ∀ v ∈ nmsS s, v ≠ []) : wR (runF (PG rp) (k + 1) i_parts_of [encSg s] st) (fun d s' => ∃ P, (∀ v ∈ nmsS s, Cls (prsS s) v (P v)) ∧ d = .ref (st.length + 1 + (doneS (nmsS s) P).length) ∧
    s' = st ++ parSt (nmsS s) P ++ [O.lst (refL (st.length + 1) (doneS (nmsS s) P).length)]) nX := by
  refine run_w (F := f_parts_of) rfl rfl rfl ?_
  show wS (evSs _ _ [some (encSg s), none, none, none, none, none, none, none] b_parts_of st) _ _ _
  unfold b_parts_of
  have i0 : idxD (encSg s) (.int 0) = some (.tup (s.ns.map encNote)) := rfl
  have i1 : idxD (encSg s) (.int 1) = some (.tup (s.ts.map encTie)) := rfl
  have hnl := h.nl
  have nl40 : (nmsS s).length ≤ 40 := by rw [nms_len]; exact hnl
  simp_all only [lk_sg, i0]
  refine wR_lcMap s.ns encNote (fun x => .tup [.str x.1, .lst [.str x.1]]) rfl (fun x hx => ⟨_, by erw []; rfl, rfl, by erw [lk_note, ixn0]⟩) ?_
  have po := pairsOf_map (fun x : NoteT => x.1) (fun x : NoteT => .lst [.str x.1]) s.ns
  have ed : (s.ns.map fun x : NoteT => (Ky.s x.1, D.lst [.str x.1])) = parD (nmsS s) fun v => [v] := by simp [parD, nmsS, tsL, Function.comp_def]
  have nd : dictOf (parD (nmsS s) fun v => [v]) = parD (nmsS s) fun v => [v] := by
    refine dictOf_nd ?_
    unfold parD
    rw [List.map_map, List.nodup_iff_pairwise_ne, List.pairwise_map]
    exact (List.nodup_iff_pairwise_ne.mp h.nd).imp fun hne e => hne (by simpa using e)
  have bd : biD (PG rp).rp .dict [.lst (s.ns.map fun x => .tup [.str x.1, .lst [.str x.1]])] = some (.dct (parD (nmsS s) fun v => [v])) := by
    rw [bi_dict_l _ _ po]
    exact congrArg (fun z => some (D.dct z)) (ed ▸ nd)
  simp_all only [bd, lk_sg, i1]
  refine wS_for (fun i σ s' => ∃ (P : Nme → List Nme) (w3 w4 w5 w6 w7 : Option D), σ = [some (encSg s), some (.ref st.length), none, w3, w4, w5, w6, w7] ∧ s' = st ++ [O.dct (parD (nmsS s) P)] ∧ ∀ v ∈ nmsS s, Cls ((prsS s).take i) v (P v))
    ⟨fun v => [v], _, _, _, _, _, rfl, rfl, fun v hv => ⟨List.pairwise_singleton _ _, fun y => by
      rw [List.take_zero, List.mem_singleton]
      exact ⟨fun e => by rw [e]; exact .refl, fun c => by
        cases c with
        | refl => rfl
        | forth _ m => cases m
        | back _ m => cases m⟩⟩⟩ ?_ ?_
  · rintro i d σ s' hi ⟨P, w3, w4, w5, w6, w7, rfl, rfl, hP⟩
    obtain ⟨t, ht, rfl⟩ := map_get hi
    refine ⟨_, bg_nm _ _ _, ?_⟩
    obtain ⟨a1, a2, a3⟩ := h.inn t (List.mem_of_getElem? ht)
    have hp : (prsS s)[i]? = some (t.2.1, t.2.2.1) := by rw [prsS, List.getElem?_map, ht]; rfl
    have tk : (prsS s).take (i + 1) = (prsS s).take i ++ [(t.2.1, t.2.2.1)] := take_snoc hp
    have lk : ∀ Q, look (st ++ [O.dct (parD (nmsS s) Q)]) (.ref st.length) = .dct (parD (nmsS s) Q) := fun Q => by simp only [look, get_last]
    have C1 := hP _ a1
    have C2 := hP _ a2
    have inN : ∀ {x y}, Cn ((prsS s).take i) x y → x ∈ nmsS s → y ∈ nmsS s := fun c hx => c.inN (fun p hp => prs_in h p (List.mem_of_mem_take hp)) hx
    have pl1 : D.plain 8 (.lst ((P t.2.1).map .str)) = true := plain_ts 7 (P t.2.1)
    have pl2 : D.plain 8 (.lst ((P t.2.2.1).map .str)) = true := plain_ts 7 (P t.2.2.1)
    have dl : ∀ s l, dlook s (tsL l) = tsL l := fun s l => rfl
    have lkt : ∀ s l, look s (tsL l) = .lst (l.map .str) := fun s l => rfl
    unfold b_parts_of_1
    by_cases he : P t.2.1 = P t.2.2.1
    · have cc := (C1.same C2).mp he
      simp_all only [lk_tie, ixt1, ixt2, lk, parD_get a1, parD_get a2, dl, pl1, pl2, eqvs_strs, he]
      refine ⟨rfl, P, _, _, _, _, _, rfl, rfl, fun v hv => ⟨(hP v hv).1, fun y => ?_⟩⟩
      rw [(hP v hv).2 y, tk, Cn.snoc]
      exact ⟨.inl, fun z => z.elim id fun z => z.elim (fun ⟨z1, z2⟩ => z1.trans (cc.trans z2)) fun ⟨z1, z2⟩ => z1.trans (cc.symm.trans z2)⟩
    · have ncc : ¬ Cn ((prsS s).take i) t.2.1 t.2.2.1 := fun c => he ((C1.same C2).mpr c)
      have disj : ∀ y, y ∈ P t.2.1 → y ∉ P t.2.2.1 := fun y h1 h2 => ncc (((C1.2 y).mp h1).trans ((C2.2 y).mp h2).symm)
      have und : (P t.2.1 ++ P t.2.2.1).Nodup := by
        rw [List.nodup_append]
        exact ⟨rise_nd C1.1, rise_nd C2.1, fun u hu v hv e => disj u hu (e ▸ hv)⟩
      have subN : ∀ v ∈ P t.2.1 ++ P t.2.2.1, v ∈ nmsS s := fun v hv => by
        rcases List.mem_append.mp hv with hv | hv
        · exact inN ((C1.2 v).mp hv) a1
        · exact inN ((C2.2 v).mp hv) a2
      have ul := sub_len und subN
      rw [List.length_append] at ul
      have so := sorted_strs (PG rp).rp (l := P t.2.1 ++ P t.2.2.1) (by rw [List.length_append]; omega)
      rw [List.map_append] at so
      obtain ⟨more, hmore⟩ : ∃ m, m = sortS (P t.2.1 ++ P t.2.2.1) := ⟨_, rfl⟩
      rw [← hmore] at so
      have mm : ∀ v, v ∈ more ↔ Cn ((prsS s).take i) t.2.1 v ∨ Cn ((prsS s).take i) t.2.2.1 v := fun v => by rw [hmore, sortS_mem, List.mem_append, C1.2, C2.2]
      have mr : Rise more := hmore ▸ sortS_rise und
      simp_all only [lk_tie, ixt1, ixt2, lk, parD_get a1, parD_get a2, dl, lkt, pl1, pl2, eqvs_strs, he, so]
      refine w_parts_put (more := more) (fun v hv => subN v (by rw [hmore, sortS_mem] at hv; exact hv)) nl40 fun w7' => ?_
      refine ⟨rfl, _, _, _, _, _, _, rfl, rfl, fun v hv => ?_⟩
      have snoc := fun y => Cn.snoc (ts := (prsS s).take i) (a := t.2.1) (b := t.2.2.1) (x := v) (y := y)
      by_cases hvm : v ∈ more
      · rw [if_pos hvm]
        refine ⟨mr, fun y => ?_⟩
        rw [mm y, tk, snoc]
        rcases (mm v).mp hvm with c | c
        · constructor
          · rintro (z | z)
            · exact .inl (c.symm.trans z)
            · exact .inr (.inl ⟨c.symm, z⟩)
          · rintro (z | ⟨z1, z2⟩ | ⟨z1, z2⟩)
            · exact .inl (c.trans z)
            · exact .inr z2
            · exact .inl z2
        · constructor
          · rintro (z | z)
            · exact .inr (.inr ⟨c.symm, z⟩)
            · exact .inl (c.symm.trans z)
          · rintro (z | ⟨z1, z2⟩ | ⟨z1, z2⟩)
            · exact .inr (c.trans z)
            · exact .inr z2
            · exact .inl z2
      · rw [if_neg hvm]
        refine ⟨(hP v hv).1, fun y => ?_⟩
        rw [(hP v hv).2 y, tk, snoc]
        have n1 : ¬ Cn ((prsS s).take i) v t.2.1 := fun c => hvm ((mm v).mpr (.inl c.symm))
        have n2 : ¬ Cn ((prsS s).take i) v t.2.2.1 := fun c => hvm ((mm v).mpr (.inr c.symm))
        exact ⟨.inl, fun z => z.elim id fun z => z.elim (fun z => absurd z.1 n1) fun z => absurd z.1 n2⟩
  · rintro σ s' ⟨P, w3, w4, w5, w6, w7, rfl, rfl, hP⟩
    have pl : (prsS s).length = s.ts.length := by simp [prsS]
    rw [List.length_map, ← pl, List.take_length] at hP
    have lk : look (st ++ [O.dct (parD (nmsS s) P)]) (.ref st.length) = .dct (parD (nmsS s) P) := by simp only [look, get_last]
    have so := sorted_par (PG rp).rp (N := nmsS s) (P := P) (by omega)
    simp_all only [lk, so]
    refine wR_lc (fun i acc s2 => acc = refL (st.length + 1) ((((sortS (nmsS s)).take i).filter fun v => decide ((P v).head? = some v)).length) ∧ s2 = st ++ (O.dct (parD (nmsS s) P) :: ((((sortS (nmsS s)).take i).filter fun v => decide ((P v).head? = some v)).map P).map fun l => O.lst (l.map .str)))
      ⟨rfl, rfl⟩ ?_ ?_
    · rintro i d acc s2 hi ⟨rfl, rfl⟩
      obtain ⟨v, hv, rfl⟩ := map_get hi
      refine ⟨_, bg_nm _ _ _, ?_⟩
      have vN : v ∈ nmsS s := (sortS_mem _ v).mp (List.mem_of_getElem? hv)
      have Cv := hP v vN
      obtain ⟨u, r, hur⟩ : ∃ u r, P v = u :: r := by
        cases e : P v with
        | nil => have := (Cv.2 v).mpr .refl; rw [e] at this; cases this
        | cons u r => exact ⟨u, r, rfl⟩
      have lk2 : ∀ L, look (st ++ O.dct (parD (nmsS s) P) :: L) (.ref st.length) = .dct (parD (nmsS s) P) := fun L => by simp [look]
      have lkt : ∀ s l, look s (tsL l) = .lst (l.map .str) := fun s l => rfl
      have ix : ixD ((P v).map D.str) 0 = some (.str u) := by rw [hur]; rfl
      have vl : (P v).length ≤ 40 := by
        have := sub_len (rise_nd Cv.1) fun z hz => ((Cv.2 z).mp hz).inN (prs_in h) vN
        omega
      rw [take_snoc hv, List.filter_append]
      by_cases e : u = v
      · have hd : (P v).head? = some v := by rw [hur, e]; rfl
        have f1 : [v].filter (fun v => decide ((P v).head? = some v)) = [v] := by simp [hd]
        rw [f1]
        simp_all only [lk2, parD_get vN, lkt, ix, e]
        refine ⟨rfl, ?_, ?_⟩
        · have e1 : (((sortS (nmsS s)).take i).filter (fun v => decide ((P v).head? = some v)) ++ [v]).length = (((sortS (nmsS s)).take i).filter fun v => decide ((P v).head? = some v)).length + 1 := by simp
          rw [e1, refL_snoc]
          congr 2
          simp only [List.length_append, List.length_cons, List.length_map]
          congr 1
          omega
        · simp
      · have hd : ¬ (P v).head? = some v := by rw [hur]; simpa using e
        have f1 : [v].filter (fun v => decide ((P v).head? = some v)) = [] := by simp [hd]
        rw [f1, List.append_nil]
        simp_all only [lk2, parD_get vN, lkt, ix, e]
        rfl
    · rintro acc s2 ⟨rfl, rfl⟩
      rw [List.length_map, List.take_length]
      have dl : ((sortS (nmsS s)).filter fun v => decide ((P v).head? = some v)).length ≤ 40 := Nat.le_trans (List.length_filter_le ..) (by rw [sortS_ln]; exact nl40)
      have rl : ∀ b n, (refL b n).length = n := fun b n => by simp [refL]
      have dn : (doneS (nmsS s) P).length = ((sortS (nmsS s)).filter fun v => decide ((P v).head? = some v)).length := by simp [doneS]
      have rl2 := rl (st.length + 1) (((sortS (nmsS s)).filter fun v => decide ((P v).head? = some v)).length)
      simp_all only []
      refine wR_of_eq (show leave .raw _ _ _ = .ok _ _ from rfl) ⟨P, hP, ?_, ?_⟩
      · rw [dn]; congr 1; simp; omega
      · rw [dn]; rfl
end
/-! ### what repr tells of songs -/
theorem msrs_map {α : Type} {f : α → D} {B : Nat} : ∀ {l : List α}, (∀ x ∈ l, msr (f x) ≤ B) → msrs (l.map f) ≤ (B + 2) * l.length
  | [], _ => by simp [msrs]
  | x :: l, h => by
    have ih := msrs_map fun y hy => h y (List.mem_cons_of_mem x hy)
    have := h x (List.mem_cons_self ..)
    simp only [List.map_cons, msrs, List.length_cons, Nat.mul_succ]
    omega
theorem smDs_map {α : Type} {f : α → D} : ∀ {l : List α}, (∀ x ∈ l, smD (f x) = true) → smDs (l.map f) = true
  | [], _ => by simp [smDs]
  | x :: l, h => by
    simp only [List.map_cons, smDs, h x (List.mem_cons_self ..), smDs_map fun y hy => h y (List.mem_cons_of_mem _ hy), Bool.and_self]
def okW (w : List Nat) : Prop := w.length ≤ 10 ∧ ∀ c ∈ w, c < 1000
theorem okW_sm {w : List Nat} (h : okW w) : smD (.str w) = true ∧ msr (.str w) ≤ 102 := by
  refine ⟨?_, ?_⟩
  · simp only [smD, List.all_eq_true, decide_eq_true_eq]
    intro c hc
    have := h.2 c hc
    omega
  · have := h.1
    simp only [msr]; omega
structure SgRep (s : Sg) : Prop where
  ns : ∀ x ∈ s.ns, okW x.1 ∧ okW x.2.1 ∧ x.2.2.1.natAbs < 100000 ∧ x.2.2.2.natAbs < 100000
  ts : ∀ t ∈ s.ts, okW t.1 ∧ okW t.2.1 ∧ okW t.2.2.1 ∧ t.2.2.2.1.length = 4 ∧ (∀ x ∈ t.2.2.2.1, x.natAbs < 100000) ∧ t.2.2.2.2.1.natAbs < 100000 ∧ t.2.2.2.2.2.natAbs < 100000
  hm : ∀ x, s.hm = some x → okW x.1 ∧ okW x.2
  nl : s.ns.length ≤ 100
  tl : s.ts.length ≤ 200
theorem sm_int {i : Int} (h : i.natAbs < 100000) : smD (.int i) = true := by
  simp only [smD, decide_eq_true_eq]; omega
theorem plain_hm (x : Option HomeT) : D.plain 7 (encHm x) = true := by
  cases x with
  | none => rfl
  | some x => rw [encHm, encHome, pl_tup, pls_cons, pls_cons, pls_nil, pl_str, pl_str]; rfl
theorem plain_sg (s : Sg) : D.plain 8 (encSg s) = true := by
  have h1 : D.plain 7 (.tup (s.ns.map encNote)) = true := by rw [pl_tup]; exact plains_mapc fun x _ => by rw [encNote, pl_tup, pls_cons, pls_cons, pls_cons, pls_cons, pl_str, pl_str, pl_int, pl_int]; rfl
  have h2 : D.plain 7 (.tup (s.ts.map encTie)) = true := by
    rw [pl_tup]
    exact plains_mapc fun x _ => by
      rw [encTie, pl_tup, pls_cons, pls_cons, pls_cons, pls_cons, pls_cons, pls_cons, pl_str, pl_str, pl_str, plain_ti, pl_int, pl_int]; rfl
  rw [encSg, pl_tup, pls_cons, pls_cons, pls_cons, pls_nil, h1, h2, plain_hm]; rfl
theorem rp_song {rp : D → Option (List Nat)} (hr : RpOk rp) {s : Sg} (h : SgRep s) : ∃ t, rp (encSg s) = some t := by
  have notes : ∀ x ∈ s.ns, smD (encNote x) = true ∧ msr (encNote x) ≤ 500 := fun x hx => by
    obtain ⟨a, b, c, d⟩ := h.ns x hx
    have a := okW_sm a
    have b := okW_sm b
    refine ⟨by simp only [encNote, smD, smDs, Bool.and_eq_true]; exact ⟨a.1, b.1, sm_int c, sm_int d, trivial⟩, ?_⟩
    have a2 := a.2
    have b2 := b.2
    simp only [encNote, msr, msrs] at a2 b2 ⊢
    omega
  have ties : ∀ x ∈ s.ts, smD (encTie x) = true ∧ msr (encTie x) ≤ 1500 := fun x hx => by
    obtain ⟨a, b, c, d, e, f, g⟩ := h.ts x hx
    have a := okW_sm a
    have b := okW_sm b
    have c := okW_sm c
    have m1 : msrs (x.2.2.2.1.map D.int) ≤ (80 + 2) * x.2.2.2.1.length := msrs_map fun _ _ => Nat.le_refl _
    have m2 : smDs (x.2.2.2.1.map D.int) = true := smDs_map fun y hy => sm_int (e y hy)
    refine ⟨by simp only [encTie, smD, smDs, Bool.and_eq_true]; exact ⟨a.1, b.1, c.1, m2, sm_int f, sm_int g, trivial⟩, ?_⟩
    have a2 := a.2
    have b2 := b.2
    have c2 := c.2
    simp only [encTie, msr, msrs] at a2 b2 c2 ⊢
    rw [d] at m1
    omega
  have home : smD (encHm s.hm) = true ∧ msr (encHm s.hm) ≤ 500 := by
    cases hh : s.hm with
    | none => exact ⟨rfl, by decide⟩
    | some x =>
      obtain ⟨a, b⟩ := h.hm x hh
      have a := okW_sm a
      have b := okW_sm b
      refine ⟨by simp only [encHm, encHome, smD, smDs, Bool.and_eq_true]; exact ⟨a.1, b.1, trivial⟩, ?_⟩
      have a2 := a.2
      have b2 := b.2
      simp only [encHm, encHome, msr, msrs] at a2 b2 ⊢
      omega
  have n1 : msrs (s.ns.map encNote) ≤ (500 + 2) * s.ns.length := msrs_map fun x hx => (notes x hx).2
  have n2 : msrs (s.ts.map encTie) ≤ (1500 + 2) * s.ts.length := msrs_map fun x hx => (ties x hx).2
  have n3 := h.nl
  have n4 := h.tl
  refine hr _ rfl (plain_sg s) ?_ ?_
  · simp only [encSg, smD, smDs, smDs_map fun x hx => (notes x hx).1, smDs_map fun x hx => (ties x hx).1, home.1, Bool.and_self]
  · have := home.2
    simp only [encSg, msr, msrs]
    omega
theorem name_okW {rest : List Nat} {p : Nat} (hr : rest.length ≤ 6) (hq : ∀ c ∈ rest, c ∈ [113, 122, 106, 118]) {w : List Nat} (hw : w ∈ namesOf rest p) : okW w ∧ w ≠ [] := by
  have h24 : ∀ w ∈ names24 rest p, w.length ≤ 7 ∧ (∀ c ∈ w, c < 1000) ∧ w ≠ [] := fun w hw => by
    have hl := name24_len hw
    obtain ⟨c, hc, rfl⟩ := List.mem_map.mp hw
    have qz : ∀ d ∈ rest, d < 1000 := fun d hd => by
      have := hq d hd
      simp only [List.mem_cons, List.not_mem_nil, or_false] at this
      omega
    refine ⟨by omega, fun d hd => ?_, by simp⟩
    simp only [List.mem_append, List.mem_singleton] at hd
    rcases hd with (hd | rfl) | hd
    · exact qz d (List.mem_of_mem_take hd)
    · simp only [signs, List.mem_cons, List.not_mem_nil, or_false] at hc; omega
    · exact qz d (List.mem_of_mem_drop hd)
  unfold namesOf at hw
  rcases List.mem_append.mp hw with hw | hw
  · obtain ⟨a, b, c⟩ := h24 w hw
    exact ⟨⟨by omega, b⟩, c⟩
  · obtain ⟨u, hu, rfl⟩ := List.mem_map.mp hw
    obtain ⟨a, b, c⟩ := h24 u hu
    refine ⟨⟨by rw [List.length_append, List.length_singleton]; omega, fun d hd => ?_⟩, by simp⟩
    rcases List.mem_append.mp hd with hd | hd
    · exact b d hd
    · rw [List.mem_singleton.mp hd]; decide
theorem SgGood.rep {rest : List Nat} {p : Nat} (hr : rest.length ≤ 6) (hq : ∀ c ∈ rest, c ∈ [113, 122, 106, 118]) {s : Sg} (h : SgGood (namesOf rest p) s) : SgRep s := by
  have nmok : ∀ w, w ∈ nmsS s → okW w := fun w hw => by
    obtain ⟨x, hx, rfl⟩ := List.mem_map.mp hw
    exact (name_okW hr hq (h.nmem x hx).1).1
  refine ⟨fun x hx => ?_, fun t ht => ?_, fun x hx => ?_, by have := h.ns.le; omega, by have := h.tl; omega⟩
  · have := h.ns.bd x hx
    exact ⟨(name_okW hr hq (h.nmem x hx).1).1, (name_okW hr hq (h.nmem x hx).2).1, by omega, by omega⟩
  · obtain ⟨g1, g2, g3, g4, g5, g6, g7, g8⟩ := h.ts t ht
    have inn := goodT_inn g1
    refine ⟨?_, nmok _ inn.1, nmok _ inn.2.1, g3, fun x hx => by have := g4 x hx; omega, by omega, by omega⟩
    rcases g2 with e | e | e <;> rw [e] <;> exact ⟨by decide, by decide⟩
  · obtain ⟨_, e1, e2⟩ := h.hm x hx
    exact ⟨nmok _ (findN_mem e1), nmok _ (findN_mem e2)⟩
theorem evens_sub {α : Type} : ∀ (l : List α) x, x ∈ evens l → x ∈ l
  | [], x, h => by cases h
  | [y], x, h => h
  | y :: z :: l, x, h => by
    rcases List.mem_cons.mp h with e | e
    · rw [e]; exact List.mem_cons_self ..
    · exact List.mem_cons_of_mem _ (List.mem_cons_of_mem _ (evens_sub l x e))
theorem evensL {α : Type} : ∀ l : List α, (evens l).length ≤ l.length
  | [] => Nat.le_refl _
  | [x] => Nat.le_refl _
  | x :: y :: r => by have := evensL r; simp only [evens, List.length_cons]; omega
theorem evens_map {α β : Type} (f : α → β) : ∀ l : List α, evens (l.map f) = (evens l).map f
  | [] => rfl
  | [x] => rfl
  | x :: y :: r => by simp [evens, evens_map f r]
def halfS (s : Sg) : Sg := ⟨s.ns, evens s.ts, none⟩
theorem SgRep.half {s : Sg} (h : SgRep s) : SgRep (halfS s) := ⟨h.ns, fun t ht => h.ts t (evens_sub _ _ ht), (fun x hx => by cases hx), h.nl, Nat.le_trans (evensL _) h.tl⟩
theorem CnS.half {s : Sg} (h : CnS s) : CnS (halfS s) := ⟨h.nd, fun t ht => h.inn t (evens_sub _ _ ht), h.nl, Nat.le_trans (evensL _) h.tl⟩
/-! ### whether the parts are told -/
section
variable {st : Store} {k : Nat}
theorem done_congr {N : List Nme} {P P' : Nme → List Nme} (h : ∀ v ∈ N, P' v = P v) : doneS N P' = doneS N P ∧ parD N P' = parD N P := by
  constructor
  · unfold doneS
    have e : (sortS N).filter (fun v => decide ((P' v).head? = some v)) = (sortS N).filter (fun v => decide ((P v).head? = some v)) := by
      apply List.filter_congr
      intro v hv
      rw [h v ((sortS_mem N v).mp hv)]
    rw [e]
    apply List.map_congr_left
    intro v hv
    exact h v ((sortS_mem N v).mp (List.mem_filter.mp hv).1)
  · unfold parD
    apply List.map_congr_left
    intro v hv
    rw [h v hv]
theorem ref_get (b n i : Nat) (h : i < n) : (refL b n)[i]? = some (.ref (b + i)) := by
  simp [refL, List.getElem?_map, List.getElem?_range h]
theorem ref_len (b n : Nat) : (refL b n).length = n := by simp [refL]
theorem refL_pure : ∀ (b n : Nat), 0 < n → D.pures (refL b n) = false := by
  intro b n h
  obtain ⟨m, rfl⟩ : ∃ m, n = m + 1 := ⟨n - 1, by omega⟩
  simp [refL, List.range_succ_eq_map, D.pures, D.pure]
theorem pures_tss : ∀ l : List (List Nme), D.pures (l.map tsL) = true
  | [] => rfl
  | x :: l => by simp [D.pures, D.pure, pures_strs, pures_tss l]
theorem allSome_map {α β : Type} {f : α → Option β} {g : α → β} : ∀ {l : List α}, (∀ x ∈ l, f x = some (g x)) → allSome (l.map f) = some (l.map g)
  | [], _ => rfl
  | x :: l, h => by
    rw [List.map_cons, h x (List.mem_cons_self ..), allSome, allSome_map fun y hy => h y (List.mem_cons_of_mem _ hy)]; rfl
/-- lists of names in the store, frozen -/
theorem fz_found {s : Store} {b f n : Nat} {ls : List (List Nme)} (hf : s[f]? = some (.lst (refL b n))) (hn : ls.length = n) (h : ∀ i l, ls[i]? = some l → s[b + i]? = some (.lst (l.map .str))) : fz 0 s 4 (.ref f) = some (.lst (ls.map tsL)) := by
  by_cases h0 : n = 0
  · subst h0
    have : ls = [] := List.length_eq_zero_iff.mp hn
    subst this
    exact fz_lst_pure hf (Nat.not_lt_zero _) rfl
  · rw [fz_lst hf (Nat.not_lt_zero _) (refL_pure b n (by omega))]
    have e : (refL b n).map (fz 0 s 3) = ls.map fun l => some (tsL l) := by
      apply List.ext_getElem?
      intro i
      rw [List.getElem?_map, List.getElem?_map]
      by_cases hi : i < n
      · rw [ref_get b n i hi]
        obtain ⟨l, hl⟩ : ∃ l, ls[i]? = some l := ⟨_, List.getElem?_eq_getElem (by omega)⟩
        rw [hl]
        simp only [Option.map_some]
        rw [fz_lst_pure (h i l hl) (Nat.not_lt_zero _) (pures_strs l)]
      · rw [List.getElem?_eq_none (by rw [ref_len]; omega), List.getElem?_eq_none (by omega)]; rfl
    rw [e, allSome_map (g := tsL) (fun x _ => rfl)]; rfl
theorem plains_tss (n : Nat) (l : List (List Nme)) : D.plains (n + 1) (l.map tsL) = true := plains_mapc fun x _ => plain_ts n x
/-- one look at the parts, told lists being changed -/
theorem w_pright1 {s : Sg} {P : Nme → List Nme} {R : Store} {d2 d3 d4 d5 v6 v7 : Option D} (hd : (doneS (nmsS s) P).length ≤ 40) (hl : ∀ l ∈ doneS (nmsS s) P, l.length ≤ 1000)
    (hp : ∀ st, runF (PG rp) (k + 1) i_parts_of [encSg s] st = .ok (.ref (st.length + 1 + (doneS (nmsS s) P).length)) (st ++ parSt (nmsS s) P ++ [O.lst (refL (st.length + 1) (doneS (nmsS s) P).length)])) :
    wS (evSs (PG rp) (runF (PG rp) (k + 1)) [some (encSg s), some (.ref st.length), d2, d3, d4, d5, v6, v7] b__law_parts_right_1 (st ++ O.lst ((doneS (nmsS s) P).map tsL) :: R))
      (fun σ s' => ∃ R' w6 w7, σ = [some (encSg s), some (.ref st.length), d2, d3, d4, d5, w6, w7] ∧ s' = st ++ O.lst ((doneS (nmsS s) P).map tsL) :: R') nT nXe := by
  obtain ⟨ls, hls⟩ : ∃ ls, ls = doneS (nmsS s) P := ⟨_, rfl⟩
  obtain ⟨B, hB⟩ : ∃ B, B = st ++ O.lst (ls.map tsL) :: R := ⟨_, rfl⟩
  have hp := hp B
  rw [← hls] at hp hd hl ⊢
  rw [← hB]
  have bl : st.length < B.length := by rw [hB]; simp
  have Bd : B[st.length]? = some (O.lst (ls.map tsL)) := by rw [hB]; simp
  obtain ⟨f, hf⟩ : ∃ f, f = B.length + 1 + ls.length := ⟨_, rfl⟩
  obtain ⟨X, hX⟩ : ∃ X, X = O.lst (refL (B.length + 1) ls.length) := ⟨_, rfl⟩
  rw [← hf, ← hX] at hp
  obtain ⟨S, hS⟩ : ∃ S, S = B ++ parSt (nmsS s) P ++ [X] := ⟨_, rfl⟩
  rw [← hS] at hp
  have S2 : S = B ++ O.dct (parD (nmsS s) P) :: (ls.map (fun l => O.lst (l.map .str)) ++ [X]) := by rw [hS, parSt, ← hls]; simp
  have Sd : S[st.length]? = some (O.lst (ls.map tsL)) := by rw [S2, List.getElem?_append_left bl]; exact Bd
  have Sf : S[f]? = some X := by
    rw [S2, hf, List.getElem?_append_right (by omega)]
    rw [show B.length + 1 + ls.length - B.length = ls.length + 1 by omega, List.getElem?_cons_succ, List.getElem?_append_right (by simp)]
    simp
  have Sp : ∀ i l, ls[i]? = some l → S[B.length + 1 + i]? = some (O.lst (l.map .str)) := fun i l h => by
    have il : i < ls.length := (List.getElem?_eq_some_iff.mp h).1
    rw [S2, List.getElem?_append_right (by omega), show B.length + 1 + i - B.length = i + 1 by omega, List.getElem?_cons_succ, List.getElem?_append_left (by rw [List.length_map]; exact il), List.getElem?_map, h]; rfl
  have dl1 : dlook S (.ref f) = .lst (ls.map tsL) := by
    simp only [dlook]
    rw [fz_found (by rw [Sf, hX]) rfl Sp]; rfl
  have dl2 : dlook S (.ref st.length) = .lst (ls.map tsL) := by
    simp only [dlook]
    rw [fz_lst_pure Sd (Nat.not_lt_zero _) (pures_tss ls)]; rfl
  have lkf : look S (.ref f) = .lst (refL (B.length + 1) ls.length) := by simp only [look, Sf, hX]
  have pl : D.plain 8 (.lst (ls.map tsL)) = true := by rw [pl_lst]; exact plains_tss 6 ls
  have er : D.eqvs (ls.map tsL) (ls.map tsL) = true := by
    have := eqv_refl 8 _ pl
    rwa [eqv_lstD] at this
  have it : ∀ xs, isTy (PG rp).sub .lst (.lst xs) = some true := fun xs => rfl
  have sq : seqI S (.ref f) = some (refL (B.length + 1) ls.length, some (f, X)) := by
    rw [sq_r (by rw [Sf, hX]), hX]
  have hsrc : srcB S (some (f, X)) = true := decide_eq_true Sf
  unfold b__law_parts_right_1
  simp_all only [hp, lkf, it, dl1, dl2, pl, er, sq]
  refine wR_lcMap (List.range ls.length) (fun i => .ref (B.length + 1 + i)) (fun _ => .bl true) hsrc (fun i hi => ⟨_, by erw []; rfl, rfl, ?_⟩) ?_
  · have il : i < ls.length := List.mem_range.mp hi
    obtain ⟨l, hl⟩ : ∃ l, ls[i]? = some l := ⟨_, List.getElem?_eq_getElem il⟩
    have lk : look S (.ref (B.length + 1 + i)) = .lst (l.map .str) := by simp only [look, Sp i l hl]
    simp_all only [lk, it]
  · have al : biD (PG rp).rp .all [.lst ((List.range ls.length).map fun _ => D.bl true)] = some (.bl true) := by
      rw [bi_all _ _ (bls_map (fun _ => true) _)]; simp
    have rl : (List.range ls.length).length = ls.length := List.length_range
    simp_all only [rl, al, sq]
    refine wS_for (fun j σ s' => ∃ (Ls : List O) (w7 : Option D), σ = [some (encSg s), some (.ref st.length), d2, d3, d4, d5, some (.ref f), w7] ∧ Ls.length = ls.length ∧ (∀ i l, j ≤ i → ls[i]? = some l → Ls[i]? = some (O.lst (l.map .str))) ∧ s' = B ++ O.dct (parD (nmsS s) P) :: (Ls ++ [X]))
      ⟨ls.map fun l => O.lst (l.map .str), v7, rfl, by simp, (fun i l _ h => by rw [List.getElem?_map, h]; rfl), S2⟩ ?_ ?_
    · rintro j d σ s' hi ⟨Ls, w7, rfl, q1, q2, rfl⟩
      have jl : j < ls.length := by
        have := (List.getElem?_eq_some_iff.mp hi).1
        rwa [ref_len] at this
      rw [ref_get _ _ _ jl] at hi
      cases hi
      refine ⟨_, bg_nm _ _ _, ?_⟩
      obtain ⟨l, hlj⟩ : ∃ l, ls[j]? = some l := ⟨_, List.getElem?_eq_getElem jl⟩
      have ll := hl l (List.mem_of_getElem? hlj)
      have at_ : (B ++ O.dct (parD (nmsS s) P) :: (Ls ++ [X]))[B.length + 1 + j]? = some (O.lst (l.map .str)) := by
        rw [List.getElem?_append_right (by omega), show B.length + 1 + j - B.length = j + 1 by omega, List.getElem?_cons_succ, List.getElem?_append_left (by omega)]
        exact q2 j l (Nat.le_refl _) hlj
      have lk : look (B ++ O.dct (parD (nmsS s) P) :: (Ls ++ [X])) (.ref (B.length + 1 + j)) = .lst (l.map .str) := by simp only [look, at_]
      have lim : (l.map D.str).length < LIM := by rw [List.length_map]; exact Nat.lt_of_le_of_lt ll (by decide)
      have ap : mutK .append (.ref (B.length + 1 + j)) [.str [109, 111, 114, 101]] (B ++ O.dct (parD (nmsS s) P) :: (Ls ++ [X])) = .ok .non (B ++ O.dct (parD (nmsS s) P) :: (Ls.set j (O.lst (l.map D.str ++ [.str [109, 111, 114, 101]])) ++ [X])) := by
        rw [mutK_s at_ (by simp only [bmO, if_pos lim]; rfl), set_ext (by omega), show B.length + 1 + j - B.length = j + 1 by omega, List.set_cons_succ, List.set_append_left _ _ (by omega)]
      unfold b__law_parts_right_2
      simp_all only [lk, ap]
      refine ⟨?_, _, _, rfl, by rw [List.length_set]; exact q1, fun i l2 hi hl2 => ?_, rfl⟩
      · refine decide_eq_true ?_
        rw [hf, List.getElem?_append_right (by omega), show B.length + 1 + ls.length - B.length = ls.length + 1 by omega, List.getElem?_cons_succ, List.getElem?_append_right (by rw [List.length_set]; omega), List.length_set, q1, Nat.sub_self]; rfl
      · rw [List.getElem?_set_ne (by omega)]
        exact q2 i l2 (by omega) hl2
    · rintro σ s' ⟨Ls, w7, rfl, q1, q2, rfl⟩
      have at_ : ∀ Y : Store, (B ++ O.dct (parD (nmsS s) P) :: (Ls ++ [X]) ++ Y)[f]? = some X := fun Y => by
        rw [hf, List.append_assoc, List.getElem?_append_right (by omega), show B.length + 1 + ls.length - B.length = ls.length + 1 by omega, List.cons_append, List.getElem?_cons_succ, List.append_assoc, List.getElem?_append_right (by omega), q1, Nat.sub_self]; rfl
      have lk : look (B ++ O.dct (parD (nmsS s) P) :: (Ls ++ [X])) (.ref f) = .lst (refL (B.length + 1) ls.length) := by
        have := at_ []
        rw [List.append_nil] at this
        exact lk_rl (this.trans (congrArg some hX))
      have lim : (refL (B.length + 1) ls.length).length < LIM := by rw [ref_len]; exact Nat.lt_of_le_of_lt hd (by decide)
      have fl : st.length + 1 ≤ f := by omega
      have ap : ∀ r, ∃ R', mutK .append (.ref f) [.ref r] (B ++ O.dct (parD (nmsS s) P) :: (Ls ++ [X]) ++ [O.lst []]) = .ok .non (st ++ O.lst (ls.map tsL) :: R') := fun r => by
        rw [mutK_s (at_ _) (by rw [hX]; simp only [bmO, if_pos lim]; rfl)]
        refine ⟨(R ++ (O.dct (parD (nmsS s) P) :: (Ls ++ [X]) ++ [O.lst []])).set (f - st.length - 1) (O.lst (refL (B.length + 1) ls.length ++ [.ref r])), ?_⟩
        rw [hB, List.append_assoc, List.append_assoc, set_ext (by omega), List.cons_append]
        obtain ⟨g, hg⟩ : ∃ g, f - st.length = g + 1 := ⟨f - st.length - 1, by omega⟩
        rw [hg, List.set_cons_succ, Nat.add_sub_cancel]
      obtain ⟨R', hR'⟩ := ap (B ++ O.dct (parD (nmsS s) P) :: (Ls ++ [X])).length
      simp_all only [lk, hR']
      exact ⟨R', _, _, rfl, rfl⟩
end
/-! ### notes of drawn beats -/
theorem ev_bb (a b : Bool) : D.eqv (.bl a) (.bl b) = (a == b) := by simp only [D.eqv]
section
variable {st : Store} {k a : Nat} {n : Int} {cs : List Int}
theorem c_beats {rest : List Nat} {p : Nat} (h : Dw st a cs n (namesR rest p)) (hn : n < 2 ^ 56) :
    wR (runF (PG rp) (k + 2) i__law_beats_right [.ref a] st) (fun d s => ∃ n', d = .bl true ∧ s = st.set a (drO cs n' (namesR rest p)) ∧ n ≤ n' ∧ n' ≤ n + 20) nX := by
  refine run_z (F := f__law_beats_right) rfl rfl rfl rfl ?_
  show wS (evSs _ _ [some (.ref a), none, none, none, none, none, none, none, none, none, none] b__law_beats_right st) _ _ _
  unfold b__law_beats_right
  have nn := h.nn
  have nx : ∀ (n' m : Int), 0 ≤ n' → n' < 2 ^ 60 → 0 < m → runF (PG rp) (k + 1) i__law_next [.ref a, .int m] (st.set a (drO cs n' (namesR rest p))) = .ok (.int (drw cs (n' + 1) m)) (st.set a (drO cs (n' + 1) (namesR rest p))) := fun n' m h0 h1 h2 => h.next2 h0 h1 h2
  have nx0 : ∀ (m : Int), 0 < m → runF (PG rp) (k + 1) i__law_next [.ref a, .int m] st = .ok (.int (drw cs (n + 1) m)) (st.set a (drO cs (n + 1) (namesR rest p))) := fun m h2 => h.next (by omega) h2
  have kvn := kv_names (cs := cs) (n := n) (rest := rest) (a := p)
  have dr : ∀ (j m : Int), 0 < m → ∃ v, drw cs j m = v ∧ 0 ≤ v ∧ v < m := fun j m hm => ⟨_, rfl, drw_nn hm, drw_lt hm⟩
  -- the first note
  obtain ⟨b1, e1, b10, b11⟩ := dr (n + 1) 9990 (by decide)
  obtain ⟨c1, f1, c10, c11⟩ := dr (n + 1 + 1) 2 (by decide)
  obtain ⟨m1, g1, g10⟩ : ∃ m : Int, ixD [D.int 3, .int (9999 - b1)] c1 = some (.int m) ∧ 0 < m := by
    obtain ⟨e, h1, h2 | h2⟩ := ix2 (D.int 3) (.int (9999 - b1)) c10 c11 <;> subst h2
    · exact ⟨3, h1, by decide⟩
    · exact ⟨_, h1, by omega⟩
  obtain ⟨d1, e2, d10, d11⟩ := dr (n + 1 + 1 + 1) m1 g10
  obtain ⟨E1, hE1⟩ : ∃ E : Int, (if b1 + 1 + d1 < 9999 then b1 + 1 + d1 else 9999) = E := ⟨_, rfl⟩
  have E10 : b1 < E1 ∧ E1 ≤ 9999 := by rw [← hE1]; split <;> omega
  -- the other one's beginning
  obtain ⟨p1, e3, p10, p11⟩ := dr (n + 1 + 1 + 1 + 1) 9990 (by decide)
  obtain ⟨q1, e4, q10, q11⟩ := dr (n + 1 + 1 + 1 + 1 + 1) 4 (by decide)
  obtain ⟨X1, hX1⟩ : ∃ X : Int, (if E1 - 1 > 0 then E1 - 1 else 0) = X := ⟨_, rfl⟩
  have X10 : 0 ≤ X1 ∧ X1 ≤ 9998 := by rw [← hX1]; split <;> omega
  obtain ⟨y1, g2, g20, g21⟩ : ∃ m : Int, ixD [D.int p1, .int E1, .int X1, .int b1] q1 = some (.int m) ∧ 0 ≤ m ∧ m ≤ 9999 := by
    obtain ⟨e, h1, h2 | h2 | h2 | h2⟩ := ix4 (D.int p1) (.int E1) (.int X1) (.int b1) q10 q11 <;> subst h2 <;> exact ⟨_, h1, by omega, by omega⟩
  obtain ⟨O1, hO1⟩ : ∃ X : Int, (if 9998 < y1 then 9998 else y1) = X := ⟨_, rfl⟩
  have O10 : 0 ≤ O1 ∧ O1 ≤ 9998 := by rw [← hO1]; split <;> omega
  obtain ⟨c2, f2, c20, c21⟩ := dr (n + 1 + 1 + 1 + 1 + 1 + 1) 2 (by decide)
  obtain ⟨m2, g3, g30⟩ : ∃ m : Int, ixD [D.int 2, .int (9999 - O1)] c2 = some (.int m) ∧ 0 < m := by
    obtain ⟨e, h1, h2 | h2⟩ := ix2 (D.int 2) (.int (9999 - O1)) c20 c21 <;> subst h2
    · exact ⟨2, h1, by decide⟩
    · exact ⟨_, h1, by omega⟩
  obtain ⟨d2, e5, d20, d21⟩ := dr (n + 1 + 1 + 1 + 1 + 1 + 1 + 1) m2 g30
  obtain ⟨L1, hL1⟩ : ∃ E : Int, (if O1 + 1 + d2 < 9999 then O1 + 1 + d2 else 9999) = E := ⟨_, rfl⟩
  have L10 : O1 < L1 ∧ L1 ≤ 9999 := by rw [← hL1]; split <;> omega
  obtain ⟨w1, e6, w10, w11⟩ := dr (n + 1 + 1 + 1 + 1 + 1 + 1 + 1 + 1) 3 (by decide)
  obtain ⟨x0, _, ix0⟩ := name_at (rest := rest) (a := p) (i := 0) (by decide) (by decide)
  obtain ⟨x1, _, ix1⟩ := name_at (rest := rest) (a := p) (i := 1) (by decide) (by decide)
  obtain ⟨x2, _, ix2'⟩ := name_at (rest := rest) (a := p) (i := 2) (by decide) (by decide)
  obtain ⟨xw, _, ixw⟩ := name_at (rest := rest) (a := p) (i := w1) w10 (by omega)
  have F1 := nx0 9990 (by decide)
  have F2 := nx (n + 1) 2 (by omega) (by omega) (by decide)
  have F3 := nx (n + 1 + 1) m1 (by omega) (by omega) g10
  have F4 := nx (n + 1 + 1 + 1) 9990 (by omega) (by omega) (by decide)
  have F5 := nx (n + 1 + 1 + 1 + 1) 4 (by omega) (by omega) (by decide)
  have F6 := nx (n + 1 + 1 + 1 + 1 + 1) 2 (by omega) (by omega) (by decide)
  have F7 := nx (n + 1 + 1 + 1 + 1 + 1 + 1) m2 (by omega) (by omega) g30
  have F8 := nx (n + 1 + 1 + 1 + 1 + 1 + 1 + 1) 3 (by omega) (by omega) (by decide)
  rw [e1] at F1
  rw [f1] at F2
  rw [e2] at F3
  rw [e3] at F4
  rw [e4] at F5
  rw [f2] at F6
  rw [e5] at F7
  rw [e6] at F8
  have V : ∀ a b s, runF (PG rp) (k + 1) i_is_overlap [encNote a, encNote b] s = .ok (.bl (ovl a b)) s := fun a b s => c_is_overlap (k := k) a b
  have V1 := V (x0, x1, b1, E1) (x2, xw, O1, L1)
  have V2 := V (x2, xw, O1, L1) (x0, x1, b1, E1)
  have V3 := V (x0, x1, b1, E1) (x0, x1, b1, E1)
  simp only [encNote] at V1 V2 V3
  have o3 : ovl (x0, x1, b1, E1) (x0, x1, b1, E1) = true := by rw [ovl_iff]; exact ⟨E10.1, E10.1, E10.1, E10.1⟩
  have o12 : ovl (x2, xw, O1, L1) (x0, x1, b1, E1) = ovl (x0, x1, b1, E1) (x2, xw, O1, L1) := ovl_comm _ _
  have o1 : ovl (x0, x1, b1, E1) (x2, xw, O1, L1) = (decide (O1 < E1) && decide (b1 < L1)) := by
    rw [Bool.eq_iff_iff, ovl_iff, Bool.and_eq_true, decide_eq_true_eq, decide_eq_true_eq]
    have h1 := E10.1
    have h2 := L10.1
    constructor
    · rintro ⟨_, z1, z2, _⟩
      exact ⟨z2, z1⟩
    · rintro ⟨z1, z2⟩
      exact ⟨h1, z2, z1, h2⟩
  rw [o12, o1] at V2
  rw [o1] at V1
  rw [o3] at V3
  have its : ∀ b, isTy (PG rp).sub .bool (.bl b) = some true := fun b => rfl
  have mx := hE1
  have al3 : biD (PG rp).rp .all [.lst [.bl true, .bl true, .bl true]] = some (.bl true) := rfl
  cases hA : decide (O1 < E1) with
  | false =>
    have hA' := of_decide_eq_false hA
    rw [hA, Bool.false_and] at V1 V2
    simp_all only [lk_rd h.at_, kvn, F1, F2, g1, F3, hE1, F4, F5, hX1, g2, hO1, F6, g3, F7, hL1, hA', F8, ix0, ix1, ix2', ixw, V1, V2, V3, pl_lst, pls_cons, pls_nil, ev_bb, its, wlc_cons, wlc_nil, blsOf, al3]
    exact ⟨rfl, _, h.trunc, _, rfl, by omega, by omega⟩
  | true =>
    have hA' := of_decide_eq_true hA
    rw [hA, Bool.true_and] at V1 V2
    cases hC : decide (b1 < L1) with
    | false =>
      have hC' := of_decide_eq_false hC
      rw [hC] at V1 V2
      simp_all only [lk_rd h.at_, kvn, F1, F2, g1, F3, hE1, F4, F5, hX1, g2, hO1, F6, g3, F7, hL1, hA', hC', F8, ix0, ix1, ix2', ixw, V1, V2, V3, pl_lst, pls_cons, pls_nil, ev_bb, its, wlc_cons, wlc_nil, blsOf, al3]
      exact ⟨rfl, _, h.trunc, _, rfl, by omega, by omega⟩
    | true =>
      have hC' := of_decide_eq_true hC
      rw [hC] at V1 V2
      simp_all only [lk_rd h.at_, kvn, F1, F2, g1, F3, hE1, F4, F5, hX1, g2, hO1, F6, g3, F7, hL1, hA', hC', F8, ix0, ix1, ix2', ixw, V1, V2, V3, pl_lst, pls_cons, pls_nil, ev_bb, its, wlc_cons, wlc_nil, blsOf, al3]
      exact ⟨rfl, _, h.trunc, _, rfl, by omega, by omega⟩
end
/-! ### the law -/
section
variable {st : Store} {k a : Nat} {n : Int} {cs : List Int}
theorem come_eq {s : Sg} (h : CnS s) {P : Nme → List Nme} (hP : ∀ v ∈ nmsS s, Cls (prsS s) v (P v)) : ∀ v ∈ nmsS s, ∀ st, runF (PG rp) (k + 1) i__law_come_to [encSg s, .str v] st = .ok (tsL (P v)) st := by
  intro v hv st
  obtain ⟨d, s', e, l, hl, rfl, rfl⟩ := wR_get (c_come (rp := rp) (k := k) (st := st) h hv)
  rw [e, hl.uniq (hP v hv)]
theorem parts_eq {s : Sg} (h : CnS s) (hne : ∀ v ∈ nmsS s, v ≠ []) {P : Nme → List Nme} (hP : ∀ v ∈ nmsS s, Cls (prsS s) v (P v)) (st : Store) :
    runF (PG rp) (k + 1) i_parts_of [encSg s] st = .ok (.ref (st.length + 1 + (doneS (nmsS s) P).length)) (st ++ parSt (nmsS s) P ++ [O.lst (refL (st.length + 1) (doneS (nmsS s) P).length)]) := by
  obtain ⟨d, s', e, P', hP', rfl, rfl⟩ := wR_get (w_parts (rp := rp) (k := k) (st := st) h hne)
  obtain ⟨e1, e2⟩ := done_congr (N := nmsS s) (P := P) (P' := P') fun v hv => (hP' v hv).uniq (hP v hv)
  rw [e, parSt, parSt, e1, e2]
theorem c_pright (hr : RpOk rp) {s : Sg} (h : CnS s) (hne : ∀ v ∈ nmsS s, v ≠ []) (hrep : SgRep s) : runF (PG rp) (k + 2) i__law_parts_right [encSg s] st = .ok (.bl true) st := by
  refine wR_eq (run_z (F := f__law_parts_right) rfl rfl rfl rfl ?_)
  show wS (evSs _ _ [some (encSg s), none, none, none, none, none, none, none] b__law_parts_right st) _ _ _
  unfold b__law_parts_right
  obtain ⟨_, _, _, P, hP, _, _⟩ := wR_get (w_parts (rp := rp) (k := k) (st := []) h hne)
  have C := come_eq (rp := rp) (k := k) h hP
  have PT := parts_eq (rp := rp) (k := k) h hne hP
  obtain ⟨t, ht⟩ := rp_song hr hrep
  have hrp : biD (PG rp).rp .repr [encSg s] = some (.str t) := by
    show (rp (encSg s)).map _ = _
    rw [ht]; rfl
  have nl40 : (nmsS s).length ≤ 40 := by rw [nms_len]; exact h.nl
  have dl : (doneS (nmsS s) P).length ≤ 40 := by
    rw [doneS, List.length_map]
    exact Nat.le_trans (List.length_filter_le ..) (by rw [sortS_ln]; exact nl40)
  have pl : ∀ v ∈ nmsS s, (P v).length ≤ 40 := fun v hv => by
    have := sub_len (rise_nd (hP v hv).1) fun z hz => (((hP v hv).2 z).mp hz).inN (prs_in h) hv
    omega
  have i0 : idxD (encSg s) (.int 0) = some (.tup (s.ns.map encNote)) := rfl
  have hnl := h.nl
  simp_all only [lk_sg, i0]
  refine wR_lcMap s.ns encNote (fun x => .str x.1) rfl (fun x hx => ⟨_, by erw []; rfl, rfl, by erw [lk_note, ixn0]⟩) ?_
  have eN : (s.ns.map fun x => D.str x.1) = (nmsS s).map .str := by simp [nmsS, Function.comp_def]
  have so := sorted_strs (PG rp).rp (l := nmsS s) (by omega)
  rw [eN]
  simp_all only [so]
  refine wS_for (fun i σ s' => ∃ (v2 : Option D), σ = [some (encSg s), some (.ref st.length), v2, none, none, none, none, none] ∧ s' = st ++ [O.lst (((((sortS (nmsS s)).take i).filter fun v => decide ((P v).head? = some v)).map P).map tsL)]) ⟨_, rfl, rfl⟩ ?_ ?_
  · rintro i d σ s' hi ⟨v2, rfl, rfl⟩
    obtain ⟨v, hv, rfl⟩ := map_get hi
    refine ⟨_, bg_nm _ _ _, ?_⟩
    have vN : v ∈ nmsS s := (sortS_mem _ v).mp (List.mem_of_getElem? hv)
    obtain ⟨u, r, hur⟩ : ∃ u r, P v = u :: r := by
      cases e : P v with
      | nil => have := ((hP v vN).2 v).mpr .refl; rw [e] at this; cases this
      | cons u r => exact ⟨u, r, rfl⟩
    have ix : ixD ((P v).map D.str) 0 = some (.str u) := by rw [hur]; rfl
    have lkt : ∀ s l, look s (tsL l) = .lst (l.map .str) := fun s l => rfl
    have Cv := C v vN
    have fl : (((sortS (nmsS s)).take i).filter fun v => decide ((P v).head? = some v)).length ≤ 40 := Nat.le_trans (List.length_filter_le ..) (by rw [List.length_take, sortS_ln]; omega)
    unfold b__law_parts_right_3
    by_cases e : u = v
    · have hd : (P v).head? = some v := by rw [hur, e]; rfl
      have f1 : [v].filter (fun v => decide ((P v).head? = some v)) = [v] := by simp [hd]
      obtain ⟨F, hF⟩ : ∃ F, F = (((sortS (nmsS s)).take i).filter fun v => decide ((P v).head? = some v)) := ⟨_, rfl⟩
      rw [take_snoc hv, List.filter_append, f1, ← hF]
      rw [← hF] at fl
      have lk : look (st ++ [O.lst ((F.map P).map tsL)]) (.ref st.length) = .lst ((F.map P).map tsL) := by simp only [look, get_last]
      have ap : mutK .append (.ref st.length) [tsL (P v)] (st ++ [O.lst ((F.map P).map tsL)]) = .ok .non (st ++ [O.lst (((F ++ [v]).map P).map tsL)]) := by
        have l : ((F.map P).map tsL).length < LIM := by rw [List.length_map, List.length_map]; exact Nat.lt_of_le_of_lt fl (by decide)
        rw [mutK_s (get_last _ _) (by simp only [bmO, if_pos l]; rfl), set_last]; simp
      simp_all only [Cv, lkt, ix, e, lk, ap]
      exact ⟨rfl, _, rfl⟩
    · have hd : ¬ (P v).head? = some v := by rw [hur]; simpa using e
      have f1 : [v].filter (fun v => decide ((P v).head? = some v)) = [] := by simp [hd]
      rw [take_snoc hv, List.filter_append, f1, List.append_nil]
      simp_all only [Cv, lkt, ix, e]
      exact ⟨rfl, _, rfl⟩
  · rintro σ s' ⟨v2, rfl, rfl⟩
    rw [List.length_map, List.take_length]
    have ed : ((((sortS (nmsS s)).filter fun v => decide ((P v).head? = some v)).map P).map tsL) = (doneS (nmsS s) P).map tsL := rfl
    rw [ed]
    simp_all only [lk_sg, hrp]
    refine wS_for (fun i σ s' => ∃ (R : Store) (v5 v6 v7 : Option D), σ = [some (encSg s), some (.ref st.length), v2, none, some (.str t), v5, v6, v7] ∧ s' = st ++ O.lst ((doneS (nmsS s) P).map tsL) :: R) ⟨[], _, _, _, rfl, rfl⟩ ?_ ?_
    · rintro i d σ s' hi ⟨R, v5, v6, v7, rfl, rfl⟩
      refine ⟨_, bg_nm _ _ _, ?_⟩
      refine wS_mono (w_pright1 (rp := rp) (k := k) (R := R) dl (fun l hl => ?_) PT) ?_ (fun _ _ h => h.elim) (fun _ _ _ _ h => h.elim)
      · obtain ⟨v, hv, rfl⟩ := List.mem_map.mp hl
        have := pl v ((sortS_mem _ v).mp (List.mem_filter.mp hv).1)
        omega
      · rintro σ s' ⟨R', w6, w7, rfl, rfl⟩
        exact ⟨rfl, R', _, _, _, rfl, rfl⟩
    · rintro σ s' ⟨R, v5, v6, v7, rfl, rfl⟩
      simp_all only [lk_sg, hrp]
      exact ⟨rfl, _, trunc_app _ _, rfl⟩
theorem c_step (hr : RpOk rp) (hcl : cs.length < 2 ^ 60) : runF (PG rp) (k + 6) i__law_step [.lst (cs.map .int)] st = .ok (.bl true) st := by
  refine wR_eq (run_z (F := f__law_step) rfl rfl rfl rfl ?_)
  show wS (evSs _ _ [some (.lst (cs.map .int)), none, none, none, none, none] b__law_step st) _ _ _
  unfold b__law_step
  have F1 := c_begun (rp := rp) (k := k + 3) (cs := cs) (st := st) hcl
  simp_all only []
  refine wR_use F1 ?_
  rintro _ _ ⟨n, rest, p, rfl, rfl, n0, n1, hr7, hp, hq⟩
  have dw : Dw (st ++ [drO cs n (namesR rest p)]) st.length cs n (namesR rest p) := ⟨get_last _ _, namesR_pure _ _, by simp [namesR], namesR_at _ _, n0, hcl⟩
  have sl : ∀ m, (st ++ [drO cs n (namesR rest p)]).set st.length (drO cs m (namesR rest p)) = st ++ [drO cs m (namesR rest p)] := fun m => set_last _ _ _
  have F2 := c_good (rp := rp) (k := k + 2) dw (by omega)
  simp only [sl] at F2
  refine wR_use F2 ?_
  rintro _ _ ⟨n2, s, rfl, rfl, q1, q2, q3⟩
  have i0 : idxD (encSg s) (.int 0) = some (.tup (s.ns.map encNote)) := rfl
  have i1 : idxD (encSg s) (.int 1) = some (.tup (s.ts.map encTie)) := rfl
  have nb : ∀ x ∈ s.ns, 0 ≤ x.2.2.1 ∧ x.2.2.1 ≤ 300 ∧ 0 ≤ x.2.2.2 ∧ x.2.2.2 ≤ 300 := fun x hx => by have := q3.ns.bd x hx; omega
  have ct : cut (s.ns.map encNote) none (some 12) = (cut s.ns none (some 12)).map encNote := cut_map ..
  have cm : ∀ x ∈ cut s.ns none (some 12), x ∈ s.ns := fun x hx => by
    unfold cut at hx
    exact List.mem_of_mem_drop (List.mem_of_mem_take hx)
  have cn := q3.cn
  have rep := q3.rep hr7 hq
  have nne : ∀ v ∈ nmsS s, v ≠ [] := fun v hv => by
    obtain ⟨x, hx, rfl⟩ := List.mem_map.mp hv
    exact (name_okW hr7 hq (q3.nmem x hx).1).2
  have dwn : ∀ m, 0 ≤ m → Dw (st ++ [drO cs m (namesR rest p)]) st.length cs m (namesR rest p) := fun m hm => by
    have := dw.set hm
    rwa [sl] at this
  have sl2 : ∀ m m', (st ++ [drO cs m (namesR rest p)]).set st.length (drO cs m' (namesR rest p)) = st ++ [drO cs m' (namesR rest p)] := fun m m' => set_last _ _ _
  simp_all only [lk_sg, i0, ct]
  refine wS_for (fun i σ s' => ∃ (v3 v4 : Option D), σ = [some (.lst (cs.map .int)), some (.ref st.length), some (encSg s), v3, v4, none] ∧ s' = st ++ [drO cs n2 (namesR rest p)]) ⟨_, _, rfl, rfl⟩ ?_ ?_
  · rintro i d σ s' hi ⟨v3, v4, rfl, rfl⟩
    obtain ⟨x, hx, rfl⟩ := map_get hi
    refine ⟨_, bg_nm _ _ _, ?_⟩
    have xm := nb x (cm x (List.mem_of_getElem? hx))
    unfold b__law_step_2
    simp_all only [lk_sg, i0, ct]
    refine wS_for (fun j σ s' => ∃ (v4 : Option D), σ = [some (.lst (cs.map .int)), some (.ref st.length), some (encSg s), some (encNote x), v4, none] ∧ s' = st ++ [drO cs n2 (namesR rest p)]) ⟨_, rfl, rfl⟩ ?_ ?_
    · rintro j d σ s' hj ⟨w4, rfl, rfl⟩
      obtain ⟨y, hy, rfl⟩ := map_get hj
      refine ⟨_, bg_nm _ _ _, ?_⟩
      have V1 : ∀ s, runF (PG rp) (k + 5) i_is_overlap [encNote x, encNote y] s = .ok (.bl (ovl x y)) s := fun s => c_is_overlap (k := k + 4) x y
      have V2 : ∀ s, runF (PG rp) (k + 5) i__law_overlap [encNote x, encNote y] s = .ok (.bl (ovl x y)) s := fun s => c_loverlap (k := k + 4) x y xm.1 (by omega) xm.2.2.1 (by omega)
      have eb : (ovl x y == ovl x y) = true := by simp
      unfold b__law_step_3
      simp_all only [V1, V2, ev_bb, eb]
      exact ⟨rfl, _, rfl⟩
    · rintro σ s' ⟨w4, rfl, rfl⟩
      simp_all only []
      exact ⟨rfl, _, _, rfl⟩
  · rintro σ s' ⟨v3, v4, rfl, rfl⟩
    simp_all only []
    refine wS_for (fun i σ s' => ∃ (n3 : Int) (v5 : Option D), σ = [some (.lst (cs.map .int)), some (.ref st.length), some (encSg s), v3, v4, v5] ∧ s' = st ++ [drO cs n3 (namesR rest p)] ∧ n2 ≤ n3 ∧ n3 ≤ n2 + 20 * i) ⟨n2, _, rfl, rfl, by omega, by omega⟩ ?_ ?_
    · rintro i d σ s' hi ⟨n3, v5, rfl, rfl, p1, p2⟩
      obtain ⟨h1, rfl⟩ := rngL_get hi
      have h1 : i < 6 := h1
      refine ⟨_, bg_nm _ _ _, ?_⟩
      have B := c_beats (rp := rp) (k := k + 3) (dwn n3 (by omega)) (by omega)
      simp only [sl2] at B
      unfold b__law_step_1
      simp_all only []
      refine wR_use B ?_
      rintro _ _ ⟨n4, rfl, rfl, p3, p4⟩
      simp_all only []
      exact ⟨rfl, n4, _, rfl, rfl, by omega, by omega⟩
    · rintro σ s' ⟨n3, v5, rfl, rfl, p1, p2⟩
      have R1 : ∀ s', runF (PG rp) (k + 5) i__law_parts_right [encSg s] s' = .ok (.bl true) s' := fun s' => c_pright (k := k + 3) hr cn nne rep
      have R2 : ∀ s', runF (PG rp) (k + 5) i__law_parts_right [encSg (halfS s)] s' = .ok (.bl true) s' := fun s' => c_pright (k := k + 3) hr cn.half nne rep.half
      have eh : D.tup [.tup (s.ns.map encNote), .tup (evens (s.ts.map encTie)), .non] = encSg (halfS s) := by rw [evens_map]; rfl
      have sp : stpD (.tup (s.ts.map encTie)) 2 = some (.tup (evens (s.ts.map encTie))) := rfl
      simp_all only [R1, lk_sg, i0, i1, sp, eh, R2]
      exact ⟨rfl, _, trunc_app _ _, rfl⟩
theorem c_law (hr : RpOk rp) {ns : List Int} (hl : ns.length ≤ 63) : wR (runF (PG rp) (k + 7) i_law [.lst (ns.map .int)] st) (fun d s => d = .bl true) nX := by
  refine run_z (F := f_law) rfl rfl rfl rfl ?_
  show wS (evSs _ _ [some (.lst (ns.map .int)), none] b_law st) _ _ _
  unfold b_law
  have s0 : smallI 0 = true := rfl
  have s1 : smallI (if (ns.length : Int) > 1 then (ns.length : Int) else 1) = true := smallII (by split <;> omega) (by split <;> omega)
  erw [rng3K_i (i := 0) (n := if (ns.length : Int) > 1 then (ns.length : Int) else 1) (k := 12) st s0 s1 (by decide) (by decide)]
  refine wS_for (fun i σ s => ∃ t, σ = [some (.lst (ns.map .int)), t] ∧ s = st) ⟨none, rfl, rfl⟩ ?_ ?_
  · rintro i d σ s hi ⟨t, rfl, rfl⟩
    obtain ⟨h1, rfl⟩ := rngL_get hi
    refine ⟨_, bg_nm _ _ _, ?_⟩
    unfold b_law_1
    have F := fun lo hi => c_step (rp := rp) (k := k) (st := s) (cs := cut ns lo hi) hr (Nat.lt_of_le_of_lt (cutN_len _ _ _) (Nat.lt_of_le_of_lt hl (by decide)))
    erw [cut_map, F]
    exact ⟨rfl, _, rfl⟩
  · rintro σ s ⟨t, rfl, rfl⟩
    have T1 : runF (PG rp) (k + 6) i_parts_of [.tup [.tup [], .tup [], .non]] s = .ok (.ref (s.length + 1)) (s ++ [O.dct [], O.lst []]) := by
      have c0 : CnS ⟨[], [], none⟩ := ⟨.nil, (fun t ht => by cases ht), by decide, by decide⟩
      have := parts_eq (rp := rp) (k := k + 5) c0 (fun v hv => by cases hv) (P := fun _ => []) (fun v hv => by cases hv) s
      refine Eq.trans this ?_
      simp [doneS, nmsS, sortS, parSt, parD, refL]
    have g1 : (s ++ [O.dct [], O.lst []])[s.length + 1]? = some (O.lst []) := by rw [List.getElem?_append_right (by omega)]; simp
    have dl : dlook (s ++ [O.dct [], O.lst []]) (.ref (s.length + 1)) = .lst [] := by
      simp only [dlook]
      rw [fz_lst_pure g1 (Nat.not_lt_zero _) rfl]; rfl
    simp_all only [T1, dl, pl_lst, pls_nil]
    exact ⟨rfl, _, trunc_app _ _⟩
end
theorem law_true (rp : D → Option (List Nat)) (hr : RpOk rp) (ns : List Int) (hl : ns.length ≤ 63) : ∃ s, runF (PG rp) 14 lawId [.lst (ns.map .int)] [] = .ok (.bl true) s := by
  obtain ⟨d, s, e, rfl⟩ := wR_get (c_law (rp := rp) (k := 7) (st := []) hr hl)
  exact ⟨s, e⟩
end CT.L

namespace CT.L
open PySem L2 PyProof.Rows
def topS (i : Nat) : Stmt := PySem.Challenge.pw_choirtrue_k11_overlaps_and_parts.main.body.getD i (.Pass ⟨0, 0, 0, 0⟩)
abbrev st_is_overlap : Stmt := topS 1
abbrev st_parts_of : Stmt := topS 2
abbrev st__law_next : Stmt := topS 4
abbrev st__law_begun : Stmt := topS 5
abbrev st__law_overlap : Stmt := topS 6
abbrev st__law_fitting : Stmt := topS 7
abbrev st__law_good : Stmt := topS 8
abbrev st__law_come_to : Stmt := topS 9
abbrev st__law_beats_right : Stmt := topS 10
abbrev st__law_parts_right : Stmt := topS 11
abbrev st__law_step : Stmt := topS 12
abbrev st_law : Stmt := topS 13
def fnN : List Str := ["is_overlap", "parts_of", "_law_next", "_law_begun", "_law_overlap", "_law_fitting", "_law_good", "_law_come_to", "_law_beats_right", "_law_parts_right", "_law_step", "law"]
def clN : List Str := []
def xcN : List Str := []
def glN : List Str := []
def fdN : List Str := []
def mtN : List Str := []
def nmL : Nm := ⟨fun f => fnN.getD f "", fun f => clN.getD f "", fun f => xcN.getD f "", fun f => glN.getD f "", nmI fdN 122, nmI mtN 121⟩
abbrev N_is_overlap : List Str := ["one", "other"]
abbrev ps_is_overlap : List Str := ["one", "other"]
theorem sc_is_overlap : FnScope N_is_overlap ps_is_overlap (defScope st_is_overlap) := ⟨rfl, rfl, rfl, by decide +kernel, rfl, by decide +kernel, by decide +kernel⟩
theorem m_is_overlap : mSs ⟨nmL, N_is_overlap, defScope st_is_overlap, N_is_overlap, true⟩ b_is_overlap (defBody st_is_overlap) = true := by decide +kernel
abbrev N_parts_of : List Str := ["song", "parts", "note", "tie", "one", "other", "more", "name"]
abbrev ps_parts_of : List Str := ["song"]
theorem sc_parts_of : FnScope N_parts_of ps_parts_of (defScope st_parts_of) := ⟨rfl, rfl, rfl, by decide +kernel, rfl, by decide +kernel, by decide +kernel⟩
theorem m_parts_of : mSs ⟨nmL, N_parts_of, defScope st_parts_of, N_parts_of, true⟩ b_parts_of (defBody st_parts_of) = true := by decide +kernel
abbrev N__law_next : List Str := ["_law_state", "_law_many", "_law_k", "_law_cells", "_law_base"]
abbrev ps__law_next : List Str := ["_law_state", "_law_many"]
theorem sc__law_next : FnScope N__law_next ps__law_next (defScope st__law_next) := ⟨rfl, rfl, rfl, by decide +kernel, rfl, by decide +kernel, by decide +kernel⟩
theorem m__law_next : mSs ⟨nmL, N__law_next, defScope st__law_next, N__law_next, true⟩ b__law_next (defBody st__law_next) = true := by decide +kernel
abbrev N__law_begun : List Str := ["_law_cells", "_law_state", "_law_rest", "_law_k", "_law_at", "_law_some", "_law_sign", "_law_name"]
abbrev ps__law_begun : List Str := ["_law_cells"]
theorem sc__law_begun : FnScope N__law_begun ps__law_begun (defScope st__law_begun) := ⟨rfl, rfl, rfl, by decide +kernel, rfl, by decide +kernel, by decide +kernel⟩
theorem m__law_begun : mSs ⟨nmL, N__law_begun, defScope st__law_begun, N__law_begun, true⟩ b__law_begun (defBody st__law_begun) = true := by decide +kernel
abbrev N__law_overlap : List Str := ["_law_one", "_law_other", "_law_beat"]
abbrev ps__law_overlap : List Str := ["_law_one", "_law_other"]
theorem sc__law_overlap : FnScope N__law_overlap ps__law_overlap (defScope st__law_overlap) := ⟨rfl, rfl, rfl, by decide +kernel, rfl, by decide +kernel, by decide +kernel⟩
theorem m__law_overlap : mSs ⟨nmL, N__law_overlap, defScope st__law_overlap, N__law_overlap, true⟩ b__law_overlap (defBody st__law_overlap) = true := by decide +kernel
abbrev N__law_fitting : List Str := ["_law_state", "_law_notes", "_law_at", "_law_one", "_law_other", "_law_word", "_law_ratio", "_law_k"]
abbrev ps__law_fitting : List Str := ["_law_state", "_law_notes"]
theorem sc__law_fitting : FnScope N__law_fitting ps__law_fitting (defScope st__law_fitting) := ⟨rfl, rfl, rfl, by decide +kernel, rfl, by decide +kernel, by decide +kernel⟩
theorem m__law_fitting : mSs ⟨nmL, N__law_fitting, defScope st__law_fitting, N__law_fitting, true⟩ b__law_fitting (defBody st__law_fitting) = true := by decide +kernel
abbrev N__law_good : List Str := ["_law_state", "_law_names", "_law_first", "_law_voices", "_law_clocks", "_law_voice", "_law_notes", "_law_far", "_law_at", "_law_k", "_law_begins", "_law_turn", "_law_ties", "_law_home"]
abbrev ps__law_good : List Str := ["_law_state"]
theorem sc__law_good : FnScope N__law_good ps__law_good (defScope st__law_good) := ⟨rfl, rfl, rfl, by decide +kernel, rfl, by decide +kernel, by decide +kernel⟩
theorem m__law_good : mSs ⟨nmL, N__law_good, defScope st__law_good, N__law_good, true⟩ b__law_good (defBody st__law_good) = true := by decide +kernel
abbrev N__law_come_to : List Str := ["_law_song", "_law_name", "_law_found", "_law_at", "_law_tie", "_law_one"]
abbrev ps__law_come_to : List Str := ["_law_song", "_law_name"]
theorem sc__law_come_to : FnScope N__law_come_to ps__law_come_to (defScope st__law_come_to) := ⟨rfl, rfl, rfl, by decide +kernel, rfl, by decide +kernel, by decide +kernel⟩
theorem m__law_come_to : mSs ⟨nmL, N__law_come_to, defScope st__law_come_to, N__law_come_to, true⟩ b__law_come_to (defBody st__law_come_to) = true := by decide +kernel
abbrev N__law_beats_right : List Str := ["_law_state", "_law_names", "_law_begins", "_law_ends", "_law_other", "_law_later", "_law_due", "_law_one", "_law_two", "_law_told", "_law_each"]
abbrev ps__law_beats_right : List Str := ["_law_state"]
theorem sc__law_beats_right : FnScope N__law_beats_right ps__law_beats_right (defScope st__law_beats_right) := ⟨rfl, rfl, rfl, by decide +kernel, rfl, by decide +kernel, by decide +kernel⟩
theorem m__law_beats_right : mSs ⟨nmL, N__law_beats_right, defScope st__law_beats_right, N__law_beats_right, true⟩ b__law_beats_right (defBody st__law_beats_right) = true := by decide +kernel
abbrev N__law_parts_right : List Str := ["_law_song", "_law_due", "_law_name", "_law_note", "_law_kept", "_law_turn", "_law_found", "_law_part"]
abbrev ps__law_parts_right : List Str := ["_law_song"]
theorem sc__law_parts_right : FnScope N__law_parts_right ps__law_parts_right (defScope st__law_parts_right) := ⟨rfl, rfl, rfl, by decide +kernel, rfl, by decide +kernel, by decide +kernel⟩
theorem m__law_parts_right : mSs ⟨nmL, N__law_parts_right, defScope st__law_parts_right, N__law_parts_right, true⟩ b__law_parts_right (defBody st__law_parts_right) = true := by decide +kernel
abbrev N__law_step : List Str := ["_law_cells", "_law_state", "_law_song", "_law_one", "_law_other", "_law_turn"]
abbrev ps__law_step : List Str := ["_law_cells"]
theorem sc__law_step : FnScope N__law_step ps__law_step (defScope st__law_step) := ⟨rfl, rfl, rfl, by decide +kernel, rfl, by decide +kernel, by decide +kernel⟩
theorem m__law_step : mSs ⟨nmL, N__law_step, defScope st__law_step, N__law_step, true⟩ b__law_step (defBody st__law_step) = true := by decide +kernel
abbrev N_law : List Str := ["_law_script", "_law_first"]
abbrev ps_law : List Str := ["_law_script"]
theorem sc_law : FnScope N_law ps_law (defScope st_law) := ⟨rfl, rfl, rfl, by decide +kernel, rfl, by decide +kernel, by decide +kernel⟩
theorem m_law : mSs ⟨nmL, N_law, defScope st_law, N_law, true⟩ b_law (defBody st_law) = true := by decide +kernel
set_option maxHeartbeats 0 in
theorem all_mk {P : Program} {w : World} {K : PySem.W.Frag} {h : Heap} {mg : Str → Option Value} {fa : Addr} (X : K.In h) (G : h.Ns mainGlobals mg) (hfa : mg "law" = some (.ref fa))
    {f0 f1 f2 f3 f4 f5 f6 f7 f8 f9 f10 f11 : Addr} {oc0 kV0 dc0 pm0 cd0 ct0 : Value} {od0 an0 : Option Addr} {sl0 : Array (Option Value)} {oc1 kV1 dc1 pm1 cd1 ct1 : Value} {od1 an1 : Option Addr} {sl1 : Array (Option Value)} {oc2 kV2 dc2 pm2 cd2 ct2 : Value} {od2 an2 : Option Addr} {sl2 : Array (Option Value)} {oc3 kV3 dc3 pm3 cd3 ct3 : Value} {od3 an3 : Option Addr} {sl3 : Array (Option Value)} {oc4 kV4 dc4 pm4 cd4 ct4 : Value} {od4 an4 : Option Addr} {sl4 : Array (Option Value)} {oc5 kV5 dc5 pm5 cd5 ct5 : Value} {od5 an5 : Option Addr} {sl5 : Array (Option Value)} {oc6 kV6 dc6 pm6 cd6 ct6 : Value} {od6 an6 : Option Addr} {sl6 : Array (Option Value)} {oc7 kV7 dc7 pm7 cd7 ct7 : Value} {od7 an7 : Option Addr} {sl7 : Array (Option Value)} {oc8 kV8 dc8 pm8 cd8 ct8 : Value} {od8 an8 : Option Addr} {sl8 : Array (Option Value)} {oc9 kV9 dc9 pm9 cd9 ct9 : Value} {od9 an9 : Option Addr} {sl9 : Array (Option Value)} {oc10 kV10 dc10 pm10 cd10 ct10 : Value} {od10 an10 : Option Addr} {sl10 : Array (Option Value)} {oc11 kV11 dc11 pm11 cd11 ct11 : Value} {od11 an11 : Option Addr} {sl11 : Array (Option Value)}
    (a0 : PySem.W.nsIn K mainGlobals "is_overlap" = some (some (.ref f0)))
    (l0 : K.lookup f0 = some ⟨oc0, od0, .func (PySem.W.fnOf "is_overlap" "is_overlap" (defArgs st_is_overlap) (defBody st_is_overlap) (defScope st_is_overlap) .none kV0 dc0 pm0 an0 cd0 ct0), sl0⟩)
    (c0 : PySem.W.codeIn K cd0 "is_overlap" = true)
    (k0 : PySem.W.keepIn K (.ref f0) = true)
    (a1 : PySem.W.nsIn K mainGlobals "parts_of" = some (some (.ref f1)))
    (l1 : K.lookup f1 = some ⟨oc1, od1, .func (PySem.W.fnOf "parts_of" "parts_of" (defArgs st_parts_of) (defBody st_parts_of) (defScope st_parts_of) .none kV1 dc1 pm1 an1 cd1 ct1), sl1⟩)
    (c1 : PySem.W.codeIn K cd1 "parts_of" = true)
    (k1 : PySem.W.keepIn K (.ref f1) = true)
    (a2 : PySem.W.nsIn K mainGlobals "_law_next" = some (some (.ref f2)))
    (l2 : K.lookup f2 = some ⟨oc2, od2, .func (PySem.W.fnOf "_law_next" "_law_next" (defArgs st__law_next) (defBody st__law_next) (defScope st__law_next) .none kV2 dc2 pm2 an2 cd2 ct2), sl2⟩)
    (c2 : PySem.W.codeIn K cd2 "_law_next" = true)
    (k2 : PySem.W.keepIn K (.ref f2) = true)
    (a3 : PySem.W.nsIn K mainGlobals "_law_begun" = some (some (.ref f3)))
    (l3 : K.lookup f3 = some ⟨oc3, od3, .func (PySem.W.fnOf "_law_begun" "_law_begun" (defArgs st__law_begun) (defBody st__law_begun) (defScope st__law_begun) .none kV3 dc3 pm3 an3 cd3 ct3), sl3⟩)
    (c3 : PySem.W.codeIn K cd3 "_law_begun" = true)
    (k3 : PySem.W.keepIn K (.ref f3) = true)
    (a4 : PySem.W.nsIn K mainGlobals "_law_overlap" = some (some (.ref f4)))
    (l4 : K.lookup f4 = some ⟨oc4, od4, .func (PySem.W.fnOf "_law_overlap" "_law_overlap" (defArgs st__law_overlap) (defBody st__law_overlap) (defScope st__law_overlap) .none kV4 dc4 pm4 an4 cd4 ct4), sl4⟩)
    (c4 : PySem.W.codeIn K cd4 "_law_overlap" = true)
    (k4 : PySem.W.keepIn K (.ref f4) = true)
    (a5 : PySem.W.nsIn K mainGlobals "_law_fitting" = some (some (.ref f5)))
    (l5 : K.lookup f5 = some ⟨oc5, od5, .func (PySem.W.fnOf "_law_fitting" "_law_fitting" (defArgs st__law_fitting) (defBody st__law_fitting) (defScope st__law_fitting) .none kV5 dc5 pm5 an5 cd5 ct5), sl5⟩)
    (c5 : PySem.W.codeIn K cd5 "_law_fitting" = true)
    (k5 : PySem.W.keepIn K (.ref f5) = true)
    (a6 : PySem.W.nsIn K mainGlobals "_law_good" = some (some (.ref f6)))
    (l6 : K.lookup f6 = some ⟨oc6, od6, .func (PySem.W.fnOf "_law_good" "_law_good" (defArgs st__law_good) (defBody st__law_good) (defScope st__law_good) .none kV6 dc6 pm6 an6 cd6 ct6), sl6⟩)
    (c6 : PySem.W.codeIn K cd6 "_law_good" = true)
    (k6 : PySem.W.keepIn K (.ref f6) = true)
    (a7 : PySem.W.nsIn K mainGlobals "_law_come_to" = some (some (.ref f7)))
    (l7 : K.lookup f7 = some ⟨oc7, od7, .func (PySem.W.fnOf "_law_come_to" "_law_come_to" (defArgs st__law_come_to) (defBody st__law_come_to) (defScope st__law_come_to) .none kV7 dc7 pm7 an7 cd7 ct7), sl7⟩)
    (c7 : PySem.W.codeIn K cd7 "_law_come_to" = true)
    (k7 : PySem.W.keepIn K (.ref f7) = true)
    (a8 : PySem.W.nsIn K mainGlobals "_law_beats_right" = some (some (.ref f8)))
    (l8 : K.lookup f8 = some ⟨oc8, od8, .func (PySem.W.fnOf "_law_beats_right" "_law_beats_right" (defArgs st__law_beats_right) (defBody st__law_beats_right) (defScope st__law_beats_right) .none kV8 dc8 pm8 an8 cd8 ct8), sl8⟩)
    (c8 : PySem.W.codeIn K cd8 "_law_beats_right" = true)
    (k8 : PySem.W.keepIn K (.ref f8) = true)
    (a9 : PySem.W.nsIn K mainGlobals "_law_parts_right" = some (some (.ref f9)))
    (l9 : K.lookup f9 = some ⟨oc9, od9, .func (PySem.W.fnOf "_law_parts_right" "_law_parts_right" (defArgs st__law_parts_right) (defBody st__law_parts_right) (defScope st__law_parts_right) .none kV9 dc9 pm9 an9 cd9 ct9), sl9⟩)
    (c9 : PySem.W.codeIn K cd9 "_law_parts_right" = true)
    (k9 : PySem.W.keepIn K (.ref f9) = true)
    (a10 : PySem.W.nsIn K mainGlobals "_law_step" = some (some (.ref f10)))
    (l10 : K.lookup f10 = some ⟨oc10, od10, .func (PySem.W.fnOf "_law_step" "_law_step" (defArgs st__law_step) (defBody st__law_step) (defScope st__law_step) .none kV10 dc10 pm10 an10 cd10 ct10), sl10⟩)
    (c10 : PySem.W.codeIn K cd10 "_law_step" = true)
    (k10 : PySem.W.keepIn K (.ref f10) = true)
    (a11 : PySem.W.nsIn K mainGlobals "law" = some (some (.ref f11)))
    (l11 : K.lookup f11 = some ⟨oc11, od11, .func (PySem.W.fnOf "law" "law" (defArgs st_law) (defBody st_law) (defScope st_law) .none kV11 dc11 pm11 an11 cd11 ct11), sl11⟩)
    (c11 : PySem.W.codeIn K cd11 "law" = true)
    (k11 : PySem.W.keepIn K (.ref f11) = true)
    (b0 : PySem.W.nsIn K mainGlobals "len" = some none)
    (b1 : PySem.W.nsIn K mainGlobals "max" = some none)
    (b2 : PySem.W.nsIn K mainGlobals "min" = some none)
    (b3 : PySem.W.nsIn K mainGlobals "sum" = some none)
    (b4 : PySem.W.nsIn K mainGlobals "all" = some none)
    (b5 : PySem.W.nsIn K mainGlobals "any" = some none)
    (b6 : PySem.W.nsIn K mainGlobals "abs" = some none)
    (b7 : PySem.W.nsIn K mainGlobals "int" = some none)
    (b8 : PySem.W.nsIn K mainGlobals "str" = some none)
    (b9 : PySem.W.nsIn K mainGlobals "repr" = some none)
    (b10 : PySem.W.nsIn K mainGlobals "sorted" = some none)
    (b11 : PySem.W.nsIn K mainGlobals "tuple" = some none)
    (b12 : PySem.W.nsIn K mainGlobals "list" = some none)
    (b13 : PySem.W.nsIn K mainGlobals "dict" = some none)
    (b14 : PySem.W.nsIn K mainGlobals "range" = some none)
    (b15 : PySem.W.nsIn K mainGlobals "zip" = some none)
    (b16 : PySem.W.nsIn K mainGlobals "enumerate" = some none)
    (b17 : PySem.W.nsIn K mainGlobals "reversed" = some none)
    (b18 : PySem.W.nsIn K mainGlobals "isinstance" = some none)
    (b19 : PySem.W.nsIn K mainGlobals "bool" = some none)
    (b20 : PySem.W.nsIn K mainGlobals "set" = some none)
    (b21 : PySem.W.nsIn K mainGlobals "ValueError" = some none)
    (base : Heap) : ∃ T : TT, ∃ nm : Nm, T.pp = P ∧ T.w = w ∧ T.K = K ∧ T.mg = mg ∧ T.base = base ∧ T.P = PG rpD ∧ T.hid = [] ∧ T.fa lawId = fa ∧ TOk T nm ∧ ∀ f F, (PG rpD).fn f = some F → FnF T nm f F := by
  have e := hfa.symm.trans (PySem.W.mg_of X G a11)
  cases e
  let T : TT := ⟨P, w, K, mg, base, PG rpD, fun f => [f0, f1, f2, f3, f4, f5, f6, f7, f8, f9, f10, fa].getD f 0, fun f => [].getD f 0, fun f => [].getD f 0, nmI fdN 122, nmI mtN 121, fun f => glN.getD f "", []⟩
  refine ⟨T, nmL, rfl, rfl, rfl, rfl, rfl, rfl, rfl, rfl, ?_, ?_⟩
  · have small : ∀ x ∈ fdN, x.cps.size < 100 := by decide +kernel
    have smallM : ∀ x ∈ mtN, x.cps.size < 100 := by decide +kernel
    refine { fn := ?_, cl := ?_, fd := rfl, na := ?_, mt := ?_, nmt := fun n f => nmI_ne (by decide) small smallM (by decide +kernel) f n, cinj := ?_, finj := fun f g h => nmI_inj (by decide +kernel) small h, gl := ?_, kp := ?_, flen := ?_, xf := ?_, xg := ?_, xno := ?_, xin := ?_, xs := ?_, xc := ?_, xk := ?_, xb := ?_, blt := ?_, rp := fun _ _ h => h }
    · intro f h
      match f, h with
      | 0, _ => exact ⟨PySem.W.mg_of X G a0, k0⟩
      | 1, _ => exact ⟨PySem.W.mg_of X G a1, k1⟩
      | 2, _ => exact ⟨PySem.W.mg_of X G a2, k2⟩
      | 3, _ => exact ⟨PySem.W.mg_of X G a3, k3⟩
      | 4, _ => exact ⟨PySem.W.mg_of X G a4, k4⟩
      | 5, _ => exact ⟨PySem.W.mg_of X G a5, k5⟩
      | 6, _ => exact ⟨PySem.W.mg_of X G a6, k6⟩
      | 7, _ => exact ⟨PySem.W.mg_of X G a7, k7⟩
      | 8, _ => exact ⟨PySem.W.mg_of X G a8, k8⟩
      | 9, _ => exact ⟨PySem.W.mg_of X G a9, k9⟩
      | 10, _ => exact ⟨PySem.W.mg_of X G a10, k10⟩
      | 11, _ => exact ⟨PySem.W.mg_of X G a11, k11⟩
      | _ + 12, h => exact absurd rfl h
    · intro c k h
      match c, h with
      | _ + 0, h => cases h
    · intro c k f h hf
      exact absurd h (by simp [T, PG, clT])
    · intro c k n f h h2
      exact absurd h (by simp [T, PG, clT])
    · intro c d h h2 e
      exact absurd h (by simp [T, PG, clT])
    · intro g d h
      show GlOk T nmL g d
      match g, h with
      | _ + 0, h => cases h
    · intro f h
      match f, h with
      | 0, _ => exact k0
      | 1, _ => exact k1
      | 2, _ => exact k2
      | 3, _ => exact k3
      | 4, _ => exact k4
      | 5, _ => exact k5
      | 6, _ => exact k6
      | 7, _ => exact k7
      | 8, _ => exact k8
      | 9, _ => exact k9
      | 10, _ => exact k10
      | 11, _ => exact k11
      | _ + 12, h => cases h
    · intro c k h
      match c, h with
      | _ + 0, h => cases h
    · intro c f h
      match c, h with
      | _ + 0, h => cases h
    · intro c h
      match c, h with
      | _ + 0, h => exact absurd rfl h
    · intro c h h2
      match c, h, h2 with
      | _ + 0, _, h => cases h
    · intro c f h h2
      match c, h, h2 with
      | _ + 0, _, h => cases h
    · intro c k h h2
      match c, k, h, h2 with
      | _ + 0, _, h, _ => cases h
    · intro c h
      match c, h with
      | _ + 0, h => cases h
    · intro c k h h2
      match c, k, h, h2 with
      | _ + 0, _, h, _ => cases h
    · intro c h
      match c, h with
      | _ + 0, h => cases h
    · exact forall_cons (PySem.W.mg_none_of X G b0) (forall_cons (PySem.W.mg_none_of X G b1) (forall_cons (PySem.W.mg_none_of X G b2) (forall_cons (PySem.W.mg_none_of X G b3) (forall_cons (PySem.W.mg_none_of X G b4) (forall_cons (PySem.W.mg_none_of X G b5) (forall_cons (PySem.W.mg_none_of X G b6) (forall_cons (PySem.W.mg_none_of X G b7) (forall_cons (PySem.W.mg_none_of X G b8) (forall_cons (PySem.W.mg_none_of X G b9) (forall_cons (PySem.W.mg_none_of X G b10) (forall_cons (PySem.W.mg_none_of X G b11) (forall_cons (PySem.W.mg_none_of X G b12) (forall_cons (PySem.W.mg_none_of X G b13) (forall_cons (PySem.W.mg_none_of X G b14) (forall_cons (PySem.W.mg_none_of X G b15) (forall_cons (PySem.W.mg_none_of X G b16) (forall_cons (PySem.W.mg_none_of X G b17) (forall_cons (PySem.W.mg_none_of X G b18) (forall_cons (PySem.W.mg_none_of X G b19) (forall_cons (PySem.W.mg_none_of X G b20) (forall_cons (PySem.W.mg_none_of X G b21) (forall_nil))))))))))))))))))))))
  · intro f F h
    match f, h with
    | 0, h => cases h; exact fnF0 (st := st_is_overlap) l0 c0 N_is_overlap ps_is_overlap sc_is_overlap rfl rfl rfl (fun _ _ _ _ _ _ us hl => match us, hl with | [_, _], _ => rfl) m_is_overlap
    | 1, h => cases h; exact fnF0 (st := st_parts_of) l1 c1 N_parts_of ps_parts_of sc_parts_of rfl rfl rfl (fun _ _ _ _ _ _ us hl => match us, hl with | [_], _ => rfl) m_parts_of
    | 2, h => cases h; exact fnF0 (st := st__law_next) l2 c2 N__law_next ps__law_next sc__law_next rfl rfl rfl (fun _ _ _ _ _ _ us hl => match us, hl with | [_, _], _ => rfl) m__law_next
    | 3, h => cases h; exact fnF0 (st := st__law_begun) l3 c3 N__law_begun ps__law_begun sc__law_begun rfl rfl rfl (fun _ _ _ _ _ _ us hl => match us, hl with | [_], _ => rfl) m__law_begun
    | 4, h => cases h; exact fnF0 (st := st__law_overlap) l4 c4 N__law_overlap ps__law_overlap sc__law_overlap rfl rfl rfl (fun _ _ _ _ _ _ us hl => match us, hl with | [_, _], _ => rfl) m__law_overlap
    | 5, h => cases h; exact fnF0 (st := st__law_fitting) l5 c5 N__law_fitting ps__law_fitting sc__law_fitting rfl rfl rfl (fun _ _ _ _ _ _ us hl => match us, hl with | [_, _], _ => rfl) m__law_fitting
    | 6, h => cases h; exact fnF0 (st := st__law_good) l6 c6 N__law_good ps__law_good sc__law_good rfl rfl rfl (fun _ _ _ _ _ _ us hl => match us, hl with | [_], _ => rfl) m__law_good
    | 7, h => cases h; exact fnF0 (st := st__law_come_to) l7 c7 N__law_come_to ps__law_come_to sc__law_come_to rfl rfl rfl (fun _ _ _ _ _ _ us hl => match us, hl with | [_, _], _ => rfl) m__law_come_to
    | 8, h => cases h; exact fnF0 (st := st__law_beats_right) l8 c8 N__law_beats_right ps__law_beats_right sc__law_beats_right rfl rfl rfl (fun _ _ _ _ _ _ us hl => match us, hl with | [_], _ => rfl) m__law_beats_right
    | 9, h => cases h; exact fnF0 (st := st__law_parts_right) l9 c9 N__law_parts_right ps__law_parts_right sc__law_parts_right rfl rfl rfl (fun _ _ _ _ _ _ us hl => match us, hl with | [_], _ => rfl) m__law_parts_right
    | 10, h => cases h; exact fnF0 (st := st__law_step) l10 c10 N__law_step ps__law_step sc__law_step rfl rfl rfl (fun _ _ _ _ _ _ us hl => match us, hl with | [_], _ => rfl) m__law_step
    | 11, h => cases h; exact fnF0 (st := st_law) l11 c11 N_law ps_law sc_law rfl rfl rfl (fun _ _ _ _ _ _ us hl => match us, hl with | [_], _ => rfl) m_law
    | _ + 12, h => cases h
end CT.L
open PySem PySem.W PyProof.Rows
set_option maxRecDepth 100000 in
set_option maxHeartbeats 0 in
theorem PySem.Challenge.cw_choirtrue_k11_overlaps_and_parts_holds : PySem.Challenge.rw_choirtrue_k11_overlaps_and_parts.Holds := by
  w_on; o_law; k_head; (case hw => w_witness2)
  k_fill
  refine CT.ct_walk (l := PySem.Challenge.rw_choirtrue_k11_overlaps_and_parts) (Pg0 := CT.L.PG CT.rpD) (lf := CT.L.lawId) (k := 14) rfl (by decide) rfl ?hr (fun w h Y => PySem.W.kIn_of Y) ?F ?law
  case hr => exact ⟨rfl, by decide, by decide⟩
  case law => exact fun ns hl => CT.L.law_true CT.rpD CT.rpD_ok ns hl
  case F =>
    intro w mg fa h KX G hmg base KB GB
    refine' CT.L.all_mk KX G hmg ?ct_a0 ?ct_l0 ?ct_c0 ?ct_k0 ?ct_a1 ?ct_l1 ?ct_c1 ?ct_k1 ?ct_a2 ?ct_l2 ?ct_c2 ?ct_k2 ?ct_a3 ?ct_l3 ?ct_c3 ?ct_k3 ?ct_a4 ?ct_l4 ?ct_c4 ?ct_k4 ?ct_a5 ?ct_l5 ?ct_c5 ?ct_k5 ?ct_a6 ?ct_l6 ?ct_c6 ?ct_k6 ?ct_a7 ?ct_l7 ?ct_c7 ?ct_k7 ?ct_a8 ?ct_l8 ?ct_c8 ?ct_k8 ?ct_a9 ?ct_l9 ?ct_c9 ?ct_k9 ?ct_a10 ?ct_l10 ?ct_c10 ?ct_k10 ?ct_a11 ?ct_l11 ?ct_c11 ?ct_k11 ?ct_b0 ?ct_b1 ?ct_b2 ?ct_b3 ?ct_b4 ?ct_b5 ?ct_b6 ?ct_b7 ?ct_b8 ?ct_b9 ?ct_b10 ?ct_b11 ?ct_b12 ?ct_b13 ?ct_b14 ?ct_b15 ?ct_b16 ?ct_b17 ?ct_b18 ?ct_b19 ?ct_b20 ?ct_b21 base
    (case ct_a0 => k_is)
    (case ct_l0 => k_is)
    (case ct_c0 => k_is)
    (case ct_k0 => k_is)
    (case ct_a1 => k_is)
    (case ct_l1 => k_is)
    (case ct_c1 => k_is)
    (case ct_k1 => k_is)
    (case ct_a2 => k_is)
    (case ct_l2 => k_is)
    (case ct_c2 => k_is)
    (case ct_k2 => k_is)
    (case ct_a3 => k_is)
    (case ct_l3 => k_is)
    (case ct_c3 => k_is)
    (case ct_k3 => k_is)
    (case ct_a4 => k_is)
    (case ct_l4 => k_is)
    (case ct_c4 => k_is)
    (case ct_k4 => k_is)
    (case ct_a5 => k_is)
    (case ct_l5 => k_is)
    (case ct_c5 => k_is)
    (case ct_k5 => k_is)
    (case ct_a6 => k_is)
    (case ct_l6 => k_is)
    (case ct_c6 => k_is)
    (case ct_k6 => k_is)
    (case ct_a7 => k_is)
    (case ct_l7 => k_is)
    (case ct_c7 => k_is)
    (case ct_k7 => k_is)
    (case ct_a8 => k_is)
    (case ct_l8 => k_is)
    (case ct_c8 => k_is)
    (case ct_k8 => k_is)
    (case ct_a9 => k_is)
    (case ct_l9 => k_is)
    (case ct_c9 => k_is)
    (case ct_k9 => k_is)
    (case ct_a10 => k_is)
    (case ct_l10 => k_is)
    (case ct_c10 => k_is)
    (case ct_k10 => k_is)
    (case ct_a11 => k_is)
    (case ct_l11 => k_is)
    (case ct_c11 => k_is)
    (case ct_k11 => k_is)
    (case ct_b0 => k_is)
    (case ct_b1 => k_is)
    (case ct_b2 => k_is)
    (case ct_b3 => k_is)
    (case ct_b4 => k_is)
    (case ct_b5 => k_is)
    (case ct_b6 => k_is)
    (case ct_b7 => k_is)
    (case ct_b8 => k_is)
    (case ct_b9 => k_is)
    (case ct_b10 => k_is)
    (case ct_b11 => k_is)
    (case ct_b12 => k_is)
    (case ct_b13 => k_is)
    (case ct_b14 => k_is)
    (case ct_b15 => k_is)
    (case ct_b16 => k_is)
    (case ct_b17 => k_is)
    (case ct_b18 => k_is)
    (case ct_b19 => k_is)
    (case ct_b20 => k_is)
    (case ct_b21 => k_is)
