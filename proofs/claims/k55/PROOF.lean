import PyProof.Rows.All
import PySem.PyData
import HandS.Ends
import HandS.Head0
import HandS.Head1
import HandS.Head2
import HandS.HeadEnd
import HandS.HeadHook1
import HandS.HeadHook2
import HandS.Words
import HandS.ForMost
import HandS.ForExc
import HandS.Wide
import HandS.Style
import HandS.List
import HandS.TupAny
import HandS.TupMul
import PyProof.Rows.IntBool
import KE.DataEq
import KE.DataCmp
import KE.DataMinMax
import KE.SortData
import KE.DataFind
import HandS.Flow
import HandS.TryMany
import HandS.Small
import HandS.ExcIs
import HandS.IsInst
import HandS.CallLocal
import HandS.Defaults
import HandS.Iter
import HandS.Zip
import KE.GoesEnum
import HandS.NoneIn
import HandS.Rev
import KE.GoesComp
import HandS.WordsDict
import HandS.More
import HandS.Conv
import HandS.TupSets
import PyProof.AutoSeq1
import PyProof.ExcBaseAll.ValueError
import PySem.Challenge.RW_tableroads_k55_ways_and_pairs_refused
set_option autoImplicit false
set_option linter.all false
/-! The small language: terms, values, store, what a run gives. -/
namespace TR
open PySem (Str PyData)
inductive D where
  | non | bl (b : Bool) | int (i : Int) | str (x : Str) | tup (ds : List D) | rol (ds : List D) | ref (n : Nat) | fn (f : Nat) | gd (n : Nat) | ex (c : Nat)
  deriving Inhabited
inductive Cell where
  | lst (xs : List D) | dct (kvs : List (D × D)) | ins (c : Nat) (fs : List (Nat × D))
structure Sto where
  next : Nat
  log : List (Nat × Cell)
def look (a : Nat) : List (Nat × Cell) → Option Cell
  | [] => none
  | (b, c) :: r => cond (Nat.beq b a) (some c) (look a r)
def Sto.get (s : Sto) (a : Nat) : Option Cell := look a s.log
def Sto.put (s : Sto) (a : Nat) (c : Cell) : Sto := ⟨s.next, (a, c) :: s.log⟩
def Sto.new (s : Sto) (c : Cell) : Sto := ⟨s.next + 1, (s.next, c) :: s.log⟩
structure Er where
  cls : Nat
  args : List D
inductive R (α : Type) where
  | ok (a : α) (s : Sto) | ex (e : Er) (s : Sto) | bad
abbrev Fr := List (Option D)
inductive O where
  | nx (f : Fr) (s : Sto) | rt (d : D) (s : Sto) | bk (f : Fr) (s : Sto) | ct (f : Fr) (s : Sto) | ex (e : Er) (f : Fr) (s : Sto) | bad
section
variable {α β : Type}
def R.bind (r : R α) (k : α → Sto → R β) : R β := match r with
  | .ok a s => k a s
  | .ex e s => .ex e s
  | .bad => .bad
/-- what may raise nothing -/
def R.nox (r : R α) : R α := match r with
  | .ex _ _ => .bad
  | r => r
def R.ofO (o : Option α) (s : Sto) : R α := match o with
  | some a => .ok a s
  | none => .bad
end
/-! ### terms -/
inductive Kc where
  | non | bl (b : Bool) | int (i : Int) | str (x : Str)
  deriving DecidableEq
inductive Op2 where
  | add | sub | mul | fdiv | mod | pow
  deriving DecidableEq
inductive Cm where
  | eq | ne | lt | le | gt | ge | isIn | notIn
  deriving DecidableEq
/-- built-ins that take a row of things -/
inductive B1 where
  | tuple | all | any | sum | sorted | max | min | len | sortedSet | lenSet | dict | list
  deriving DecidableEq
/-- built-ins of one or two plain arguments -/
inductive Bi where
  | abs | int | str | max2 | min2
  deriving DecidableEq
inductive Ty where
  | int | bool | str | list | tuple
  deriving DecidableEq
/-- methods of lists, dicts, texts -/
inductive Mt where
  | append | extend | pop | index | count | insert | get | items | popd | setdefault | split | join
  deriving DecidableEq
mutual
inductive E where
  | v (i : Nat) | c (k : Kc) | g (n : Nat) | gdr (n : Nat) | f (n : Nat)
  | tup (es : List E) | lst (es : List E)
  | op (o : Op2) (a b : E) | neg (a : E) | not (a : E) | and (a b : E) | or (a b : E)
  | cmp (o : Cm) (a b : E) | chain (o p : Cm) (a b c : E) | isN (a : E) | isNN (a : E)
  | ite (c a b : E) | ix (a i : E) | sl (a : E) (lo hi : Option E) | rev (a : E)
  | call (f : Nat) (perm : List Nat) (es : List E) | calv (x : Nat) (es : List E)
  | b1 (b : B1) (a : E) | bq (b : B1) (q : Sq) | dic (es : List E) | bi (b : Bi) (es : List E) | isa (ts : List Ty) (a : E) | isv (a : E)
  | mt (m : Mt) (o : E) (es : List E) | at (o : E) (f : Nat) | new (c : Nat) (es : List E) | own (o : E) (c m : Nat) (es : List E)
  | comp (q : Sq)
  /-- what no run comes to -/
  | no
/-- a row of things: what a built-in goes through, or a comprehension makes -/
inductive Sq where
  | comp (x : E) (t : Tg) (w : List Nat) (i : It) (cs : List E) | comp2 (x : E) (t : Tg) (w : List Nat) (i : It) (t2 : Tg) (w2 : List Nat) (i2 : It) (cs : List E) | it (i : It)
  | compR (x : E) (t : Tg) (w : List Nat) (i : It) (cs : List E)
/-- what a loop goes through -/
inductive It where
  | seq (a : E) | rng (es : List E) | enum (a : E) | zip (a b : E) | rvs (a : E) | items (a : E)
inductive Tg where
  | n (i : Nat) | t (ts : List Tg) | a (o : E) (f : Nat) | s (o i : E)
end
inductive S where
  | asg (t : Tg) (e : E) | par (ts : List Tg) (es : List E) | aug (o : Op2) (i : Nat) (e : E) | augs (o : Op2) (a i e : E)
  | ex (e : E) | ite (c : E) (a b : List S) | wh (c : E) (b : List S) | fr (t : Tg) (i : It) (b : List S)
  | ret (e : E) | retN | rai (c : Nat) (es : List E) | tr (b : List S) (hs : List (Nat × Option Nat × List S)) | pass | brk | cont
  /-- what no run comes to -/
  | no
structure FnC where
  np : Nat
  nl : Nat
  body : List S
end TR
set_option autoImplicit false
set_option linter.all false
/-! What a term of the small language does. -/
namespace TR
open PySem (Str PyData)
def SZ : Nat := 16777216
/-! ### data -/
mutual
def pure1 : D → Bool
  | .ref _ => false
  | .tup ds => pureL ds
  | .rol ds => pureL ds
  | _ => true
def pureL : List D → Bool
  | [] => true
  | d :: ds => pure1 d && pureL ds
end
mutual
def beqD : D → D → Bool
  | .non, .non => true
  | .bl a, .bl b => a == b
  | .int a, .int b => a == b
  | .str a, .str b => a == b
  | .tup a, .tup b => beqL a b
  | .rol a, .rol b => beqL a b
  | .ref a, .ref b => a == b
  | .fn a, .fn b => a == b
  | .gd a, .gd b => a == b
  | .ex a, .ex b => a == b
  | _, _ => false
def beqL : List D → List D → Bool
  | [], [] => true
  | a :: as, b :: bs => beqD a b && beqL as bs
  | _, _ => false
end
mutual
/-- equal as Python says, for data without dicts -/
def eqP : PyData → PyData → Bool
  | .none, .none => true
  | .bool a, .bool b => a == b
  | .int a, .int b => a == b
  | .bool a, .int b => (if a = true then 1 else 0) == b
  | .int a, .bool b => a == (if b = true then 1 else 0)
  | .str a, .str b => a == b
  | .list a, .list b => eqPs a b
  | .tuple a, .tuple b => eqPs a b
  | _, _ => false
def eqPs : List PyData → List PyData → Bool
  | [], [] => true
  | a :: as, b :: bs => eqP a b && eqPs as bs
  | _, _ => false
end
mutual
/-- comparable place by place -/
def alk : PyData → PyData → Bool
  | .none, .none => true
  | .bool _, .bool _ => true
  | .int _, .int _ => true
  | .str _, .str _ => true
  | .list a, .list b => alks a b
  | .tuple a, .tuple b => alks a b
  | _, _ => false
def alks : List PyData → List PyData → Bool
  | a :: as, b :: bs => alk a b && alks as bs
  | _, _ => true
end
def ltCps : List Nat → List Nat → Bool
  | [], [] => false
  | [], _ :: _ => true
  | _ :: _, [] => false
  | a :: as, b :: bs => cond (Nat.blt a b) true (cond (Nat.beq a b) (ltCps as bs) false)
mutual
/-- less, for comparable data -/
def ltP : PyData → PyData → Bool
  | .bool a, .bool b => !a && b
  | .int a, .int b => decide (a < b)
  | .str a, .str b => ltCps a.cps.toList b.cps.toList
  | .list a, .list b => ltPs a b
  | .tuple a, .tuple b => ltPs a b
  | _, _ => false
def ltPs : List PyData → List PyData → Bool
  | [], [] => false
  | [], _ :: _ => true
  | _ :: _, [] => false
  | a :: as, b :: bs => cond (eqP a b) (ltPs as bs) (ltP a b)
end
def mapO {α β : Type} (f : α → Option β) : List α → Option (List β)
  | [] => some []
  | a :: as => match f a with
    | some b => match mapO f as with
      | some bs => some (b :: bs)
      | none => none
    | none => none
/-- what a thing reads as -/
def rd : Nat → Sto → D → Option PyData
  | 0, _, _ => none
  | n + 1, s, d => match d with
    | .non => some .none
    | .bl b => some (.bool b)
    | .int i => some (.int i)
    | .str x => some (.str x)
    | .tup ds => (mapO (rd n s) ds).map .tuple
    | .rol ds => (mapO (rd n s) ds).map .list
    | .ref a => match s.get a with
      | some (.lst xs) => (mapO (rd n s) xs).map .list
      | _ => none
    | _ => none
def RDN : Nat := 40
def s0 : Sto := ⟨0, []⟩
/-- a key of a dict -/
def key (d : D) : Option PyData := match d with
  | .int i => some (.int i)
  | .str x => some (.str x)
  | _ => none
def numv : D → Option Int
  | .int i => some i
  | .bl b => some (if b = true then 1 else 0)
  | _ => none
def eqD (s : Sto) (x y : D) : Option Bool := match rd RDN s x with
  | some a => match rd RDN s y with
    | some b => some (eqP a b)
    | none => none
  | none => none
def notNone : PyData → Bool
  | .none => false
  | _ => true
def ltD (s : Sto) (x y : D) : Option Bool := match rd RDN s x with
  | some a => match rd RDN s y with
    | some b => cond (alk a b && notNone a) (some (ltP a b)) none
    | none => none
  | none => none
def rowP (s : Sto) (ds : List D) : Option (List PyData) := mapO (rd RDN s) ds
def hasP (p : PyData) : List PyData → Bool
  | [] => false
  | q :: r => eqP q p || hasP p r
def findP (p : PyData) : Nat → List PyData → Option Nat
  | _, [] => none
  | i, q :: r => cond (eqP q p) (some i) (findP p (i + 1) r)
def countP (p : PyData) : List PyData → Nat
  | [] => 0
  | q :: r => cond (eqP q p) (countP p r + 1) (countP p r)
def hasD (s : Sto) (x : D) (ds : List D) : Option Bool := match rowP s ds with
  | some ps => match rd RDN s x with
    | some p => some (hasP p ps)
    | none => none
  | none => none
def findD (s : Sto) (x : D) (ds : List D) : Option Nat := match rowP s ds with
  | some ps => match rd RDN s x with
    | some p => findP p 0 ps
    | none => none
  | none => none
def countD (s : Sto) (x : D) (ds : List D) : Option Nat := match rowP s ds with
  | some ps => match rd RDN s x with
    | some p => some (countP p ps)
    | none => none
  | none => none
def insP (a : D × PyData) : List (D × PyData) → List (D × PyData)
  | [] => [a]
  | b :: r => cond (ltP b.2 a.2) (b :: insP a r) (a :: b :: r)
def sortP : List (D × PyData) → List (D × PyData)
  | [] => []
  | a :: r => insP a (sortP r)
def withP (s : Sto) (ds : List D) : Option (List (D × PyData)) := mapO (fun d => (rd RDN s d).map fun p => (d, p)) ds
def alkAll : List (D × PyData) → Bool
  | [] => true
  | a :: r => alk a.2 a.2 && notNone a.2 && r.all (fun b => alk a.2 b.2) && alkAll r
def sOk1 : List (D × PyData) → Bool
  | [] => true
  | a :: r => (match a.2 with
    | .tuple (_ :: _) => true
    | _ => false) && sOk1 r
def sOk2 : List (D × PyData) → Bool
  | [] => true
  | a :: r => (match a.2 with
    | .tuple _ => false
    | .none => false
    | _ => true) && sOk2 r
def sortD (s : Sto) (ds : List D) : Option (List D) := match withP s ds with
  | some ps => cond (alkAll ps && (sOk1 ps || sOk2 ps)) (some ((sortP ps).map (·.1))) none
  | none => none
def minP (a : D × PyData) : List (D × PyData) → D × PyData
  | [] => a
  | b :: r => cond (ltP b.2 a.2) (minP b r) (minP a r)
def maxP (a : D × PyData) : List (D × PyData) → D × PyData
  | [] => a
  | b :: r => cond (ltP a.2 b.2) (maxP b r) (maxP a r)
def mmD (mx : Bool) (s : Sto) (ds : List D) : Option D := match withP s ds with
  | some (a :: r) => cond (alkAll (a :: r)) (some (cond mx (maxP a r) (minP a r)).1) none
  | _ => none
def sumD : Int → List D → Option Int
  | a, [] => some a
  | a, d :: ds => match numv d with
    | some i => sumD (a + i) ds
    | none => none
def intsD : List D → Option (List Int)
  | [] => some []
  | .int i :: ds => (intsD ds).map (i :: ·)
  | _ => none
/-- the ints first met -/
def metI : List Int → List Int → List Int
  | acc, [] => acc
  | acc, n :: r => metI (cond (acc.any (· == n)) acc (acc ++ [n])) r
def lenSetD (ds : List D) : Option Nat := match intsD ds with
  | some ns => cond (Nat.ble ns.length 4000) (some (metI [] ns).length) none
  | none => none
/-- sets of tuples of ints, sorted -/
def codI : List Int → Int
  | [] => 0
  | n :: r => n * 4096 ^ r.length + codI r
def insC (k : List Int) : List (List Int) → List (List Int)
  | [] => [k]
  | b :: r => cond (decide (codI k < codI b)) (k :: b :: r) (cond (codI k == codI b) (b :: r) (b :: insC k r))
def srtC : List (List Int) → List (List Int)
  | [] => []
  | a :: r => insC a (srtC r)
def incC : List (List Int) → Bool
  | [] => true
  | a :: r => r.all (fun b => decide (codI a < codI b)) && incC r
def tupI : D → Option (List Int)
  | .tup ds => intsD ds
  | _ => none
def lenC : List (List Int) → Nat
  | [] => 1
  | k :: _ => k.length
def okC (ks r : List (List Int)) : Bool := Nat.blt ks.length 64 && Nat.blt 0 (lenC ks) && ks.all (fun n => Nat.beq n.length (lenC ks) && n.all fun m => decide (0 ≤ m) && decide (m < 4096)) && incC r && r.all (fun n => ks.any (· == n)) && ks.all (fun n => r.any (· == n))
def sortSetD (ds : List D) : Option (List D) := match mapO tupI ds with
  | some ks => cond (okC ks (srtC ks)) (some ((srtC ks).map fun n => D.tup (n.map D.int))) none
  | none => none
def blsD : List D → Option (List Bool)
  | [] => some []
  | .bl i :: ds => (blsD ds).map (i :: ·)
  | _ => none
def maxI : Int → List Int → Int
  | a, [] => a
  | a, b :: r => maxI (if a < b then b else a) r
def minI : Int → List Int → Int
  | a, [] => a
  | a, b :: r => minI (if b < a then b else a) r
def allD (b : Bool) : List D → Option Bool
  | [] => some true
  | .bl c :: ds => match allD b ds with
    | some r => some (cond (c == b) r false)
    | none => none
  | _ => none
def keyEq (a : PyData) (d : D) : Bool := match key d with
  | some b => eqP b a
  | none => false
def dget (a : PyData) : List (D × D) → Option D
  | [] => none
  | (k, v) :: r => cond (keyEq a k) (some v) (dget a r)
def dhas (a : PyData) : List (D × D) → Bool
  | [] => false
  | (k, _) :: r => keyEq a k || dhas a r
def dset (a : PyData) (v : D) : List (D × D) → List (D × D)
  | [] => []
  | (k, w) :: r => (k, cond (keyEq a k) v w) :: dset a v r
def dput (a : PyData) (k v : D) (l : List (D × D)) : List (D × D) := cond (dhas a l) (dset a v l) (l ++ [(k, v)])
def ddel (a : PyData) : List (D × D) → List (D × D)
  | [] => []
  | (k, v) :: r => cond (keyEq a k) (ddel a r) ((k, v) :: ddel a r)
def dictOf : List (D × D) → List D → Option (List (D × D))
  | acc, [] => some acc
  | acc, .tup [k, v] :: r => match key k with
    | some a => dictOf (dput a k v acc) r
    | none => none
  | _, _ => none
def fget (f : Nat) : List (Nat × D) → Option D
  | [] => none
  | (g, v) :: r => cond (Nat.beq g f) (some v) (fget f r)
def fput (f : Nat) (v : D) : List (Nat × D) → List (Nat × D)
  | [] => [(f, v)]
  | (g, w) :: r => cond (Nat.beq g f) ((g, v) :: r) ((g, w) :: fput f v r)
/-- the row that a thing is: a tuple's, a list's -/
def rowOf (s : Sto) : D → Option (List D)
  | .tup ds => some ds
  | .rol ds => some ds
  | .ref a => match s.get a with
    | some (.lst xs) => some xs
    | _ => none
  | _ => none
/-- place i of so many, from behind if below 0 -/
def plc (n : Nat) (i : Int) : Option Nat := if 0 ≤ i then (if i < n then some i.toNat else none) else (if -(n : Int) ≤ i then some (i + n).toNat else none)
def clp (n : Nat) (i : Int) : Nat := if 0 ≤ i then min i.toNat n else (i + n).toNat
def cut (xs : List D) (lo hi : Option Int) : List D :=
  let a := match lo with
    | some i => clp xs.length i
    | none => 0
  let b := match hi with
    | some i => clp xs.length i
    | none => xs.length
  (xs.take b).drop a
def rep (n : Nat) (xs : List D) : List D := match n with
  | 0 => []
  | n + 1 => xs ++ rep n xs
/-! ### operators -/
def mulOk (a b : Int) : Bool := Nat.blt a.natAbs 18446744073709551616 || Nat.blt b.natAbs 18446744073709551616 || Nat.blt (a.natAbs.log2 + b.natAbs.log2) 1000000
def divOk (b : Int) : Bool := !(b == 0) && Nat.blt b.natAbs.log2 9000
def opI (o : Op2) (a b : Int) (s : Sto) : R D := match o with
  | .add => .ok (.int (a + b)) s
  | .sub => .ok (.int (a - b)) s
  | .mul => cond (mulOk a b) (.ok (.int (a * b)) s) .bad
  | .fdiv => cond (divOk b) (.ok (.int (a.fdiv b)) s) .bad
  | .mod => cond (!(b == 0)) (.ok (.int (a.fmod b)) s) .bad
  | .pow => cond (decide (0 ≤ b) && decide (b ≤ 1000) && Nat.blt a.natAbs 1000000) (.ok (.int (a ^ b.toNat)) s) .bad
def catOk (a b : List D) : Bool := Nat.ble (a.length + b.length) SZ
def repOk (a : List D) (n : Int) : Bool := decide (-4611686018427387904 < n) && decide (n ≤ 1000000) && Nat.ble (a.length * n.toNat) 1000000
def b2 (b : Bool) : Int := if b = true then 1 else 0
def opD (o : Op2) (x y : D) (s : Sto) : R D := match o, x, y with
  | o, .int a, .int b => opI o a b s
  | .add, .tup a, .tup b => cond (catOk a b) (.ok (.tup (a ++ b)) s) .bad
  | .add, .str a, .str b => cond (Nat.ble (a.cps.size + b.cps.size) SZ) (.ok (.str ⟨a.cps ++ b.cps⟩) s) .bad
  | .add, .ref a, .ref b => match s.get a, s.get b with
    | some (.lst xs), some (.lst ys) => cond (catOk xs ys) (.ok (.ref s.next) (s.new (.lst (xs ++ ys)))) .bad
    | _, _ => .bad
  | .mul, .tup a, .int n => cond (repOk a n) (.ok (.tup (rep n.toNat a)) s) .bad
  | .mul, .ref a, .int n => match s.get a with
    | some (.lst xs) => cond (repOk xs n) (.ok (.ref s.next) (s.new (.lst (rep n.toNat xs)))) .bad
    | _ => .bad
  | .add, .int a, .bl b => .ok (.int (a + b2 b)) s
  | .sub, .int a, .bl b => .ok (.int (a - b2 b)) s
  | .mul, .int a, .bl b => .ok (.int (a * b2 b)) s
  | .add, .bl a, .int b => .ok (.int (b2 a + b)) s
  | .sub, .bl a, .int b => .ok (.int (b2 a - b)) s
  | .mul, .bl a, .int b => .ok (.int (b2 a * b)) s
  | _, _, _ => .bad
/-- in place: numbers alone -/
def augD (o : Op2) (x y : D) (s : Sto) : R D := match x with
  | .int a => match y with
    | .int b => opI o a b s
    | _ => .bad
  | _ => .bad
def inD (s : Sto) (gdc : Nat → List (D × D)) (x c : D) : Option Bool := match c with
  | .tup ds => hasD s x ds
  | .rol ds => hasD s x ds
  | .ref a => match s.get a with
    | some (.lst ds) => hasD s x ds
    | _ => none
  | _ => none
def cmI (o : Cm) (a b : Int) : Bool := match o with
  | .lt => decide (a < b)
  | .le => decide (a ≤ b)
  | .gt => decide (b < a)
  | .ge => decide (b ≤ a)
  | .eq => a == b
  | .ne => !(a == b)
  | _ => false
def cmD (gdc : Nat → List (D × D)) (o : Cm) (x y : D) (s : Sto) : R D := match o, x, y with
  | .isIn, x, y => (R.ofO (inD s gdc x y) s).bind fun b s => .ok (.bl b) s
  | .notIn, x, y => (R.ofO (inD s gdc x y) s).bind fun b s => .ok (.bl (!b)) s
  | o, .int a, .int b => .ok (.bl (cmI o a b)) s
  | .eq, x, y => (R.ofO (eqD s x y) s).bind fun b s => .ok (.bl b) s
  | .ne, x, y => (R.ofO (eqD s x y) s).bind fun b s => .ok (.bl (!b)) s
  | .lt, x, y => (R.ofO (ltD s x y) s).bind fun b s => .ok (.bl b) s
  | .gt, x, y => (R.ofO (ltD s y x) s).bind fun b s => .ok (.bl b) s
  | .le, x, y => (R.ofO (ltD s y x) s).bind fun b s => .ok (.bl (!b)) s
  | .ge, x, y => (R.ofO (ltD s x y) s).bind fun b s => .ok (.bl (!b)) s
def isNone : D → Bool
  | .non => true
  | _ => false
def isaD (s : Sto) : Ty → D → Option Bool
  | t, .non => some false
  | t, .bl _ => some (t == .int || t == .bool)
  | t, .int _ => some (t == .int)
  | t, .str _ => some (t == .str)
  | t, .tup _ => some (t == .tuple)
  | t, .rol _ => some (t == .list)
  | t, .ref a => match s.get a with
    | some (.lst _) => some (t == .list)
    | some (.dct _) => some false
    | _ => none
  | _, _ => none
def isaAny (s : Sto) : List Ty → D → Option Bool
  | [], _ => some false
  | t :: ts, d => match isaD s t d with
    | some true => some true
    | some false => isaAny s ts d
    | none => none
def ixD (gdc : Nat → List (D × D)) (x i : D) (s : Sto) : R D := match x with
  | .gd n => match key i with
    | some a => R.ofO (dget a (gdc n)) s
    | none => .bad
  | .tup ds => match i with
    | .int k => match plc ds.length k with
      | some j => R.ofO ds[j]? s
      | none => .bad
    | _ => .bad
  | .rol ds => match i with
    | .int k => match plc ds.length k with
      | some j => R.ofO ds[j]? s
      | none => .bad
    | _ => .bad
  | .ref a => match s.get a with
    | some (.lst ds) => match i with
      | .int k => match plc ds.length k with
        | some j => R.ofO ds[j]? s
        | none => .bad
      | _ => .bad
    | some (.dct kvs) => match key i with
      | some a => R.ofO (dget a kvs) s
      | none => .bad
    | _ => .bad
  | _ => .bad
def slD (x : D) (lo hi : Option Int) (s : Sto) : R D := match x with
  | .tup ds => .ok (.tup (cut ds lo hi)) s
  | .rol ds => .ok (.ref s.next) (s.new (.lst (cut ds lo hi)))
  | .ref a => match s.get a with
    | some (.lst ds) => .ok (.ref s.next) (s.new (.lst (cut ds lo hi)))
    | _ => .bad
  | _ => .bad
def revD (x : D) (s : Sto) : R D := match x with
  | .tup ds => .ok (.tup ds.reverse) s
  | .rol ds => .ok (.ref s.next) (s.new (.lst ds.reverse))
  | .ref a => match s.get a with
    | some (.lst ds) => .ok (.ref s.next) (s.new (.lst ds.reverse))
    | _ => .bad
  | _ => .bad
/-- xs[i] = v, d[k] = v -/
def stD (o i v : D) (s : Sto) : R Unit := match o with
  | .ref a => match s.get a with
    | some (.lst ds) => match i with
      | .int k => match plc ds.length k with
        | some j => .ok () (s.put a (.lst (ds.set j v)))
        | none => .bad
      | _ => .bad
    | some (.dct kvs) => match key i with
      | some p => cond (Nat.blt kvs.length SZ) (.ok () (s.put a (.dct (dput p i v kvs)))) .bad
      | none => .bad
    | _ => .bad
  | _ => .bad
def b1D (b : B1) (ds : List D) (s : Sto) : R D := match b with
  | .tuple => .ok (.tup ds) s
  | .all => (R.ofO (blsD ds) s).bind fun bs s => .ok (.bl (bs.all id)) s
  | .any => (R.ofO (blsD ds) s).bind fun bs s => .ok (.bl (bs.any id)) s
  | .sum => (R.ofO (intsD ds) s).bind fun is s => .ok (.int is.sum) s
  | .max => (R.ofO (intsD ds) s).bind fun is s => match is with
    | a :: r => .ok (.int (maxI a r)) s
    | [] => .bad
  | .min => (R.ofO (intsD ds) s).bind fun is s => match is with
    | a :: r => .ok (.int (minI a r)) s
    | [] => .bad
  | .sorted => (R.ofO (sortD s ds) s).bind fun xs s => .ok (.ref s.next) (s.new (.lst xs))
  | .len => .ok (.int ds.length) s
  | .sortedSet => (R.ofO (sortSetD ds) s).bind fun xs s => .ok (.ref s.next) (s.new (.lst xs))
  | .lenSet => (R.ofO (lenSetD ds) s).bind fun n s => .ok (.int n) s
  | .dict => (R.ofO (dictOf [] ds) s).bind fun kvs s => .ok (.ref s.next) (s.new (.dct kvs))
  | .list => .ok (.ref s.next) (s.new (.lst ds))
/-- a built-in of one plain thing -/
def b1V (b : B1) (x : D) (s : Sto) : R D := match x with
  | .tup ds => match b with
    | .len => b1D .len ds s
    | .tuple => b1D .tuple ds s
    | .list => b1D .list ds s
    | .max => b1D .max ds s
    | .min => b1D .min ds s
    | _ => .bad
  | .rol ds => b1D b ds s
  | .str x => match b with
    | .len => cond (Nat.ble x.cps.size SZ) (.ok (.int x.cps.size) s) .bad
    | _ => .bad
  | .ref a => match s.get a with
    | some (.lst ds) => b1D b ds s
    | some (.dct kvs) => match b with
      | .len => .ok (.int kvs.length) s
      | .list => .ok (.ref s.next) (s.new (.lst (kvs.map (·.1))))
      | .dict => .ok (.ref s.next) (s.new (.dct kvs))
      | _ => .bad
    | _ => .bad
  | _ => .bad
def pairUp : List D → List D
  | k :: v :: r => .tup [k, v] :: pairUp r
  | _ => []
def biD (b : Bi) (ds : List D) (s : Sto) : R D := match b, ds with
  | .abs, [.int i] => .ok (.int i.natAbs) s
  | .int, [.int i] => .ok (.int i) s
  | .int, [.bl b] => .ok (.int (if b = true then 1 else 0)) s
  | .max2, [.int i, .int j] => .ok (.int (if i < j then j else i)) s
  | .min2, [.int i, .int j] => .ok (.int (if j < i then j else i)) s
  | _, _ => .bad
def rngOk (lo hi : Int) : Bool := decide (-4611686018427387904 ≤ lo) && decide (lo < 4611686018427387904) && decide (-4611686018427387904 ≤ hi) && decide (hi < 4611686018427387904)
/-- 1: a list; 2: a dict; 3: a written dict -/
def kindD (gdc : Nat → List (D × D)) (s : Sto) : D → Nat
  | .gd n => cond (gdc n).isEmpty 0 3
  | .ref a => match s.get a with
    | some (.lst _) => 1
    | some (.dct _) => 2
    | _ => 0
  | _ => 0
def mtK : Nat → Mt → Bool
  | 1, .append => true
  | 1, .extend => true
  | 1, .pop => true
  | 1, .index => true
  | 1, .count => true
  | 2, .get => true
  | 3, .get => true
  | _, _ => false
def mtL (m : Mt) (a : Nat) (ds : List D) (as : List D) (s : Sto) : R D := match m, as with
  | .append, [x] => cond (Nat.blt ds.length SZ) (.ok .non (s.put a (.lst (ds ++ [x])))) .bad
  | .extend, [x] => match rowOf s x with
    | some xs => cond (catOk ds xs) (.ok .non (s.put a (.lst (ds ++ xs)))) .bad
    | none => .bad
  | .pop, [] => match ds.getLast? with
    | some d => .ok d (s.put a (.lst ds.dropLast))
    | none => .bad
  | .pop, [.int k] => cond (rngOk k k) (match plc ds.length k with
    | some j => match ds[j]? with
      | some d => .ok d (s.put a (.lst (ds.eraseIdx j)))
      | none => .bad
    | none => .bad) .bad
  | .index, [x] => (R.ofO (findD s x ds) s).bind fun j s => .ok (.int (j : Nat)) s
  | .count, [x] => (R.ofO (countD s x ds) s).bind fun j s => .ok (.int (j : Nat)) s
  | _, _ => .bad
def mtM (m : Mt) (kvs : List (D × D)) (as : List D) (s : Sto) : R D := match m, as with
  | .get, [k, d] => match key k with
    | some p => .ok ((dget p kvs).getD d) s
    | none => .bad
  | _, _ => .bad
def mtD (gdc : Nat → List (D × D)) (m : Mt) (o : D) (as : List D) (s : Sto) : R D := match o with
  | .gd n => mtM m (gdc n) as s
  | .ref a => match s.get a with
    | some (.lst ds) => mtL m a ds as s
    | some (.dct kvs) => mtM m kvs as s
    | _ => .bad
  | _ => .bad
/-! ### what is gone through -/
inductive Src where
  | fix (ds : List D) | lv (a : Nat) | rv (a n : Nat) | en (s : Src) | zp (s t : Src)
def nxt : Src → Nat → Sto → Option (Option D)
  | .fix ds, i, _ => some ds[i]?
  | .lv a, i, s => match s.get a with
    | some (.lst ds) => some ds[i]?
    | _ => none
  | .rv a n, i, s => match s.get a with
    | some (.lst ds) => cond (Nat.blt i n) (match ds[n - 1 - i]? with
      | some d => some (some d)
      | none => none) (some none)
    | _ => none
  | .en q, i, s => match nxt q i s with
    | some (some d) => some (some (.tup [.int i, d]))
    | some none => some none
    | none => none
  | .zp q r, i, s => match nxt q i s with
    | some u => match nxt r i s with
      | some v => some (match u with
        | some d => (match v with
          | some e => some (.tup [d, e])
          | none => none)
        | none => none)
      | none => none
    | none => none
/-- a source and how many turns at most -/
def srcOf (s : Sto) : D → Option (Src × Nat)
  | .tup ds => some (.fix ds, ds.length)
  | .rol ds => some (.fix ds, ds.length)
  | .ref a => match s.get a with
    | some (.lst _) => some (.lv a, SZ)
    | _ => none
  | _ => none
/-- a list as a source -/
def srcL (s : Sto) : D → Option (Src × Nat)
  | .rol ds => some (.fix ds, ds.length)
  | .ref a => match s.get a with
    | some (.lst _) => some (.lv a, SZ)
    | _ => none
  | _ => none
/-- a list or a tuple, to be numbered -/
def srcE (s : Sto) (x : D) : Option (Src × Nat) := match x with
  | .tup ds => some (.fix ds, ds.length)
  | x => srcL s x
def srcZ (s : Sto) (x y : D) : Option (Src × Nat) := match srcL s x with
  | some p => match srcL s y with
    | some r => some (.zp p.1 r.1, p.2)
    | none => none
  | none => match x with
    | .tup ds => match y with
      | .tup es => some (.zp (.fix ds) (.fix es), ds.length)
      | _ => none
    | _ => none
def srcR (s : Sto) (x : D) : Option (Src × Nat) := match x with
  | .tup ds => some (.fix ds.reverse, ds.reverse.length)
  | .ref a => match s.get a with
    | some (.lst ds) => some (.rv a ds.length, ds.length)
    | _ => none
  | _ => none
def rngD (lo : Int) : Nat → List D
  | 0 => []
  | n + 1 => .int lo :: rngD (lo + 1) n
def rngDn (lo : Int) : Nat → List D
  | 0 => []
  | n + 1 => .int lo :: rngDn (lo - 1) n
def rngOf : List D → Option (List D)
  | [.int n] => cond (rngOk 0 n && Nat.ble n.toNat SZ) (some (rngD 0 n.toNat)) none
  | [.int a, .int b] => cond (rngOk a b && Nat.ble (b - a).toNat SZ) (some (rngD a (b - a).toNat)) none
  | [.int a, .int b, .int c] => cond (c == -1 && rngOk a b && Nat.ble (a - b).toNat SZ) (some (rngDn a (a - b).toNat)) none
  | _ => none
/-- all that a source gives, nothing being changed -/
def allOf (q : Src) (s : Sto) : Nat → Nat → Option (List D)
  | i, m => match nxt q i s with
    | none => none
    | some none => some []
    | some (some d) => match m with
      | 0 => none
      | m + 1 => match allOf q s (i + 1) m with
        | some ds => some (d :: ds)
        | none => none
/-! ### running -/
abbrev WOp := (Fr → Sto → R Bool) → (Fr → Sto → O) → Fr → Sto → O
structure Tab where
  fn : Nat → Option FnC
  con : Nat → D
  gdc : Nat → List (D × D)
  ini : Nat → Nat
  ve : Nat → Bool
structure Sem where
  T : Tab
  call : Nat → List D → Sto → R D
  wh : WOp
def wipe (f : Fr) : List Nat → Fr
  | [] => f
  | w :: ws => (wipe f ws).set w none
def Kc.d : Kc → D
  | .non => .non
  | .bl b => .bl b
  | .int i => .int i
  | .str x => .str x
def truth (s : Sto) : D → Option Bool
  | .bl b => some b
  | .ref a => match s.get a with
    | some (.lst xs) => some (!xs.isEmpty)
    | _ => none
  | _ => none
def tru (r : R D) : R Bool := r.bind fun d s => R.ofO (truth s d) s
def permD (ds : List D) : List Nat → List D
  | [] => []
  | i :: is => (ds[i]?).getD .non :: permD ds is
def permA : List Nat → List D → List D
  | [], ds => ds
  | i :: is, ds => permD ds (i :: is)
def loopC (nx : Nat → Sto → Option (Option D)) (body : D → Sto → R (Option D)) : Nat → Nat → Sto → R (List D)
  | i, m, s => match nx i s with
    | none => .bad
    | some none => .ok [] s
    | some (some d) => match m with
      | 0 => .bad
      | m + 1 => (body d s).bind fun x s1 => (loopC nx body (i + 1) m s1).bind fun xs s2 => .ok (match x with
        | some x => x :: xs
        | none => xs) s2
def loopC2 (nx : Nat → Sto → Option (Option D)) (body : D → Sto → R (List D)) : Nat → Nat → Sto → R (List D)
  | i, m, s => match nx i s with
    | none => .bad
    | some none => .ok [] s
    | some (some d) => match m with
      | 0 => .bad
      | m + 1 => (body d s).bind fun ys s1 => (loopC2 nx body (i + 1) m s1).bind fun xs s2 => .ok (ys ++ xs) s2
def finC (zs : List D) (s : Sto) : R (List D) := cond (Nat.ble zs.length SZ) (.ok zs s) .bad
def loopF (nx : Nat → Sto → Option (Option D)) (body : D → Fr → Sto → O) : Nat → Nat → Fr → Sto → O
  | i, m, f, s => match nx i s with
    | none => .bad
    | some none => .nx f s
    | some (some d) => match m with
      | 0 => .bad
      | m + 1 => match body d f s with
        | .nx f' s' => loopF nx body (i + 1) m f' s'
        | .ct f' s' => loopF nx body (i + 1) m f' s'
        | .bk f' s' => .nx f' s'
        | o => o
mutual
def ev (M : Sem) : E → Fr → Sto → R D
  | .v i, f, s => match f[i]? with
    | some (some d) => .ok d s
    | _ => .bad
  | .c k, _, s => .ok k.d s
  | .g n, _, s => .ok (M.T.con n) s
  | .gdr n, _, s => .ok (.gd n) s
  | .f n, _, s => .ok (.fn n) s
  | .tup es, f, s => (evs M es f s).bind fun ds s => .ok (.tup ds) s
  | .lst es, f, s => (evs M es f s).bind fun ds s => .ok (.ref s.next) (s.new (.lst ds))
  | .op o a b, f, s => (ev M a f s).bind fun x s => (ev M b f s).bind fun y s => opD o x y s
  | .neg a, f, s => (ev M a f s).bind fun x s => match x with
    | .int i => .ok (.int (-i)) s
    | _ => .bad
  | .not a, f, s => (tru (ev M a f s)).bind fun b s => .ok (.bl (!b)) s
  | .and a b, f, s => (ev M a f s).bind fun x s => (R.ofO (truth s x) s).bind fun c s => cond c (ev M b f s) (.ok x s)
  | .or a b, f, s => (ev M a f s).bind fun x s => (R.ofO (truth s x) s).bind fun c s => cond c (.ok x s) (ev M b f s)
  | .cmp o a b, f, s => (ev M a f s).bind fun x s => (ev M b f s).bind fun y s => cmD M.T.gdc o x y s
  | .chain o p a b c, f, s => (ev M a f s).bind fun x s => (ev M b f s).bind fun y s => (tru (cmD M.T.gdc o x y s)).bind fun t s =>
      cond t ((ev M c f s).bind fun z s => cmD M.T.gdc p y z s) (.ok (.bl false) s)
  | .isN a, f, s => (ev M a f s).bind fun x s => .ok (.bl (isNone x)) s
  | .isNN a, f, s => (ev M a f s).bind fun x s => .ok (.bl (!isNone x)) s
  | .ite c a b, f, s => (tru (ev M c f s)).bind fun t s => cond t (ev M a f s) (ev M b f s)
  | .ix a i, f, s => (ev M a f s).bind fun x s => (ev M i f s).bind fun y s => ixD M.T.gdc x y s
  | .sl a lo hi, f, s => (ev M a f s).bind fun x s => (evo M lo f s).bind fun l s => (evo M hi f s).bind fun h s => slD x l h s
  | .rev a, f, s => (ev M a f s).bind fun x s => revD x s
  | .call n p es, f, s => (evs M es f s).bind fun ds s => M.call n (permA p ds) s
  | .calv x es, f, s => match f[x]? with
    | some (some (.fn n)) => (evs M es f s).bind fun ds s => M.call n ds s
    | _ => .bad
  | .b1 b a, f, s => (ev M a f s).bind fun x s => b1V b x s
  | .bq b q, f, s => (evq M q f s).bind fun ds s => b1D b ds s
  | .dic es, f, s => (evs M es f s).bind fun ds s => b1D .dict (pairUp ds) s
  | .bi b es, f, s => (evs M es f s).bind fun ds s => biD b ds s
  | .isa ts a, f, s => (ev M a f s).bind fun x s => (R.ofO (isaAny s ts x) s).bind fun b s => .ok (.bl b) s
  | .isv a, f, s => (ev M a f s).bind fun x s => match x with
    | .ex c => .ok (.bl (M.T.ve c)) s
    | _ => .bad
  | .mt m o es, f, s => (ev M o f s).bind fun x s => cond (mtK (kindD M.T.gdc s x) m) ((evs M es f s).bind fun ds s2 => cond (Nat.beq (kindD M.T.gdc s2 x) (kindD M.T.gdc s x)) (mtD M.T.gdc m x ds s2) .bad) .bad
  | .at o n, f, s => (ev M o f s).bind fun x s => match x with
    | .ref a => match s.get a with
      | some (.ins _ fs) => R.ofO (fget n fs) s
      | _ => .bad
    | _ => .bad
  | .new c es, f, s => (evs M es f s).bind fun ds s => (M.call (M.T.ini c) (.ref s.next :: ds) (s.new (.ins c []))).bind fun _ s' => .ok (.ref s.next) s'
  | .own o c m es, f, s => (ev M o f s).bind fun x s => match x with
    | .ref a => match s.get a with
      | some (.ins c' _) => cond (Nat.beq c' c) ((evs M es f s).bind fun ds s => M.call m (.ref a :: ds) s) .bad
      | _ => .bad
    | _ => .bad
  | .comp q, f, s => (evq M q f s).bind fun ds s => .ok (.ref s.next) (s.new (.lst ds))
  | .no, _, _ => .bad
def evs (M : Sem) : List E → Fr → Sto → R (List D)
  | [], _, s => .ok [] s
  | e :: es, f, s => (ev M e f s).bind fun x s => (evs M es f s).bind fun xs s => .ok (x :: xs) s
def evo (M : Sem) : Option E → Fr → Sto → R (Option Int)
  | none, _, s => .ok none s
  | some e, f, s => (ev M e f s).bind fun x s => match x with
    | .int i => .ok (some i) s
    | _ => .bad
def evt (M : Sem) : List E → Fr → Sto → R Bool
  | [], _, s => .ok true s
  | e :: es, f, s => (tru (ev M e f s)).bind fun b s => cond b (evt M es f s) (.ok false s)
def evq (M : Sem) : Sq → Fr → Sto → R (List D)
  | .comp x t w i cs, f, s => (evi M i f s).bind fun p s => loopC (nxt p.1) (fun d s => (asg M t d (wipe f w) s).bind fun g s => (R.nox (evt M cs g s)).bind fun b s =>
      cond b ((R.nox (ev M x g s)).bind fun y s => .ok (some y) s) (.ok none s)) 0 p.2 s
  | .comp2 x t w i t2 w2 i2 cs, f, s => (evi M i f s).bind fun p s => (loopC2 (nxt p.1) (fun d s => (asg M t d (wipe f w) s).bind fun g s => (R.nox (evi M i2 g s)).bind fun p2 s =>
      loopC (nxt p2.1) (fun d s => (asg M t2 d (wipe g w2) s).bind fun g2 s => (R.nox (evt M cs g2 s)).bind fun b s => cond b ((R.nox (ev M x g2 s)).bind fun y s => .ok (some y) s) (.ok none s)) 0 p2.2 s) 0 p.2 s).bind fun xs s => finC xs s
  | .it i, f, s => (evi M i f s).bind fun p s => R.ofO (allOf p.1 s 0 p.2) s
  | .compR x t w i cs, f, s => (evi M i f s).bind fun p s => loopC (nxt p.1) (fun d s => (asg M t d (wipe f w) s).bind fun g s => (R.nox (evt M cs g s)).bind fun b s =>
      cond b ((ev M x g s).bind fun y s => .ok (some y) s) (.ok none s)) 0 p.2 s
def evi (M : Sem) : It → Fr → Sto → R (Src × Nat)
  | .seq a, f, s => (ev M a f s).bind fun x s => R.ofO (srcOf s x) s
  | .rng es, f, s => (evs M es f s).bind fun ds s => match rngOf ds with
    | some r => .ok (.fix r, r.length) s
    | none => .bad
  | .enum a, f, s => (ev M a f s).bind fun x s => (R.ofO (srcE s x) s).bind fun p s => .ok (.en p.1, p.2) s
  | .zip a b, f, s => (ev M a f s).bind fun x s => (ev M b f s).bind fun y s => R.ofO (srcZ s x y) s
  | .rvs a, f, s => (ev M a f s).bind fun x s => R.ofO (srcR s x) s
  | .items _, _, _ => .bad
def asg (M : Sem) : Tg → D → Fr → Sto → R Fr
  | .n i, d, f, s => .ok (f.set i (some d)) s
  | .t ts, d, f, s => match rowOf s d with
    | some ds => cond (Nat.beq ds.length ts.length) (asgs M ts ds f s) .bad
    | none => .bad
  | .a o n, d, f, s => (R.nox (ev M o f s)).bind fun x s => match x with
    | .ref a => match s.get a with
      | some (.ins c fs) => .ok f (s.put a (.ins c (fput n d fs)))
      | _ => .bad
    | _ => .bad
  | .s o i, d, f, s => (R.nox (ev M o f s)).bind fun x s => (R.nox (ev M i f s)).bind fun y s => (stD x y d s).bind fun _ s => .ok f s
def asgs (M : Sem) : List Tg → List D → Fr → Sto → R Fr
  | [], [], f, s => .ok f s
  | t :: ts, d :: ds, f, s => (asg M t d f s).bind fun f s => asgs M ts ds f s
  | _, _, _, _ => .bad
end
def ofR {α : Type} (f : Fr) (r : R α) (k : α → Sto → O) : O := match r with
  | .ok a s => k a s
  | .ex e s => .ex e f s
  | .bad => .bad
def findH (c : Nat) : List (Nat × Option Nat × List S) → Option (Option Nat × List S)
  | [] => none
  | (d, v, b) :: r => cond (Nat.beq d c) (some (v, b)) (findH c r)
mutual
def xc (M : Sem) : S → Fr → Sto → O
  | .asg t e, f, s => ofR f (ev M e f s) fun d s => ofR f (asg M t d f s) fun f s => .nx f s
  | .par ts es, f, s => ofR f (evs M es f s) fun ds s => ofR f (asgs M ts ds f s) fun f s => .nx f s
  | .aug o i e, f, s => match f[i]? with
    | some (some x) => ofR f (ev M e f s) fun y s => ofR f (augD o x y s) fun z s => .nx (f.set i (some z)) s
    | _ => .bad
  | .augs o a i e, f, s => ofR f (ev M a f s) fun x s => ofR f (ev M i f s) fun y s => ofR f (ixD M.T.gdc x y s) fun z s => ofR f (ev M e f s) fun w s =>
      ofR f (augD o z w s) fun u s => ofR f (stD x y u s) fun _ s => .nx f s
  | .ex e, f, s => ofR f (ev M e f s) fun _ s => .nx f s
  | .ite c a b, f, s => ofR f (tru (ev M c f s)) fun t s => cond t (xcs M a f s) (xcs M b f s)
  | .wh c b, f, s => M.wh (fun f s => tru (ev M c f s)) (fun f s => xcs M b f s) f s
  | .fr t i b, f, s => ofR f (evi M i f s) fun p s => loopF (nxt p.1) (fun d f s => ofR f (asg M t d f s) fun f s => xcs M b f s) 0 p.2 f s
  | .ret e, f, s => ofR f (ev M e f s) fun d s => .rt d s
  | .retN, f, s => .rt .non s
  | .rai c es, f, s => ofR f (evs M es f s) fun ds s => .ex ⟨c, ds⟩ f s
  | .tr b hs, f, s => match xcs M b f s with
    | .ex e f' s' => xh M hs e f' s'
    | o => o
  | .pass, f, s => .nx f s
  | .brk, f, s => .bk f s
  | .cont, f, s => .ct f s
  | .no, _, _ => .bad
def xcs (M : Sem) : List S → Fr → Sto → O
  | [], f, s => .nx f s
  | c :: r, f, s => match xc M c f s with
    | .nx f' s' => xcs M r f' s'
    | o => o
def xh (M : Sem) : List (Nat × Option Nat × List S) → Er → Fr → Sto → O
  | [], e, f, s => .ex e f s
  | (c, v, b) :: r, e, f, s => cond (Nat.beq c e.cls) (match v with
    | none => xcs M b f s
    | some i => match xcs M b (f.set i (some (.ex c))) s with
      | .nx f' s' => .nx (f'.set i none) s'
      | .bk f' s' => .bk (f'.set i none) s'
      | .ct f' s' => .ct (f'.set i none) s'
      | o => o) (xh M r e f s)
end
/-- what a call has made and nobody holds is forgotten -/
def fresh (s s' : Sto) : Bool := (s'.log.take (s'.log.length - s.log.length)).all fun e => Nat.ble s.next e.1
def gc (d : Bool) (s s' : Sto) : Sto := cond (d && fresh s s') s s'
def fin (s : Sto) : O → R D
  | .nx _ s' => .ok .non (gc true s s')
  | .rt d s' => .ok d (gc (pure1 d) s s')
  | .ex e _ s' => .ex e (gc (pureL e.args) s s')
  | _ => .bad
def Phi (T : Tab) (wh : WOp) : Nat → Nat → List D → Sto → R D
  | 0, _, _, _ => .bad
  | k + 1, n, ds, s => match T.fn n with
    | none => .bad
    | some c => cond (Nat.beq ds.length c.np) (fin s (xcs ⟨T, Phi T wh k, wh⟩ c.body (ds.map some ++ List.replicate (c.nl - c.np) none) s)) .bad
def whN : Nat → WOp
  | 0, _, _, _, _ => .bad
  | n + 1, c, b, f, s => match c f s with
    | .ok true s1 => match b f s1 with
      | .nx f' s' => whN n c b f' s'
      | .ct f' s' => whN n c b f' s'
      | .bk f' s' => .nx f' s'
      | o => o
    | .ok false s1 => .nx f s1
    | .ex e s1 => .ex e f s1
    | .bad => .bad
end TR
set_option autoImplicit false
set_option linter.all false
set_option maxRecDepth 100000
/-! The law's tables, what the head is asked: definitions alone. -/
namespace TR
open PySem PySem.Spec PyProof.Rows L2
/-- what a name of the module stands for -/
inductive Gv where
  | fn (f : Nat) | con (n : Nat) | gd (n : Nat) | cls (c : Nat) | exc (c : Nat)
  deriving DecidableEq
def keyV : D → Option Key
  | .int i => some (.inl i)
  | .str x => some (.inr x)
  | _ => none
def bltNames : List Str := ["len", "tuple", "list", "dict", "set", "all", "any", "sum", "sorted", "max", "min", "abs", "int", "str", "isinstance", "range", "enumerate", "zip", "reversed", "bool", "ValueError", "LookupError"].map Str.ofString
structure FnT where
  name : Str
  qual : Str
  params : Arguments
  body : List Stmt
  scope : Scope
  N : List Str
  ps : List Str
  c : FnC
mutual
/-- a constant of the module -/
def relD (K : PySem.W.Frag) : D → Value → Bool
  | .non, .none => true
  | .bl a, .bool b => a == b
  | .int a, .int b _ => decide (a = b)
  | .str a, .str b _ => decide (a = b)
  | .tup ds, .ref a => match K.lookup a with
    | some ⟨.type c, _, .seq its _, _⟩ => decide (c = "tuple") && decide (its.size ≤ sizeLine) && relDs K ds its.toList
    | _ => false
  | _, _ => false
def relDs (K : PySem.W.Frag) : List D → List Value → Bool
  | [], [] => true
  | d :: ds, u :: us => relD K d u && relDs K ds us
  | _, _ => false
end
/-! ### dicts of the top with whole numbers as keys -/
def entB (K : PySem.W.Frag) (k d : D) (e : DictEntry) : Bool := (match k with
  | .int i => (match e.key with
    | .int j _ => i == j && e.hash == hashInt i
    | _ => false)
  | _ => false) && relD K d e.val
def gdEs (K : PySem.W.Frag) : List (D × D) → List DictEntry → Bool
  | [], [] => true
  | (k, d) :: r, e :: es => entB K k d e && gdEs K r es
  | _, _ => false
def gdB (K : PySem.W.Frag) (a : Addr) (kvs : List (D × D)) : Bool := match K.lookup a with
  | some ⟨.type c, none, .dict es _, sl⟩ => decide (c = "dict") && sl.isEmpty && !(a == sysModules) && gdEs K kvs es.toList && decide ((kvs.map fun q => keyV q.1).Nodup)
  | _ => false
/-- what a law's text says of its names -/
structure Ln where
  T : Tab
  L : List (Nat × FnT)
  gl : List (Str × Gv)
  kws : Nat → List (Nat × List Str × List Nat)
  gn : Nat → Str
  cn : Nat → Str
  xcs : List Nat
def Ln.nm (l : Ln) (f : Nat) : Str := match l.L.lookup f with
  | some t => t.name
  | none => Str.empty
def gloB (K : PySem.W.Frag) (x : Str) (a : Addr) : Bool := He.eqO (PySem.W.nsIn K mainGlobals x) (some (some (.ref a)))
def excB (K : PySem.W.Frag) (a : Addr) : Bool := PySem.W.excIn K a He.veBase "ValueError.__new__" && PySem.W.keepIn K (.ref a) && decide (PySem.W.subIn K (.ref a) (.type "BaseException") = some true) && decide (PySem.W.typeIn K (.ref a) = some (.type "type"))
def excCB (K : PySem.W.Frag) (a : Addr) : Bool := He.eqO (PySem.W.findIn K (.ref a) "__getattribute__") (some (some (.builtin "BaseException.__getattribute__"))) && He.eqO (PySem.W.findIn K (.ref a) "__getattr__") (some none) && decide (PySem.W.subIn K (.ref a) (.type "BaseException") = some true) && PySem.W.hasDictIn K a &&
  He.eqO (PySem.W.findIn K (.ref a) "__class__") (some (some (.builtin "object.__class__"))) && He.eqO (PySem.W.specialIn K (.builtin "object.__class__") "__get__") (some (some (.builtin "getset_descriptor.__get__"))) && decide (PySem.W.takesIn K (.builtin "object.__class__") = some true) && decide (PySem.W.mroIn K a (.type "object") = some true)
/-- what the head is asked -/
def Ln.ask (l : Ln) (K : PySem.W.Frag) : Bool :=
  (l.gl.all fun p => match p.2 with
    | .fn f => gloB K p.1 (He.ga K (l.nm f)) && (l.L.lookup f).isSome
    | .con n => (match PySem.W.nsIn K mainGlobals p.1 with
      | some (some u) => relD K (l.T.con n) u
      | _ => false)
    | .gd n => gloB K p.1 (He.ga K (l.gn n)) && gdB K (He.ga K (l.gn n)) (l.T.gdc n)
    | .exc n => gloB K p.1 (He.ga K (l.cn n)) && excB K (He.ga K (l.cn n)) && l.xcs.contains n
    | .cls _ => false) &&
  (bltNames.all fun x => He.eqO (PySem.W.nsIn K mainGlobals x) (some none)) &&
  (l.xcs.all fun n => excCB K (He.ga K (l.cn n)) && decide (PySem.W.kitOne K (.ref (He.ga K (l.cn n))) (.type "ValueError") = some (l.T.ve n)) && l.xcs.all fun m => decide (PySem.W.exmOne K (.ref (He.ga K (l.cn m))) (.ref (He.ga K (l.cn n))) = some (Nat.beq n m)))
def FnT.dd (t : FnT) : He.DefD := ⟨(t.name, none), t.name, t.qual, t.params, t.body, t.scope, [], []⟩
def Ln.fn (l : Ln) : List He.DefD := l.L.map fun p => p.2.dd
abbrev AlX : Type := He.AlD × Bool
/-- what is looked at: level by level, no object's own class, no code's fields -/
def refT (o : Obj) : List Addr := match o.data with
  | .seq its _ => its.toList.flatMap He.refV
  | .dict es _ => es.toList.flatMap fun e => He.refV e.val
  | .func fd => He.refV fd.code
  | .cls cd => cd.ns :: cd.mro.flatMap He.refV
  | _ => []
def walkT (g : Addr → Option Obj) : Nat → List Addr → List Addr
  | 0, as => as
  | n + 1, as => as ++ walkT g n (as.flatMap fun a => match g a with
    | some o => refT o
    | none => [])
def Ln.obs (l : Ln) (n : Nat) (g : Addr → Option Obj) : AlX := (He.obsD [] l.fn (He.frG g (walkT g n [mainGlobals])), l.ask (He.frG g (walkT g n [mainGlobals])))
def Ln.hook (l : Ln) (n : Nat) : PySem.W.Hook where
  α := AlX
  obs := fun s => l.obs n s.heap.get?
  val := fun _ => (He.valD l.fn, true)
  says := fun _ h => ∃ K : PySem.W.Frag, K.In h ∧ He.SaysD [] l.fn K ∧ l.ask K = true
  of := fun _ s e => ⟨_, He.frG_in, congrArg Prod.fst e, congrArg Prod.snd e⟩
  keeps := fun _ _ _ ⟨K, hK, c⟩ k => ⟨K, PySem.W.Frag.In.keeps hK k, c⟩
theorem Ln.obs_eq (l : Ln) {n : Nat} {g : Addr → Option Obj} {s : Shared} (h : ∀ a, g a = s.heap.get? a) : l.obs n g = (l.hook n).obs s := by
  have e : g = s.heap.get? := funext h
  rw [e] <;> rfl
end TR
set_option autoImplicit false
set_option linter.all false
set_option maxRecDepth 100000
set_option maxHeartbeats 0
namespace TR
/-- a top statement of the text -/
abbrev top (i : Nat) : PySem.Stmt := PySem.Challenge.pw_tableroads_k55_ways_and_pairs_refused.main.body.getD i (.Pass ⟨0, 0, 0, 0⟩)
def strOf (l : List Nat) : PySem.Str := ⟨l.toArray⟩
/-- plain.is_number: 0=thing -/
def c_plain_is_number : FnC := ⟨1, 1, [.ret (.and (.isa [.int] (.v 0)) (.not (.isa [.bool] (.v 0))))]⟩
def t_plain_is_number : FnT := ⟨"is_number", "is_number", L2.defArgs (top 5), L2.defBody (top 5), L2.defScope (top 5), ["thing"], ["thing"], c_plain_is_number⟩
/-- plain.is_within: 0=thing 1=least 2=most -/
def c_plain_is_within : FnC := ⟨3, 3, [.ret (.and (.call 0 [] [(.v 0)]) (.chain .le .le (.v 1) (.v 0) (.v 2)))]⟩
def t_plain_is_within : FnT := ⟨"is_within", "is_within", L2.defArgs (top 6), L2.defBody (top 6), L2.defScope (top 6), ["thing", "least", "most"], ["thing", "least", "most"], c_plain_is_within⟩
/-- plain.is_long: 0=thing 1=many -/
def c_plain_is_long : FnC := ⟨2, 2, [.ret (.and (.isa [.tuple] (.v 0)) (.cmp .eq (.b1 .len (.v 0)) (.v 1)))]⟩
def t_plain_is_long : FnT := ⟨"is_long", "is_long", L2.defArgs (top 7), L2.defBody (top 7), L2.defScope (top 7), ["thing", "many"], ["thing", "many"], c_plain_is_long⟩
/-- plain.are_numbers: 0=thing 1=own -/
def c_plain_are_numbers : FnC := ⟨1, 2, [.ret (.and (.isa [.tuple] (.v 0)) (.bq .all (.comp (.call 0 [] [(.v 1)]) (.n 1) [1] (.seq (.v 0)) [])))]⟩
def t_plain_are_numbers : FnT := ⟨"are_numbers", "are_numbers", L2.defArgs (top 8), L2.defBody (top 8), L2.defScope (top 8), ["thing", "own"], ["thing"], c_plain_are_numbers⟩
/-- plain.is_set: 0=thing 1=near 2=far -/
def c_plain_is_set : FnC := ⟨1, 3, [.ret (.and (.call 4 [] [(.v 0)]) (.bq .all (.comp (.cmp .lt (.v 1) (.v 2)) (.t [(.n 1), (.n 2)]) [1, 2] (.zip (.v 0) (.sl (.v 0) (some (.c (.int 1))) none)) [])))]⟩
def t_plain_is_set : FnT := ⟨"is_set", "is_set", L2.defArgs (top 9), L2.defBody (top 9), L2.defScope (top 9), ["thing", "near", "far"], ["thing"], c_plain_is_set⟩
/-- plain.tupled: 0=thing 1=own -/
def c_plain_tupled : FnC := ⟨1, 2, [.ite (.isa [.list, .tuple] (.v 0)) [.ret (.bq .tuple (.comp (.call 5 [] [(.v 1)]) (.n 1) [1] (.seq (.v 0)) []))] [],
 .ret (.v 0)]⟩
def t_plain_tupled : FnT := ⟨"tupled", "tupled", L2.defArgs (top 10), L2.defBody (top 10), L2.defScope (top 10), ["thing", "own"], ["thing"], c_plain_tupled⟩
/-- plain.common: 0=one 1=other 2=near 3=far -/
def c_plain_common : FnC := ⟨2, 4, [.par [(.n 2), (.n 3)] [(.bi .abs [(.v 0)]), (.bi .abs [(.v 1)])],
 .wh (.cmp .gt (.v 3) (.c (.int 0))) [.par [(.n 2), (.n 3)] [(.v 3), (.op .mod (.v 2) (.v 3))]],
 .ret (.v 2)]⟩
def t_plain_common : FnT := ⟨"common", "common", L2.defArgs (top 11), L2.defBody (top 11), L2.defScope (top 11), ["one", "other", "near", "far"], ["one", "other"], c_plain_common⟩
/-- tables.is_table_in: 0=thing -/
def c_tables_is_table_in : FnC := ⟨1, 1, [.ret (.and (.call 3 [] [(.v 0), (.c (.int 4))]) (.and (.call 4 [] [(.v 0)]) (.cmp .eq (.op .sub (.op .mul (.ix (.v 0) (.c (.int 0))) (.ix (.v 0) (.c (.int 3)))) (.op .mul (.ix (.v 0) (.c (.int 1))) (.ix (.v 0) (.c (.int 2))))) (.c (.int 1)))))]⟩
def t_tables_is_table_in : FnT := ⟨"is_table_in", "is_table_in", L2.defArgs (top 18), L2.defBody (top 18), L2.defScope (top 18), ["thing"], ["thing"], c_tables_is_table_in⟩
/-- tables.sure_table: 0=table 1=own 2=its -/
def c_tables_sure_table : FnC := ⟨1, 3, [.asg (.n 1) (.call 5 [] [(.v 0)]),
 .ite (.or (.not (.call 7 [] [(.v 1)])) (.cmp .gt (.bq .max (.comp (.bi .abs [(.v 2)]) (.n 2) [2] (.seq (.v 1)) [])) (.g 0))) [.rai 0 []] [],
 .ret (.v 1)]⟩
def t_tables_sure_table : FnT := ⟨"sure_table", "sure_table", L2.defArgs (top 19), L2.defBody (top 19), L2.defScope (top 19), ["table", "own", "its"], ["table"], c_tables_sure_table⟩
/-- tables.back_in: 0=table 1=a 2=b 3=c 4=d -/
def c_tables_back_in : FnC := ⟨1, 5, [.asg (.t [(.n 1), (.n 2), (.n 3), (.n 4)]) (.v 0),
 .ret (.tup [(.v 4), (.neg (.v 2)), (.neg (.v 3)), (.v 1)])]⟩
def t_tables_back_in : FnT := ⟨"back_in", "back_in", L2.defArgs (top 21), L2.defBody (top 21), L2.defScope (top 21), ["table", "a", "b", "c", "d"], ["table"], c_tables_back_in⟩
/-- tables.put_on: 0=letters 1=sign 2=letter 3=twos -/
def c_tables_put_on : FnC := ⟨3, 4, [.ite (.or (.cmp .eq (.v 0) (.lst [])) (.cmp .ne (.cmp .eq (.ix (.v 0) (.neg (.c (.int 1)))) (.c (.int 1))) (.cmp .eq (.v 2) (.c (.int 1))))) [.ex (.mt .append (.v 0) [(.v 2)]),
 .ret (.v 1)] [],
 .ite (.cmp .eq (.v 2) (.c (.int 1))) [.ex (.mt .pop (.v 0) []),
 .ret (.neg (.v 1))] [],
 .asg (.n 3) (.op .add (.op .sub (.mt .pop (.v 0) []) (.c (.int 1))) (.op .sub (.v 2) (.c (.int 1)))),
 .ite (.cmp .eq (.v 3) (.c (.int 3))) [.ret (.neg (.v 1))] [],
 .ex (.mt .append (.v 0) [(.ite (.cmp .eq (.v 3) (.c (.int 2))) (.c (.int 3)) (.c (.int 2)))]),
 .ret (.ite (.cmp .eq (.v 3) (.c (.int 2))) (.v 1) (.neg (.v 1)))]⟩
def t_tables_put_on : FnT := ⟨"put_on", "put_on", L2.defArgs (top 22), L2.defBody (top 22), L2.defScope (top 22), ["letters", "sign", "letter", "twos"], ["letters", "sign", "letter"], c_tables_put_on⟩
/-- tables.joined_in: 0=one 1=other 2=letters 3=sign 4=letter -/
def c_tables_joined_in : FnC := ⟨2, 5, [.par [(.n 2), (.n 3)] [(.b1 .list (.ix (.v 0) (.c (.int 1)))), (.op .mul (.ix (.v 0) (.c (.int 0))) (.ix (.v 1) (.c (.int 0))))],
 .fr (.n 4) (.seq (.ix (.v 1) (.c (.int 1)))) [.asg (.n 3) (.call 14 [] [(.v 2), (.v 3), (.v 4)])],
 .ret (.tup [(.v 3), (.b1 .tuple (.v 2))])]⟩
def t_tables_joined_in : FnT := ⟨"joined_in", "joined_in", L2.defArgs (top 23), L2.defBody (top 23), L2.defScope (top 23), ["one", "other", "letters", "sign", "letter"], ["one", "other"], c_tables_joined_in⟩
/-- tables.slide_word: 0=often 1=size -/
def c_tables_slide_word : FnC := ⟨1, 2, [.asg (.n 1) (.bi .abs [(.v 0)]),
 .ret (.tup [(.ite (.cmp .eq (.op .mod (.v 1) (.c (.int 2))) (.c (.int 0))) (.c (.int 1)) (.neg (.c (.int 1)))), (.op .mul (.ite (.cmp .gt (.v 0) (.c (.int 0))) (.tup [(.c (.int 1)), (.c (.int 2))]) (.tup [(.c (.int 3)), (.c (.int 1))])) (.v 1))])]⟩
def t_tables_slide_word : FnT := ⟨"slide_word", "slide_word", L2.defArgs (top 24), L2.defBody (top 24), L2.defScope (top 24), ["often", "size"], ["often"], c_tables_slide_word⟩
/-- tables.word_in: 0=table 1=most 2=a 3=b 4=c 5=d 6=found 7=often -/
def c_tables_word_in : FnC := ⟨2, 8, [.asg (.t [(.n 2), (.n 3), (.n 4), (.n 5)]) (.v 0),
 .asg (.n 6) (.tup [(.c (.int 1)), (.tup [])]),
 .wh (.cmp .ne (.v 4) (.c (.int 0))) [.asg (.n 7) (.op .fdiv (.v 2) (.v 4)),
 .ite (.or (.cmp .gt (.bi .abs [(.v 7)]) (.v 1)) (.cmp .gt (.b1 .len (.ix (.v 6) (.c (.int 1)))) (.op .add (.v 1) (.c (.int 4))))) [.rai 1 []] [],
 .asg (.n 6) (.call 15 [] [(.call 15 [] [(.v 6), (.call 16 [] [(.v 7)])]), (.tup [(.c (.int 1)), (.tup [(.c (.int 1))])])]),
 .par [(.n 2), (.n 3), (.n 4), (.n 5)] [(.v 4), (.v 5), (.op .sub (.op .mul (.v 7) (.v 4)) (.v 2)), (.op .sub (.op .mul (.v 7) (.v 5)) (.v 3))]],
 .ite (.cmp .gt (.bi .abs [(.v 3)]) (.v 1)) [.rai 1 []] [],
 .asg (.n 6) (.call 15 [] [(.tup [(.op .mul (.ix (.v 6) (.c (.int 0))) (.v 2)), (.ix (.v 6) (.c (.int 1)))]), (.call 16 [] [(.op .mul (.v 2) (.v 3))])]),
 .ite (.cmp .gt (.b1 .len (.ix (.v 6) (.c (.int 1)))) (.v 1)) [.rai 1 []] [],
 .ret (.v 6)]⟩
def t_tables_word_in : FnT := ⟨"word_in", "word_in", L2.defArgs (top 25), L2.defBody (top 25), L2.defScope (top 25), ["table", "most", "a", "b", "c", "d", "found", "often"], ["table", "most"], c_tables_word_in⟩
/-- tables.table_in: 0=word 1=found 2=letter -/
def c_tables_table_in : FnC := ⟨1, 3, [.asg (.n 1) (.ite (.cmp .eq (.ix (.v 0) (.c (.int 0))) (.c (.int 1))) (.g 1) (.g 2)),
 .fr (.n 2) (.seq (.ix (.v 0) (.c (.int 1)))) [.asg (.n 1) (.no)],
 .ret (.v 1)]⟩
def t_tables_table_in : FnT := ⟨"table_in", "table_in", L2.defArgs (top 26), L2.defBody (top 26), L2.defScope (top 26), ["word", "found", "letter"], ["word"], c_tables_table_in⟩
/-- tables.whole_of: 0=x 1=y 2=rows 3=often 4=near 5=far -/
def c_tables_whole_of : FnC := ⟨2, 6, [.asg (.n 2) (.lst [(.tup [(.bi .abs [(.v 0)]), (.c (.int 1)), (.c (.int 0))]), (.tup [(.bi .abs [(.v 1)]), (.c (.int 0)), (.c (.int 1))])]),
 .wh (.cmp .gt (.ix (.ix (.v 2) (.c (.int 1))) (.c (.int 0))) (.c (.int 0))) [.asg (.n 3) (.op .fdiv (.ix (.ix (.v 2) (.c (.int 0))) (.c (.int 0))) (.ix (.ix (.v 2) (.c (.int 1))) (.c (.int 0)))),
 .asg (.n 2) (.lst [(.ix (.v 2) (.c (.int 1))), (.bq .tuple (.comp (.op .sub (.v 4) (.op .mul (.v 3) (.v 5))) (.t [(.n 4), (.n 5)]) [4, 5] (.zip (.ix (.v 2) (.c (.int 0))) (.ix (.v 2) (.c (.int 1)))) []))])],
 .ret (.tup [(.ite (.cmp .ge (.v 0) (.c (.int 0))) (.ix (.ix (.v 2) (.c (.int 0))) (.c (.int 1))) (.neg (.ix (.ix (.v 2) (.c (.int 0))) (.c (.int 1))))), (.ite (.cmp .ge (.v 1) (.c (.int 0))) (.ix (.ix (.v 2) (.c (.int 0))) (.c (.int 2))) (.neg (.ix (.ix (.v 2) (.c (.int 0))) (.c (.int 2)))))])]⟩
def t_tables_whole_of : FnT := ⟨"whole_of", "whole_of", L2.defArgs (top 27), L2.defBody (top 27), L2.defScope (top 27), ["x", "y", "rows", "often", "near", "far"], ["x", "y"], c_tables_whole_of⟩
/-- turnwords.steps_of: 0=word 1=found 2=letter -/
def c_turnwords_steps_of : FnC := ⟨1, 3, [.asg (.n 1) (.lst []),
 .fr (.n 2) (.seq (.ix (.v 0) (.c (.int 1)))) [.ex (.mt .extend (.v 1) [(.ite (.cmp .eq (.v 2) (.c (.int 3))) (.lst [(.c (.int 2)), (.c (.int 2))]) (.lst [(.v 2)]))])],
 .ret (.b1 .tuple (.v 1))]⟩
def t_turnwords_steps_of : FnT := ⟨"steps_of", "steps_of", L2.defArgs (top 29), L2.defBody (top 29), L2.defScope (top 29), ["word", "found", "letter"], ["word"], c_turnwords_steps_of⟩
/-- nets.is_net_in: 0=thing 1=many 2=ends 3=ties 4=own -/
def c_nets_is_net_in : FnC := ⟨1, 5, [.ite (.or (.not (.call 3 [] [(.v 0), (.c (.int 3))])) (.not (.call 1 [] [(.ix (.v 0) (.c (.int 0))), (.c (.int 1)), (.op .pow (.c (.int 10)) (.c (.int 6)))]))) [.ret (.c (.bl false))] [],
 .asg (.t [(.n 1), (.n 2), (.n 3)]) (.v 0),
 .ite (.or (.not (.call 222 [] [(.v 2)])) (.or (.not (.bq .all (.comp (.call 1 [] [(.v 4), (.c (.int 0)), (.op .sub (.v 1) (.c (.int 1)))]) (.n 4) [4] (.seq (.v 2)) []))) (.not (.isa [.tuple] (.v 3))))) [.ret (.c (.bl false))] [],
 .ret (.bq .all (.comp (.call 223 [] [(.v 1), (.v 4)]) (.n 4) [4] (.seq (.v 3)) []))]⟩
def t_nets_is_net_in : FnT := ⟨"is_net_in", "is_net_in", L2.defArgs (top 35), L2.defBody (top 35), L2.defScope (top 35), ["thing", "many", "ends", "ties", "own"], ["thing"], c_nets_is_net_in⟩
/-- nets.is_tie_in: 0=many 1=thing -/
def c_nets_is_tie_in : FnC := ⟨2, 2, [.ite (.or (.not (.call 3 [] [(.v 1), (.c (.int 3))])) (.or (.not (.call 1 [] [(.ix (.v 1) (.c (.int 0))), (.c (.int 0)), (.op .sub (.v 0) (.c (.int 1)))])) (.not (.call 1 [] [(.ix (.v 1) (.c (.int 2))), (.c (.int 0)), (.op .sub (.v 0) (.c (.int 1)))])))) [.ret (.c (.bl false))] [],
 .ret (.call 7 [] [(.ix (.v 1) (.c (.int 1)))])]⟩
def t_nets_is_tie_in : FnT := ⟨"is_tie_in", "is_tie_in", L2.defArgs (top 36), L2.defBody (top 36), L2.defScope (top 36), ["many", "thing"], ["many", "thing"], c_nets_is_tie_in⟩
/-- nets.sure_net: 0=net 1=own 2=its 3=tie -/
def c_nets_sure_net : FnC := ⟨1, 4, [.asg (.n 1) (.call 5 [] [(.v 0)]),
 .ite (.or (.not (.call 224 [] [(.v 1)])) (.or (.cmp .gt (.ix (.v 1) (.c (.int 0))) (.g 19)) (.cmp .gt (.b1 .len (.ix (.v 1) (.c (.int 2)))) (.g 18)))) [.rai 0 []] [],
 .ite (.bq .any (.comp (.cmp .gt (.bq .max (.comp (.bi .abs [(.v 2)]) (.n 2) [2] (.seq (.ix (.v 3) (.c (.int 1)))) [])) (.g 0)) (.n 3) [3] (.seq (.ix (.v 1) (.c (.int 2)))) [])) [.rai 0 []] [],
 .ret (.v 1)]⟩
def t_nets_sure_net : FnT := ⟨"sure_net", "sure_net", L2.defArgs (top 37), L2.defBody (top 37), L2.defScope (top 37), ["net", "own", "its", "tie"], ["net"], c_nets_sure_net⟩
/-- nets.spelled_in: 0=net 1=wide 2=found 3=number 4=one 5=table 6=other 7=word 8=row 9=here 10=sign 11=place 12=step 13=goal -/
def c_nets_spelled_in : FnC := ⟨1, 14, [.par [(.n 1), (.n 2)] [(.ix (.v 0) (.c (.int 0))), (.lst [])],
 .fr (.t [(.n 3), (.t [(.n 4), (.n 5), (.n 6)])]) (.enum (.ix (.v 0) (.c (.int 2)))) [.asg (.n 7) (.call 17 [] [(.v 5), (.g 3)]),
 .par [(.n 8), (.n 9), (.n 10)] [(.call 187 [] [(.v 7)]), (.v 4), (.ix (.v 7) (.c (.int 0)))],
 .ite (.cmp .eq (.v 8) (.tup [])) [.ex (.mt .append (.v 2) [(.tup [(.v 4), (.c (.int 0)), (.v 6), (.v 10), (.v 3)])])] [],
 .fr (.t [(.n 11), (.n 12)]) (.enum (.v 8)) [.asg (.n 13) (.ite (.cmp .eq (.op .add (.v 11) (.c (.int 1))) (.b1 .len (.v 8))) (.v 6) (.v 1)),
 .aug .add 1 (.ite (.cmp .eq (.op .add (.v 11) (.c (.int 1))) (.b1 .len (.v 8))) (.c (.int 0)) (.c (.int 1))),
 .ex (.mt .append (.v 2) [(.tup [(.v 9), (.v 12), (.v 13), (.v 10), (.ite (.cmp .eq (.v 11) (.c (.int 0))) (.v 3) (.neg (.c (.int 1))))])]),
 .par [(.n 9), (.n 10)] [(.v 13), (.c (.int 1))]]],
 .ite (.cmp .gt (.b1 .len (.v 2)) (.g 20)) [.rai 1 []] [],
 .ret (.tup [(.v 1), (.b1 .tuple (.v 2))])]⟩
def t_nets_spelled_in : FnT := ⟨"spelled_in", "spelled_in", L2.defArgs (top 38), L2.defBody (top 38), L2.defScope (top 38), ["net", "wide", "found", "number", "one", "table", "other", "word", "row", "here", "sign", "place", "step", "goal"], ["net"], c_nets_spelled_in⟩
/-- noughts.goal_in: 0=table 1=word -/
def c_noughts_goal_in : FnC := ⟨1, 2, [.asg (.n 1) (.call 17 [] [(.v 0), (.g 3)]),
 .ret (.tup [(.ix (.v 1) (.c (.int 0))), (.call 187 [] [(.v 1)])])]⟩
def t_noughts_goal_in : FnT := ⟨"goal_in", "goal_in", L2.defArgs (top 48), L2.defBody (top 48), L2.defScope (top 48), ["table", "word"], ["table"], c_noughts_goal_in⟩
/-- noughts.least_in: 0=net 1=table 2=sign 3=goal 4=wide 5=steps 6=found 7=rows 8=goods 9=end 10=ties 11=parts 12=own -/
def c_noughts_least_in : FnC := ⟨2, 13, [.asg (.t [(.n 2), (.n 3)]) (.call 240 [] [(.v 1)]),
 .asg (.t [(.n 4), (.n 5)]) (.call 226 [] [(.v 0)]),
 .no,
 .no,
 .no,
 .no,
 .no,
 .no]⟩
def t_noughts_least_in : FnT := ⟨"least_in", "least_in", L2.defArgs (top 49), L2.defBody (top 49), L2.defScope (top 49), ["net", "table", "sign", "goal", "wide", "steps", "found", "rows", "goods", "end", "ties", "parts", "own"], ["net", "table"], c_noughts_least_in⟩
/-- noughts.are_triples: 0=wide 1=thing 2=long 3=own 4=near 5=far -/
def c_noughts_are_triples : FnC := ⟨3, 6, [.ite (.or (.not (.isa [.tuple] (.v 1))) (.not (.bq .all (.comp (.no) (.n 3) [3] (.seq (.v 1)) [])))) [.ret (.c (.bl false))] [],
 .ret (.bq .all (.comp (.cmp .lt (.sl (.v 4) none (some (.c (.int 3)))) (.sl (.v 5) none (some (.c (.int 3))))) (.t [(.n 4), (.n 5)]) [4, 5] (.zip (.v 1) (.sl (.v 1) (some (.c (.int 1))) none)) []))]⟩
def t_noughts_are_triples : FnT := ⟨"are_triples", "are_triples", L2.defArgs (top 53), L2.defBody (top 53), L2.defScope (top 53), ["wide", "thing", "long", "own", "near", "far"], ["wide", "thing", "long"], c_noughts_are_triples⟩
/-- alone.sure_some: 0=tables 1=own 2=its -/
def c_alone_sure_some : FnC := ⟨1, 3, [.asg (.n 1) (.call 5 [] [(.v 0)]),
 .ite (.or (.not (.isa [.tuple] (.v 1))) (.not (.chain .le .le (.c (.int 1)) (.b1 .len (.v 1)) (.g 24)))) [.rai 0 []] [],
 .ret (.bq .tuple (.compR (.call 8 [] [(.v 2)]) (.n 2) [2] (.seq (.v 1)) []))]⟩
def t_alone_sure_some : FnT := ⟨"sure_some", "sure_some", L2.defArgs (top 59), L2.defBody (top 59), L2.defScope (top 59), ["tables", "own", "its"], ["tables"], c_alone_sure_some⟩
/-- alone.parting_in: 0=tables 1=one 2=other 3=ties 4=own -/
def c_alone_parting_in : FnC := ⟨3, 5, [.asg (.n 3) (.op .add (.tup [(.tup [(.c (.int 0)), (.ix (.v 0) (.v 1)), (.c (.int 1))])]) (.bq .tuple (.comp (.tup [(.c (.int 1)), (.v 4), (.c (.int 1))]) (.n 4) [4] (.seq (.v 0)) []))),
 .ite (.cmp .lt (.v 2) (.c (.int 0))) [.ret (.tup [(.c (.int 2)), (.tup [(.c (.int 1))]), (.v 3)])] [],
 .asg (.n 3) (.op .add (.op .add (.v 3) (.tup [(.tup [(.c (.int 1)), (.g 1), (.c (.int 2))])])) (.bq .tuple (.comp (.tup [(.c (.int 2)), (.call 10 [] [(.v 4)]), (.c (.int 2))]) (.n 4) [4] (.seq (.v 0)) []))),
 .ret (.tup [(.c (.int 4)), (.tup [(.c (.int 3))]), (.op .add (.v 3) (.tup [(.tup [(.c (.int 2)), (.call 10 [] [(.ix (.v 0) (.v 2))]), (.c (.int 3))])]))])]⟩
def t_alone_parting_in : FnT := ⟨"parting_in", "parting_in", L2.defArgs (top 60), L2.defBody (top 60), L2.defScope (top 60), ["tables", "one", "other", "ties", "own"], ["tables", "one", "other"], c_alone_parting_in⟩
/-- alone.first_pairs: 0=many 1=found 2=one 3=other -/
def c_alone_first_pairs : FnC := ⟨1, 4, [.asg (.n 1) (.lst []),
 .fr (.n 2) (.rng [(.v 0)]) [.ex (.mt .extend (.v 1) [(.comp (.comp (.tup [(.v 2), (.v 3)]) (.n 3) [3] (.rng [(.op .add (.v 2) (.c (.int 1))), (.v 0)]) []))])],
 .ret (.op .add (.v 1) (.comp (.comp (.tup [(.v 2), (.neg (.c (.int 1)))]) (.n 2) [2] (.rng [(.v 0)]) [])))]⟩
def t_alone_first_pairs : FnT := ⟨"first_pairs", "first_pairs", L2.defArgs (top 61), L2.defBody (top 61), L2.defScope (top 61), ["many", "found", "one", "other"], ["many"], c_alone_first_pairs⟩
/-- alone.rows_of_road: 0=many 1=pair 2=road 3=ahead 4=own 5=behind -/
def c_alone_rows_of_road : FnC := ⟨3, 6, [.asg (.n 3) (.op .add (.tup [(.ix (.v 1) (.c (.int 0)))]) (.bq .tuple (.comp (.op .sub (.v 4) (.c (.int 1))) (.n 4) [4] (.seq (.sl (.v 2) (some (.c (.int 1))) none)) [(.chain .le .le (.c (.int 1)) (.v 4) (.v 0))]))),
 .ite (.cmp .lt (.ix (.v 1) (.c (.int 1))) (.c (.int 0))) [.ret (.tup [(.v 3), (.tup [])])] [],
 .asg (.n 5) (.comp (.comp (.op .sub (.op .sub (.v 4) (.v 0)) (.c (.int 2))) (.n 4) [4] (.seq (.v 2)) [(.chain .le .le (.op .add (.v 0) (.c (.int 2))) (.v 4) (.op .add (.op .mul (.c (.int 2)) (.v 0)) (.c (.int 1))))])),
 .ret (.tup [(.v 3), (.op .add (.tup [(.ix (.v 1) (.c (.int 1)))]) (.b1 .tuple (.rev (.v 5))))])]⟩
def t_alone_rows_of_road : FnT := ⟨"rows_of_road", "rows_of_road", L2.defArgs (top 62), L2.defBody (top 62), L2.defScope (top 62), ["many", "pair", "road", "ahead", "own", "behind"], ["many", "pair", "road"], c_alone_rows_of_road⟩
/-- alone.two_rows_in: 0=tables 1=pair 2=found -/
def c_alone_two_rows_in : FnC := ⟨1, 3, [.fr (.n 1) (.seq (.call 255 [] [(.b1 .len (.v 0))])) [.asg (.n 2) (.call 241 [] [(.call 254 [] [(.v 0), (.ix (.v 1) (.c (.int 0))), (.ix (.v 1) (.c (.int 1)))]), (.g 1)]),
 .ite (.isNN (.v 2)) [.ret (.call 256 [] [(.b1 .len (.v 0)), (.v 1), (.no)])] []],
 .ret (.c (.non))]⟩
def t_alone_two_rows_in : FnT := ⟨"two_rows_in", "two_rows_in", L2.defArgs (top 63), L2.defBody (top 63), L2.defScope (top 63), ["tables", "pair", "found"], ["tables"], c_alone_two_rows_in⟩
/-- alone.is_alone_in: 0=tables 1=one 2=other -/
def c_alone_is_alone_in : FnC := ⟨1, 3, [.ret (.bq .all (.compR (.isN (.call 241 [] [(.call 254 [] [(.v 0), (.v 1), (.v 2)]), (.g 1)])) (.t [(.n 1), (.n 2)]) [1, 2] (.seq (.call 255 [] [(.b1 .len (.v 0))])) []))]⟩
def t_alone_is_alone_in : FnT := ⟨"is_alone_in", "is_alone_in", L2.defArgs (top 64), L2.defBody (top 64), L2.defScope (top 64), ["tables", "one", "other"], ["tables"], c_alone_is_alone_in⟩
/-- alone.holds_bar: 0=net 1=table 2=thing 3=sign 4=steps 5=floor 6=its -/
def c_alone_holds_bar : FnC := ⟨3, 7, [.asg (.t [(.n 3), (.n 4)]) (.call 240 [] [(.v 1)]),
 .ite (.not (.call 245 [] [(.ix (.call 226 [] [(.v 0)]) (.c (.int 0))), (.v 2), (.c (.int 3))])) [.ret (.c (.bl false))] [],
 .no,
 .no]⟩
def t_alone_holds_bar : FnT := ⟨"holds_bar", "holds_bar", L2.defArgs (top 65), L2.defBody (top 65), L2.defScope (top 65), ["net", "table", "thing", "sign", "steps", "floor", "its"], ["net", "table", "thing"], c_alone_holds_bar⟩
/-- alone.least_bar: 0=net 1=its -/
def c_alone_least_bar : FnC := ⟨1, 2, [.ret (.bq .tuple (.comp (.sl (.v 1) none (some (.c (.int 3)))) (.n 1) [1] (.seq (.no)) []))]⟩
def t_alone_least_bar : FnT := ⟨"least_bar", "least_bar", L2.defArgs (top 66), L2.defBody (top 66), L2.defScope (top 66), ["net", "its"], ["net"], c_alone_least_bar⟩
/-- alone.signed: 0=tables 1=found 2=own -/
def c_alone_signed : FnC := ⟨1, 3, [.asg (.n 1) (.lst []),
 .fr (.n 2) (.seq (.v 0)) [.ex (.mt .extend (.v 1) [(.lst [(.v 2), (.call 10 [] [(.v 2)])])])],
 .ret (.v 1)]⟩
def t_alone_signed : FnT := ⟨"signed", "signed", L2.defArgs (top 69), L2.defBody (top 69), L2.defScope (top 69), ["tables", "found", "own"], ["tables"], c_alone_signed⟩
/-- alone.undone_place: 0=place -/
def c_alone_undone_place : FnC := ⟨1, 1, [.ret (.ite (.cmp .eq (.op .mod (.v 0) (.c (.int 2))) (.c (.int 0))) (.op .add (.v 0) (.c (.int 1))) (.op .sub (.v 0) (.c (.int 1))))]⟩
def t_alone_undone_place : FnT := ⟨"undone_place", "undone_place", L2.defArgs (top 70), L2.defBody (top 70), L2.defScope (top 70), ["place"], ["place"], c_alone_undone_place⟩
/-- alone.free_in: 0=tables 1=goods 2=many 3=ties 4=own 5=one -/
def c_alone_free_in : FnC := ⟨1, 6, [.asg (.n 1) (.call 263 [] [(.v 0)]),
 .asg (.n 2) (.b1 .len (.v 1)),
 .asg (.n 3) (.comp (.comp (.tup [(.c (.int 0)), (.g 1), (.op .add (.c (.int 1)) (.v 4))]) (.n 4) [4] (.rng [(.v 2)]) [])),
 .ex (.mt .extend (.v 3) [(.comp (.comp (.tup [(.op .add (.c (.int 1)) (.v 4)), (.ix (.v 1) (.v 4)), (.op .add (.op .add (.c (.int 1)) (.v 2)) (.v 4))]) (.n 4) [4] (.rng [(.v 2)]) []))]),
 .fr (.n 5) (.rng [(.v 2)]) [.ex (.mt .extend (.v 3) [(.comp (.comp (.tup [(.op .add (.op .add (.c (.int 1)) (.v 2)) (.v 5)), (.g 1), (.op .add (.c (.int 1)) (.v 4))]) (.n 4) [4] (.rng [(.v 2)]) [(.cmp .ne (.v 4) (.call 264 [] [(.v 5)]))]))])],
 .ret (.tup [(.op .add (.c (.int 1)) (.op .mul (.c (.int 2)) (.v 2))), (.bq .tuple (.it (.rng [(.op .add (.c (.int 1)) (.v 2)), (.op .add (.c (.int 1)) (.op .mul (.c (.int 2)) (.v 2)))]))), (.b1 .tuple (.v 3))])]⟩
def t_alone_free_in : FnT := ⟨"free_in", "free_in", L2.defArgs (top 71), L2.defBody (top 71), L2.defScope (top 71), ["tables", "goods", "many", "ties", "own", "one"], ["tables"], c_alone_free_in⟩
/-- alone.undoing_in: 0=tables 1=found 2=many 3=places 4=own -/
def c_alone_undoing_in : FnC := ⟨1, 5, [.asg (.n 1) (.call 241 [] [(.call 265 [] [(.v 0)]), (.g 1)]),
 .ite (.isN (.v 1)) [.ret (.c (.non))] [],
 .asg (.n 2) (.op .mul (.c (.int 2)) (.b1 .len (.v 0))),
 .asg (.n 3) (.comp (.comp (.op .sub (.v 4) (.v 2)) (.n 4) [4] (.seq (.no)) [(.chain .le .lt (.v 2) (.v 4) (.op .mul (.c (.int 2)) (.v 2)))])),
 .ret (.bq .tuple (.comp (.ite (.cmp .eq (.op .mod (.v 4) (.c (.int 2))) (.c (.int 0))) (.op .add (.op .fdiv (.v 4) (.c (.int 2))) (.c (.int 1))) (.neg (.op .add (.op .fdiv (.v 4) (.c (.int 2))) (.c (.int 1))))) (.n 4) [4] (.seq (.v 3)) []))]⟩
def t_alone_undoing_in : FnT := ⟨"undoing_in", "undoing_in", L2.defArgs (top 72), L2.defBody (top 72), L2.defScope (top 72), ["tables", "found", "many", "places", "own"], ["tables"], c_alone_undoing_in⟩
/-- alone.are_alone: 0=tables -/
def c_alone_are_alone : FnC := ⟨1, 1, [.ret (.call 258 [] [(.call 253 [] [(.v 0)])])]⟩
def t_alone_are_alone : FnT := ⟨"are_alone", "are_alone", L2.defArgs (top 74), L2.defBody (top 74), L2.defScope (top 74), ["tables"], ["tables"], c_alone_are_alone⟩
/-- alone.two_rows: 0=tables 1=found -/
def c_alone_two_rows : FnC := ⟨1, 2, [.asg (.n 1) (.call 257 [] [(.call 253 [] [(.v 0)])]),
 .ite (.isN (.v 1)) [.rai 2 []] [],
 .ret (.v 1)]⟩
def t_alone_two_rows : FnT := ⟨"two_rows", "two_rows", L2.defArgs (top 75), L2.defBody (top 75), L2.defScope (top 75), ["tables", "found"], ["tables"], c_alone_two_rows⟩
/-- alone.are_two_rows: 0=tables 1=thing 2=own 3=its -/
def c_alone_are_two_rows : FnC := ⟨2, 4, [.asg (.n 2) (.call 253 [] [(.v 0)]),
 .ite (.or (.not (.call 3 [] [(.v 1), (.c (.int 2))])) (.or (.not (.bq .all (.comp (.no) (.n 3) [3] (.seq (.v 1)) []))) (.cmp .eq (.ix (.v 1) (.c (.int 0))) (.ix (.v 1) (.c (.int 1)))))) [.ret (.c (.bl false))] [],
 .ret (.cmp .eq (.no) (.no))]⟩
def t_alone_are_two_rows : FnT := ⟨"are_two_rows", "are_two_rows", L2.defArgs (top 76), L2.defBody (top 76), L2.defScope (top 76), ["tables", "thing", "own", "its"], ["tables", "thing"], c_alone_are_two_rows⟩
/-- alone.parting_net: 0=tables 1=one 2=other 3=own -/
def c_alone_parting_net : FnC := ⟨3, 4, [.asg (.n 3) (.call 253 [] [(.v 0)]),
 .ite (.or (.not (.call 1 [] [(.v 1), (.c (.int 0)), (.op .sub (.b1 .len (.v 3)) (.c (.int 1)))])) (.or (.not (.call 1 [] [(.v 2), (.neg (.c (.int 1))), (.op .sub (.b1 .len (.v 3)) (.c (.int 1)))])) (.cmp .eq (.v 1) (.v 2)))) [.rai 0 []] [],
 .ret (.call 254 [] [(.v 3), (.v 1), (.v 2)])]⟩
def t_alone_parting_net : FnT := ⟨"parting_net", "parting_net", L2.defArgs (top 77), L2.defBody (top 77), L2.defScope (top 77), ["tables", "one", "other", "own"], ["tables", "one", "other"], c_alone_parting_net⟩
/-- alone.alone_paper: 0=tables 1=own 2=one 3=other -/
def c_alone_alone_paper : FnC := ⟨1, 4, [.asg (.n 1) (.call 253 [] [(.v 0)]),
 .ite (.not (.call 258 [] [(.v 1)])) [.rai 2 []] [],
 .ret (.bq .tuple (.compR (.call 260 [] [(.call 254 [] [(.v 1), (.v 2), (.v 3)])]) (.t [(.n 2), (.n 3)]) [2, 3] (.seq (.call 255 [] [(.b1 .len (.v 1))])) []))]⟩
def t_alone_alone_paper : FnT := ⟨"alone_paper", "alone_paper", L2.defArgs (top 78), L2.defBody (top 78), L2.defScope (top 78), ["tables", "own", "one", "other"], ["tables"], c_alone_alone_paper⟩
/-- alone.is_alone_paper: 0=tables 1=thing 2=own 3=pairs 4=nets 5=one 6=other 7=wides 8=net 9=its -/
def c_alone_is_alone_paper : FnC := ⟨2, 10, [.asg (.n 2) (.call 253 [] [(.v 0)]),
 .asg (.n 3) (.call 255 [] [(.b1 .len (.v 2))]),
 .asg (.n 4) (.comp (.comp (.call 254 [] [(.v 2), (.v 5), (.v 6)]) (.t [(.n 5), (.n 6)]) [5, 6] (.seq (.v 3)) [])),
 .asg (.n 7) (.comp (.comp (.ix (.call 226 [] [(.v 8)]) (.c (.int 0))) (.n 8) [8] (.seq (.v 4)) [])),
 .ite (.or (.not (.call 3 [] [(.v 1), (.b1 .len (.v 3))])) (.cmp .lt (.b1 .len (.v 7)) (.b1 .len (.v 3)))) [.ret (.c (.bl false))] [],
 .ret (.bq .all (.compR (.no) (.t [(.n 8), (.n 9)]) [8, 9] (.zip (.v 4) (.v 1)) []))]⟩
def t_alone_is_alone_paper : FnT := ⟨"is_alone_paper", "is_alone_paper", L2.defArgs (top 79), L2.defBody (top 79), L2.defScope (top 79), ["tables", "thing", "own", "pairs", "nets", "one", "other", "wides", "net", "its"], ["tables", "thing"], c_alone_is_alone_paper⟩
/-- alone.are_free: 0=tables -/
def c_alone_are_free : FnC := ⟨1, 1, [.ret (.isN (.call 241 [] [(.call 265 [] [(.call 253 [] [(.v 0)])]), (.g 1)]))]⟩
def t_alone_are_free : FnT := ⟨"are_free", "are_free", L2.defArgs (top 80), L2.defBody (top 80), L2.defScope (top 80), ["tables"], ["tables"], c_alone_are_free⟩
/-- alone.free_net: 0=tables -/
def c_alone_free_net : FnC := ⟨1, 1, [.ret (.call 265 [] [(.call 253 [] [(.v 0)])])]⟩
def t_alone_free_net : FnT := ⟨"free_net", "free_net", L2.defArgs (top 81), L2.defBody (top 81), L2.defScope (top 81), ["tables"], ["tables"], c_alone_free_net⟩
/-- alone.undoing_row: 0=tables 1=found -/
def c_alone_undoing_row : FnC := ⟨1, 2, [.asg (.n 1) (.call 266 [] [(.call 253 [] [(.v 0)])]),
 .ite (.isN (.v 1)) [.rai 2 []] [],
 .ret (.v 1)]⟩
def t_alone_undoing_row : FnT := ⟨"undoing_row", "undoing_row", L2.defArgs (top 82), L2.defBody (top 82), L2.defScope (top 82), ["tables", "found"], ["tables"], c_alone_undoing_row⟩
/-- alone.is_undoing_row: 0=tables 1=thing 2=own 3=its 4=near 5=far 6=goods -/
def c_alone_is_undoing_row : FnC := ⟨2, 7, [.asg (.n 2) (.call 253 [] [(.v 0)]),
 .ite (.or (.not (.isa [.tuple] (.v 1))) (.not (.chain .le .le (.c (.int 1)) (.b1 .len (.v 1)) (.g 21)))) [.ret (.c (.bl false))] [],
 .ite (.not (.bq .all (.comp (.and (.call 1 [] [(.v 3), (.neg (.b1 .len (.v 2))), (.b1 .len (.v 2))]) (.cmp .ne (.v 3) (.c (.int 0)))) (.n 3) [3] (.seq (.v 1)) []))) [.ret (.c (.bl false))] [],
 .ite (.bq .any (.comp (.cmp .eq (.v 4) (.neg (.v 5))) (.t [(.n 4), (.n 5)]) [4, 5] (.zip (.v 1) (.sl (.v 1) (some (.c (.int 1))) none)) [])) [.ret (.c (.bl false))] [],
 .asg (.n 6) (.call 263 [] [(.v 2)]),
 .ret (.cmp .eq (.no) (.g 1))]⟩
def t_alone_is_undoing_row : FnT := ⟨"is_undoing_row", "is_undoing_row", L2.defArgs (top 83), L2.defBody (top 83), L2.defScope (top 83), ["tables", "thing", "own", "its", "near", "far", "goods"], ["tables", "thing"], c_alone_is_undoing_row⟩
/-- alone.free_paper: 0=tables 1=net -/
def c_alone_free_paper : FnC := ⟨1, 2, [.asg (.n 1) (.call 265 [] [(.call 253 [] [(.v 0)])]),
 .ite (.isNN (.call 241 [] [(.v 1), (.g 1)])) [.rai 2 []] [],
 .ret (.no)]⟩
def t_alone_free_paper : FnT := ⟨"free_paper", "free_paper", L2.defArgs (top 84), L2.defBody (top 84), L2.defScope (top 84), ["tables", "net"], ["tables"], c_alone_free_paper⟩
/-- alone.is_free_paper: 0=tables 1=thing -/
def c_alone_is_free_paper : FnC := ⟨2, 2, [.ret (.call 259 [] [(.call 265 [] [(.call 253 [] [(.v 0)])]), (.g 1), (.v 1)])]⟩
def t_alone_is_free_paper : FnT := ⟨"is_free_paper", "is_free_paper", L2.defArgs (top 85), L2.defBody (top 85), L2.defScope (top 85), ["tables", "thing"], ["tables", "thing"], c_alone_is_free_paper⟩
/-- alone.rows_making: 0=tables 1=table 2=long 3=own 4=goal 5=rows 6=found 7=lap 8=row 9=made 10=later 11=k 12=its -/
def c_alone_rows_making : FnC := ⟨3, 13, [.asg (.n 3) (.call 253 [] [(.v 0)]),
 .asg (.n 4) (.call 8 [] [(.v 1)]),
 .ite (.not (.call 1 [] [(.v 2), (.c (.int 0)), (.g 25)])) [.rai 0 []] [],
 .ite (.cmp .gt (.no) (.g 26)) [.rai 1 []] [],
 .par [(.n 5), (.n 6)] [(.lst [(.tup [(.tup []), (.g 1)])]), (.lst [])],
 .fr (.n 7) (.rng [(.op .add (.v 2) (.c (.int 1)))]) [.ex (.mt .extend (.v 6) [(.comp (.comp (.v 8) (.t [(.n 8), (.n 9)]) [8, 9] (.seq (.v 5)) [(.cmp .eq (.v 9) (.v 4))]))]),
 .asg (.n 10) (.lst []),
 .fr (.t [(.n 8), (.n 9)]) (.seq (.v 5)) [.ex (.mt .extend (.v 10) [(.comp (.comp (.tup [(.op .add (.v 8) (.tup [(.v 11)])), (.no)]) (.t [(.n 11), (.n 12)]) [11, 12] (.enum (.v 3)) []))])],
 .asg (.n 5) (.ite (.cmp .lt (.v 7) (.v 2)) (.v 10) (.lst []))],
 .ret (.v 6)]⟩
def t_alone_rows_making : FnT := ⟨"rows_making", "rows_making", L2.defArgs (top 86), L2.defBody (top 86), L2.defScope (top 86), ["tables", "table", "long", "own", "goal", "rows", "found", "lap", "row", "made", "later", "k", "its"], ["tables", "table", "long"], c_alone_rows_making⟩
/-- plainnets.least_rows: 0=rows 1=alive 2=lots 3=row 4=own 5=many 6=keys 7=goal 8=lot 9=order 10=key -/
def c_plainnets_least_rows : FnC := ⟨1, 11, [.asg (.n 1) (.no),
 .asg (.n 2) (.comp (.comp (.ite (.v 4) (.op .add (.op .add (.ite (.ix (.v 3) (.c (.int 3))) (.c (.int 1)) (.c (.int 0))) (.ite (.ix (.v 3) (.c (.int 4))) (.c (.int 2)) (.c (.int 0)))) (.c (.int 1))) (.c (.int 0))) (.t [(.n 3), (.n 4)]) [3, 4] (.zip (.v 0) (.v 1)) [])),
 .asg (.n 5) (.c (.int 0)),
 .no,
 .no,
 .no]⟩
def t_plainnets_least_rows : FnT := ⟨"least_rows", "least_rows", L2.defArgs (top 94), L2.defBody (top 94), L2.defScope (top 94), ["rows", "alive", "lots", "row", "own", "many", "keys", "goal", "lot", "order", "key"], ["rows"], c_plainnets_least_rows⟩
/-- plainnets.plain_in: 0=net -/
def c_plainnets_plain_in : FnC := ⟨1, 1, [.ret (.call 110 [] [(.no)])]⟩
def t_plainnets_plain_in : FnT := ⟨"plain_in", "plain_in", L2.defArgs (top 96), L2.defBody (top 96), L2.defScope (top 96), ["net"], ["net"], c_plainnets_plain_in⟩
/-- plainnets.rounds_in: 0=plain 1=left 2=many 3=own 4=goal -/
def c_plainnets_rounds_in : FnC := ⟨1, 5, [.asg (.n 1) (.bq .list (.it (.rng [(.b1 .len (.v 0))]))),
 .asg (.n 2) (.neg (.c (.int 1))),
 .wh (.cmp .ne (.v 2) (.b1 .len (.v 1))) [.asg (.n 2) (.b1 .len (.v 1)),
 .asg (.n 1) (.comp (.comp (.v 3) (.n 3) [3] (.seq (.v 1)) [(.bq .any (.comp (.cmp .isIn (.v 4) (.v 1)) (.n 4) [4] (.seq (.sl (.ix (.v 0) (.v 3)) none (some (.c (.int 3))))) []))]))],
 .ret (.cmp .ne (.v 1) (.lst []))]⟩
def t_plainnets_rounds_in : FnT := ⟨"rounds_in", "rounds_in", L2.defArgs (top 97), L2.defBody (top 97), L2.defScope (top 97), ["plain", "left", "many", "own", "goal"], ["plain"], c_plainnets_rounds_in⟩
/-- pairs.sure_two: 0=pair 1=own 2=its -/
def c_pairs_sure_two : FnC := ⟨1, 3, [.asg (.n 1) (.call 5 [] [(.v 0)]),
 .ite (.or (.not (.call 3 [] [(.v 1), (.c (.int 2))])) (.or (.not (.bq .all (.comp (.and (.call 0 [] [(.v 2)]) (.cmp .le (.bi .abs [(.v 2)]) (.g 0))) (.n 2) [2] (.seq (.v 1)) []))) (.cmp .eq (.v 1) (.tup [(.c (.int 0)), (.c (.int 0))])))) [.rai 0 []] [],
 .ret (.v 1)]⟩
def t_pairs_sure_two : FnT := ⟨"sure_two", "sure_two", L2.defArgs (top 104), L2.defBody (top 104), L2.defScope (top 104), ["pair", "own", "its"], ["pair"], c_pairs_sure_two⟩
/-- pairs.sure_truth: 0=thing -/
def c_pairs_sure_truth : FnC := ⟨1, 1, [.ite (.not (.isa [.bool] (.v 0))) [.rai 0 []] [],
 .ret (.v 0)]⟩
def t_pairs_sure_truth : FnT := ⟨"sure_truth", "sure_truth", L2.defArgs (top 105), L2.defBody (top 105), L2.defScope (top 105), ["thing"], ["thing"], c_pairs_sure_truth⟩
/-- pairs.made_plain: 0=word 1=own -/
def c_pairs_made_plain : FnC := ⟨1, 2, [.asg (.n 1) (.v 0),
 .wh (.and (.cmp .ne (.ix (.v 1) (.c (.int 1))) (.tup [])) (.or (.cmp .eq (.ix (.ix (.v 1) (.c (.int 1))) (.neg (.c (.int 1)))) (.c (.int 1))) (.and (.cmp .eq (.ix (.ix (.v 1) (.c (.int 1))) (.neg (.c (.int 1)))) (.c (.int 2))) (.cmp .gt (.b1 .len (.ix (.v 1) (.c (.int 1)))) (.c (.int 1)))))) [.asg (.n 1) (.call 15 [] [(.v 1), (.ite (.cmp .eq (.ix (.ix (.v 1) (.c (.int 1))) (.neg (.c (.int 1)))) (.c (.int 1))) (.g 28) (.g 29))])],
 .ret (.v 1)]⟩
def t_pairs_made_plain : FnT := ⟨"made_plain", "made_plain", L2.defArgs (top 106), L2.defBody (top 106), L2.defScope (top 106), ["word", "own"], ["word"], c_pairs_made_plain⟩
/-- pairs.pair_word: 0=pair 1=shared 2=x 3=y 4=near 5=far 6=found -/
def c_pairs_pair_word : FnC := ⟨1, 7, [.asg (.n 1) (.call 6 [] [(.ix (.v 0) (.c (.int 0))), (.ix (.v 0) (.c (.int 1)))]),
 .par [(.n 2), (.n 3)] [(.op .fdiv (.ix (.v 0) (.c (.int 0))) (.v 1)), (.op .fdiv (.ix (.v 0) (.c (.int 1))) (.v 1))],
 .asg (.t [(.n 4), (.n 5)]) (.call 32 [] [(.v 2), (.v 3)]),
 .asg (.n 6) (.call 286 [] [(.call 17 [] [(.tup [(.v 2), (.neg (.v 5)), (.v 3), (.v 4)]), (.op .add (.g 3) (.g 30))])]),
 .ite (.cmp .gt (.b1 .len (.ix (.v 6) (.c (.int 1)))) (.g 3)) [.rai 1 []] [],
 .ret (.v 6)]⟩
def t_pairs_pair_word : FnT := ⟨"pair_word", "pair_word", L2.defArgs (top 107), L2.defBody (top 107), L2.defScope (top 107), ["pair", "shared", "x", "y", "near", "far", "found"], ["pair"], c_pairs_pair_word⟩
/-- pairs.lead_in: 0=net 1=one 2=other 3=loose 4=ahead 5=behind 6=ties 7=own -/
def c_pairs_lead_in : FnC := ⟨4, 8, [.par [(.n 4), (.n 5)] [(.call 287 [] [(.v 1)]), (.call 287 [] [(.v 2)])],
 .asg (.n 6) (.op .add (.ix (.v 0) (.c (.int 2))) (.bq .tuple (.comp (.tup [(.v 7), (.no), (.ix (.v 0) (.c (.int 0)))]) (.n 7) [7] (.seq (.ix (.v 0) (.c (.int 1)))) []))),
 .ret (.tup [(.op .add (.ix (.v 0) (.c (.int 0))) (.c (.int 2))), (.tup [(.op .add (.ix (.v 0) (.c (.int 0))) (.c (.int 1)))]), (.op .add (.v 6) (.no))])]⟩
def t_pairs_lead_in : FnT := ⟨"lead_in", "lead_in", L2.defArgs (top 109), L2.defBody (top 109), L2.defScope (top 109), ["net", "one", "other", "loose", "ahead", "behind", "ties", "own"], ["net", "one", "other", "loose"], c_pairs_lead_in⟩
/-- pairs.divisors_of: 0=one 1=other -/
def c_pairs_divisors_of : FnC := ⟨2, 2, [.ret (.tup [(.call 6 [] [(.ix (.v 0) (.c (.int 0))), (.ix (.v 0) (.c (.int 1)))]), (.call 6 [] [(.ix (.v 1) (.c (.int 0))), (.ix (.v 1) (.c (.int 1)))])])]⟩
def t_pairs_divisors_of : FnT := ⟨"divisors_of", "divisors_of", L2.defArgs (top 110), L2.defBody (top 110), L2.defScope (top 110), ["one", "other"], ["one", "other"], c_pairs_divisors_of⟩
/-- pairs.leads_in: 0=net 1=one 2=other 3=loose 4=near 5=far -/
def c_pairs_leads_in : FnC := ⟨4, 6, [.asg (.t [(.n 4), (.n 5)]) (.call 290 [] [(.v 1), (.v 2)]),
 .ret (.ite (.cmp .eq (.v 4) (.v 5)) (.call 241 [] [(.call 289 [] [(.v 0), (.v 1), (.v 2), (.v 3)]), (.g 1)]) (.c (.non)))]⟩
def t_pairs_leads_in : FnT := ⟨"leads_in", "leads_in", L2.defArgs (top 111), L2.defBody (top 111), L2.defScope (top 111), ["net", "one", "other", "loose", "near", "far"], ["net", "one", "other", "loose"], c_pairs_leads_in⟩
/-- pairs.pair_by: 0=table 1=pair 2=a 3=b 4=c 5=d -/
def c_pairs_pair_by : FnC := ⟨2, 6, [.asg (.t [(.n 2), (.n 3), (.n 4), (.n 5)]) (.v 0),
 .ret (.tup [(.op .add (.op .mul (.v 2) (.ix (.v 1) (.c (.int 0)))) (.op .mul (.v 3) (.ix (.v 1) (.c (.int 1))))), (.op .add (.op .mul (.v 4) (.ix (.v 1) (.c (.int 0)))) (.op .mul (.v 5) (.ix (.v 1) (.c (.int 1)))))])]⟩
def t_pairs_pair_by : FnT := ⟨"pair_by", "pair_by", L2.defArgs (top 112), L2.defBody (top 112), L2.defScope (top 112), ["table", "pair", "a", "b", "c", "d"], ["table", "pair"], c_pairs_pair_by⟩
/-- pairs.both_rows: 0=one 1=other 2=line 3=places 4=rows 5=near 6=far 7=goals 8=letter 9=key -/
def c_pairs_both_rows : FnC := ⟨2, 10, [.par [(.n 2), (.n 3), (.n 4)] [(.lst [(.tup [(.c (.int 0)), (.c (.int 0))])]), (.dic [(.tup [(.c (.int 0)), (.c (.int 0))]), (.c (.int 0))]), (.lst [])],
 .wh (.cmp .lt (.b1 .len (.v 4)) (.b1 .len (.v 2))) [.asg (.t [(.n 5), (.n 6)]) (.ix (.v 2) (.b1 .len (.v 4))),
 .asg (.n 7) (.lst []),
 .fr (.n 8) (.rng [(.c (.int 3))]) [.asg (.n 9) (.tup [(.ix (.ix (.v 0) (.v 5)) (.v 8)), (.ix (.ix (.v 1) (.v 6)) (.v 8))]),
 .ite (.cmp .lt (.b1 .min (.v 9)) (.c (.int 0))) [.ex (.mt .append (.v 7) [(.neg (.c (.int 1)))]),
 .cont] [],
 .ite (.cmp .notIn (.v 9) (.v 3)) [.asg (.s (.v 3) (.v 9)) (.b1 .len (.v 2)),
 .ex (.mt .append (.v 2) [(.v 9)])] [],
 .ex (.mt .append (.v 7) [(.ix (.v 3) (.v 9))])],
 .ex (.mt .append (.v 4) [(.op .add (.b1 .tuple (.v 7)) (.tup [(.and (.ix (.ix (.v 0) (.v 5)) (.c (.int 3))) (.ix (.ix (.v 1) (.v 6)) (.c (.int 3)))), (.and (.ix (.ix (.v 0) (.v 5)) (.c (.int 4))) (.ix (.ix (.v 1) (.v 6)) (.c (.int 4))))]))]),
 .ite (.cmp .gt (.b1 .len (.v 2)) (.g 27)) [.rai 1 []] []],
 .ret (.no)]⟩
def t_pairs_both_rows : FnT := ⟨"both_rows", "both_rows", L2.defArgs (top 114), L2.defBody (top 114), L2.defScope (top 114), ["one", "other", "line", "places", "rows", "near", "far", "goals", "letter", "key"], ["one", "other"], c_pairs_both_rows⟩
/-- pairs.begun_in: 0=net 1=pair 2=ties 3=own -/
def c_pairs_begun_in : FnC := ⟨2, 4, [.asg (.n 2) (.op .add (.ix (.v 0) (.c (.int 2))) (.bq .tuple (.compR (.tup [(.v 3), (.call 18 [] [(.call 287 [] [(.v 1)])]), (.ix (.v 0) (.c (.int 0)))]) (.n 3) [3] (.seq (.ix (.v 0) (.c (.int 1)))) []))),
 .ret (.tup [(.op .add (.ix (.v 0) (.c (.int 0))) (.c (.int 1))), (.tup [(.ix (.v 0) (.c (.int 0)))]), (.op .add (.v 2) (.tup [(.tup [(.ix (.v 0) (.c (.int 0))), (.g 31), (.ix (.v 0) (.c (.int 0)))]), (.tup [(.ix (.v 0) (.c (.int 0))), (.call 10 [] [(.g 31)]), (.ix (.v 0) (.c (.int 0)))])]))])]⟩
def t_pairs_begun_in : FnT := ⟨"begun_in", "begun_in", L2.defArgs (top 116), L2.defBody (top 116), L2.defScope (top 116), ["net", "pair", "ties", "own"], ["net", "pair"], c_pairs_begun_in⟩
/-- pairs.ended_well: 0=plain 1=line 2=places 3=rows 4=here 5=last 6=goals 7=letter 8=sort 9=key -/
def c_pairs_ended_well : FnC := ⟨1, 10, [.par [(.n 1), (.n 2), (.n 3)] [(.lst [(.tup [(.c (.int 0)), (.c (.int 0))])]), (.dic [(.tup [(.c (.int 0)), (.c (.int 0))]), (.c (.int 0))]), (.lst [])],
 .wh (.cmp .lt (.b1 .len (.v 3)) (.b1 .len (.v 1))) [.asg (.t [(.n 4), (.n 5)]) (.ix (.v 1) (.b1 .len (.v 3))),
 .asg (.n 6) (.lst []),
 .fr (.n 7) (.seq (.tup [(.c (.int 1)), (.c (.int 2)), (.c (.int 3))])) [.asg (.n 8) (.ite (.or (.cmp .eq (.v 7) (.c (.int 3))) (.and (.cmp .eq (.v 7) (.c (.int 2))) (.cmp .eq (.v 5) (.c (.int 0))))) (.c (.int 1)) (.c (.int 2))),
 .asg (.n 9) (.tup [(.ix (.ix (.v 0) (.v 4)) (.op .sub (.v 7) (.c (.int 1)))), (.v 8)]),
 .ite (.cmp .lt (.ix (.v 9) (.c (.int 0))) (.c (.int 0))) [.ex (.mt .append (.v 6) [(.neg (.c (.int 1)))]),
 .cont] [],
 .ite (.cmp .notIn (.v 9) (.v 2)) [.asg (.s (.v 2) (.v 9)) (.b1 .len (.v 1)),
 .ex (.mt .append (.v 1) [(.v 9)])] [],
 .ex (.mt .append (.v 6) [(.ix (.v 2) (.v 9))])],
 .ex (.mt .append (.v 3) [(.op .add (.b1 .tuple (.v 6)) (.tup [(.and (.ix (.ix (.v 0) (.v 4)) (.c (.int 3))) (.cmp .lt (.v 5) (.c (.int 2)))), (.and (.ix (.ix (.v 0) (.v 4)) (.c (.int 4))) (.cmp .lt (.v 5) (.c (.int 2))))]))])],
 .ret (.v 3)]⟩
def t_pairs_ended_well : FnT := ⟨"ended_well", "ended_well", L2.defArgs (top 117), L2.defBody (top 117), L2.defScope (top 117), ["plain", "line", "places", "rows", "here", "last", "goals", "letter", "sort", "key"], ["plain"], c_pairs_ended_well⟩
/-- pairs.pairs_in: 0=net 1=pair -/
def c_pairs_pairs_in : FnC := ⟨2, 2, [.ret (.call 110 [] [(.call 297 [] [(.call 283 [] [(.call 296 [] [(.v 0), (.v 1)])])])])]⟩
def t_pairs_pairs_in : FnT := ⟨"pairs_in", "pairs_in", L2.defArgs (top 118), L2.defBody (top 118), L2.defScope (top 118), ["net", "pair"], ["net", "pair"], c_pairs_pairs_in⟩
/-- pairs.does_lead: 0=net 1=one 2=other 3=loose 4=own 5=near 6=far -/
def c_pairs_does_lead : FnC := ⟨4, 7, [.asg (.n 4) (.call 225 [] [(.v 0)]),
 .asg (.n 5) (.call 284 [] [(.v 1)]),
 .asg (.n 6) (.call 284 [] [(.v 2)]),
 .ret (.isNN (.call 291 [] [(.v 4), (.v 5), (.v 6), (.call 285 [] [(.v 3)])]))]⟩
def t_pairs_does_lead : FnT := ⟨"does_lead", "does_lead", L2.defArgs (top 119), L2.defBody (top 119), L2.defScope (top 119), ["net", "one", "other", "loose", "own", "near", "far"], ["net", "one", "other", "loose"], c_pairs_does_lead⟩
/-- pairs.leading_road: 0=net 1=one 2=other 3=loose 4=own 5=near 6=far 7=found 8=its -/
def c_pairs_leading_road : FnC := ⟨4, 9, [.asg (.n 4) (.call 225 [] [(.v 0)]),
 .asg (.n 5) (.call 284 [] [(.v 1)]),
 .asg (.n 6) (.call 284 [] [(.v 2)]),
 .asg (.n 7) (.call 291 [] [(.v 4), (.v 5), (.v 6), (.call 285 [] [(.v 3)])]),
 .ite (.isN (.v 7)) [.rai 2 []] [],
 .ret (.bq .tuple (.comp (.v 8) (.n 8) [8] (.seq (.no)) [(.cmp .lt (.v 8) (.b1 .len (.ix (.v 4) (.c (.int 2)))))]))]⟩
def t_pairs_leading_road : FnT := ⟨"leading_road", "leading_road", L2.defArgs (top 120), L2.defBody (top 120), L2.defScope (top 120), ["net", "one", "other", "loose", "own", "near", "far", "found", "its"], ["net", "one", "other", "loose"], c_pairs_leading_road⟩
/-- pairs.is_leading_road: 0=net 1=one 2=other 3=loose 4=thing 5=own 6=near 7=far 8=told 9=found -/
def c_pairs_is_leading_road : FnC := ⟨5, 10, [.asg (.n 5) (.call 225 [] [(.v 0)]),
 .asg (.n 6) (.call 284 [] [(.v 1)]),
 .asg (.n 7) (.call 284 [] [(.v 2)]),
 .asg (.n 8) (.call 285 [] [(.v 3)]),
 .ite (.not (.no)) [.ret (.c (.bl false))] [],
 .asg (.n 9) (.call 292 [] [(.no), (.v 6)]),
 .ret (.or (.cmp .eq (.v 9) (.v 7)) (.and (.v 8) (.cmp .eq (.v 9) (.no))))]⟩
def t_pairs_is_leading_road : FnT := ⟨"is_leading_road", "is_leading_road", L2.defArgs (top 121), L2.defBody (top 121), L2.defScope (top 121), ["net", "one", "other", "loose", "thing", "own", "near", "far", "told", "found"], ["net", "one", "other", "loose", "thing"], c_pairs_is_leading_road⟩
/-- pairs.lead_net: 0=net 1=one 2=other 3=loose 4=own 5=near 6=far 7=told 8=first 9=second -/
def c_pairs_lead_net : FnC := ⟨4, 10, [.asg (.n 4) (.call 225 [] [(.v 0)]),
 .asg (.n 5) (.call 284 [] [(.v 1)]),
 .asg (.n 6) (.call 284 [] [(.v 2)]),
 .asg (.n 7) (.call 285 [] [(.v 3)]),
 .asg (.t [(.n 8), (.n 9)]) (.call 290 [] [(.v 5), (.v 6)]),
 .ite (.cmp .ne (.v 8) (.v 9)) [.rai 2 []] [],
 .ret (.call 289 [] [(.v 4), (.v 5), (.v 6), (.v 7)])]⟩
def t_pairs_lead_net : FnT := ⟨"lead_net", "lead_net", L2.defArgs (top 122), L2.defBody (top 122), L2.defScope (top 122), ["net", "one", "other", "loose", "own", "near", "far", "told", "first", "second"], ["net", "one", "other", "loose"], c_pairs_lead_net⟩
/-- pairs.lead_paper: 0=net 1=one 2=other 3=loose 4=own 5=near 6=far 7=told 8=first 9=second 10=whole -/
def c_pairs_lead_paper : FnC := ⟨4, 11, [.asg (.n 4) (.call 225 [] [(.v 0)]),
 .asg (.n 5) (.call 284 [] [(.v 1)]),
 .asg (.n 6) (.call 284 [] [(.v 2)]),
 .asg (.n 7) (.call 285 [] [(.v 3)]),
 .asg (.t [(.n 8), (.n 9)]) (.call 290 [] [(.v 5), (.v 6)]),
 .ite (.cmp .ne (.v 8) (.v 9)) [.ret (.tup [(.c (.str (strOf [100, 105, 118, 105, 115, 111, 114, 115]))), (.v 8), (.v 9)])] [],
 .asg (.n 10) (.call 289 [] [(.v 4), (.v 5), (.v 6), (.v 7)]),
 .ite (.isNN (.call 241 [] [(.v 10), (.g 1)])) [.rai 2 []] [],
 .ret (.tup [(.c (.str (strOf [98, 97, 114]))), (.no)])]⟩
def t_pairs_lead_paper : FnT := ⟨"lead_paper", "lead_paper", L2.defArgs (top 123), L2.defBody (top 123), L2.defScope (top 123), ["net", "one", "other", "loose", "own", "near", "far", "told", "first", "second", "whole"], ["net", "one", "other", "loose"], c_pairs_lead_paper⟩
/-- pairs.is_lead_paper: 0=net 1=one 2=other 3=loose 4=thing 5=own 6=near 7=far 8=told 9=first 10=second 11=its 12=whole -/
def c_pairs_is_lead_paper : FnC := ⟨5, 13, [.asg (.n 5) (.call 225 [] [(.v 0)]),
 .asg (.n 6) (.call 284 [] [(.v 1)]),
 .asg (.n 7) (.call 284 [] [(.v 2)]),
 .asg (.n 8) (.call 285 [] [(.v 3)]),
 .asg (.t [(.n 9), (.n 10)]) (.call 290 [] [(.v 6), (.v 7)]),
 .ite (.cmp .ne (.v 9) (.v 10)) [.ite (.or (.not (.call 3 [] [(.v 4), (.c (.int 3))])) (.not (.bq .all (.comp (.call 0 [] [(.v 11)]) (.n 11) [11] (.seq (.sl (.v 4) (some (.c (.int 1))) none)) [])))) [.ret (.c (.bl false))] [],
 .ret (.cmp .eq (.v 4) (.tup [(.c (.str (strOf [100, 105, 118, 105, 115, 111, 114, 115]))), (.v 9), (.v 10)]))] [],
 .asg (.n 12) (.call 289 [] [(.v 5), (.v 6), (.v 7), (.v 8)]),
 .ret (.and (.call 3 [] [(.v 4), (.c (.int 2))]) (.and (.cmp .eq (.ix (.v 4) (.c (.int 0))) (.c (.str (strOf [98, 97, 114])))) (.no)))]⟩
def t_pairs_is_lead_paper : FnT := ⟨"is_lead_paper", "is_lead_paper", L2.defArgs (top 124), L2.defBody (top 124), L2.defScope (top 124), ["net", "one", "other", "loose", "thing", "own", "near", "far", "told", "first", "second", "its", "whole"], ["net", "one", "other", "loose", "thing"], c_pairs_is_lead_paper⟩
/-- pairs.pair_table: 0=pair 1=own -/
def c_pairs_pair_table : FnC := ⟨1, 2, [.asg (.n 1) (.call 284 [] [(.v 0)]),
 .ite (.cmp .ne (.call 6 [] [(.ix (.v 1) (.c (.int 0))), (.ix (.v 1) (.c (.int 1)))]) (.c (.int 1))) [.rai 2 []] [],
 .ret (.call 18 [] [(.call 287 [] [(.v 1)])])]⟩
def t_pairs_pair_table : FnT := ⟨"pair_table", "pair_table", L2.defArgs (top 125), L2.defBody (top 125), L2.defScope (top 125), ["pair", "own"], ["pair"], c_pairs_pair_table⟩
/-- pairs.leaders_plain: 0=net 1=one 2=other 3=loose 4=own 5=near 6=far 7=told 8=first 9=second -/
def c_pairs_leaders_plain : FnC := ⟨4, 10, [.asg (.n 4) (.call 225 [] [(.v 0)]),
 .asg (.n 5) (.call 284 [] [(.v 1)]),
 .asg (.n 6) (.call 284 [] [(.v 2)]),
 .asg (.n 7) (.call 285 [] [(.v 3)]),
 .asg (.t [(.n 8), (.n 9)]) (.call 290 [] [(.v 5), (.v 6)]),
 .ite (.cmp .ne (.v 8) (.v 9)) [.rai 2 []] [],
 .ret (.call 294 [] [(.no), (.call 283 [] [(.no)])])]⟩
def t_pairs_leaders_plain : FnT := ⟨"leaders_plain", "leaders_plain", L2.defArgs (top 126), L2.defBody (top 126), L2.defScope (top 126), ["net", "one", "other", "loose", "own", "near", "far", "told", "first", "second"], ["net", "one", "other", "loose"], c_pairs_leaders_plain⟩
/-- pairs.are_few_pairs: 0=net 1=pair 2=own -/
def c_pairs_are_few_pairs : FnC := ⟨2, 3, [.asg (.n 2) (.call 225 [] [(.v 0)]),
 .ret (.not (.call 117 [] [(.call 298 [] [(.v 2), (.call 284 [] [(.v 1)])])]))]⟩
def t_pairs_are_few_pairs : FnT := ⟨"are_few_pairs", "are_few_pairs", L2.defArgs (top 127), L2.defBody (top 127), L2.defScope (top 127), ["net", "pair", "own"], ["net", "pair"], c_pairs_are_few_pairs⟩
/-- pairs.pairs_led: 0=net 1=pair 2=own 3=told 4=plain 5=shared 6=tables 7=word 8=its -/
def c_pairs_pairs_led : FnC := ⟨2, 9, [.asg (.n 2) (.call 225 [] [(.v 0)]),
 .asg (.n 3) (.call 284 [] [(.v 1)]),
 .asg (.n 4) (.call 298 [] [(.v 2), (.v 3)]),
 .ite (.no) [.rai 2 []] [],
 .asg (.n 5) (.call 6 [] [(.ix (.v 3) (.c (.int 0))), (.ix (.v 3) (.c (.int 1)))]),
 .asg (.n 6) (.comp (.comp (.no) (.n 7) [7] (.seq (.no)) [])),
 .ret (.bq .sorted (.comp (.tup [(.op .mul (.v 5) (.ix (.v 8) (.c (.int 0)))), (.op .mul (.v 5) (.ix (.v 8) (.c (.int 2))))]) (.n 8) [8] (.seq (.v 6)) []))]⟩
def t_pairs_pairs_led : FnT := ⟨"pairs_led", "pairs_led", L2.defArgs (top 128), L2.defBody (top 128), L2.defScope (top 128), ["net", "pair", "own", "told", "plain", "shared", "tables", "word", "its"], ["net", "pair"], c_pairs_pairs_led⟩
/-- k55._law_box: 0=script 1=k 2=bit_so -/
def c_k55__law_box : FnC := ⟨2, 3, [.asg (.n 2) (.ite (.cmp .lt (.v 1) (.b1 .len (.v 0))) (.ix (.v 0) (.v 1)) (.c (.int 0))),
 .ret (.lst [(.op .mul (.bi .abs [(.v 2)]) (.bi .int [(.cmp .ge (.bi .abs [(.v 2)]) (.op .pow (.c (.int 10)) (.c (.int 18))))])), (.op .add (.op .add (.op .mod (.bi .int [(.v 2)]) (.c (.int 2305843009213693951))) (.op .mul (.c (.int 39373)) (.v 1))) (.c (.int 24816055))), (.c (.int 0))])]⟩
def t_k55__law_box : FnT := ⟨"_law_box", "_law_box", L2.defArgs (top 130), L2.defBody (top 130), L2.defScope (top 130), ["script", "k", "bit_so"], ["script", "k"], c_k55__law_box⟩
/-- k55._law_take: 0=tin 1=below_so 2=drawn_so 3=once_so 4=wide_so 5=twice_so -/
def c_k55__law_take : FnC := ⟨2, 6, [.ite (.cmp .gt (.ix (.v 0) (.c (.int 0))) (.c (.int 0))) [.asg (.n 2) (.op .mod (.bi .int [(.ix (.v 0) (.c (.int 0)))]) (.v 1)),
 .asg (.s (.v 0) (.c (.int 0))) (.op .fdiv (.ix (.v 0) (.c (.int 0))) (.v 1)),
 .ret (.v 2)] [],
 .asg (.s (.v 0) (.c (.int 2))) (.op .add (.ix (.v 0) (.c (.int 2))) (.c (.int 1))),
 .asg (.n 3) (.op .mod (.bi .int [(.op .mul (.op .add (.ix (.v 0) (.c (.int 1))) (.op .mul (.c (.int 48271)) (.ix (.v 0) (.c (.int 2))))) (.op .add (.c (.int 39373)) (.ix (.v 0) (.c (.int 2)))))]) (.c (.int 2147483647))),
 .asg (.n 4) (.op .add (.op .mod (.bi .int [(.v 3)]) (.c (.int 40009))) (.c (.int 7))),
 .asg (.n 5) (.op .mod (.bi .int [(.op .mul (.op .add (.op .add (.v 3) (.ix (.v 0) (.c (.int 2)))) (.op .fdiv (.ix (.v 0) (.c (.int 1))) (.c (.int 1000003)))) (.v 4))]) (.c (.int 2147483629))),
 .ret (.op .mod (.bi .int [(.op .fdiv (.op .mod (.bi .int [(.op .add (.op .mul (.v 5) (.c (.int 48271))) (.v 3))]) (.c (.int 2147483587))) (.c (.int 64)))]) (.v 1))]⟩
def t_k55__law_take : FnT := ⟨"_law_take", "_law_take", L2.defArgs (top 131), L2.defBody (top 131), L2.defScope (top 131), ["tin", "below_so", "drawn_so", "once_so", "wide_so", "twice_so"], ["tin", "below_so"], c_k55__law_take⟩
/-- k55._law_cells: 0=script 1=most_so 2=cells_so 3=k 4=bit_so 5=at_so -/
def c_k55__law_cells : FnC := ⟨2, 6, [.asg (.n 2) (.or (.b1 .list (.sl (.v 0) none (some (.v 1)))) (.lst [(.c (.int 0))])),
 .fr (.t [(.n 3), (.n 4)]) (.enum (.sl (.v 0) (some (.v 1)) (some (.c (.int 63))))) [.asg (.n 5) (.op .mod (.bi .int [(.v 3)]) (.v 1)),
 .asg (.s (.v 2) (.v 5)) (.op .add (.ix (.v 2) (.v 5)) (.op .mul (.v 4) (.op .add (.v 3) (.c (.int 2)))))],
 .ret (.v 2)]⟩
def t_k55__law_cells : FnT := ⟨"_law_cells", "_law_cells", L2.defArgs (top 132), L2.defBody (top 132), L2.defScope (top 132), ["script", "most_so", "cells_so", "k", "bit_so", "at_so"], ["script", "most_so"], c_k55__law_cells⟩
/-- k55._law_pick: 0=tin 1=goods_so 2=count_so 3=pool_so 4=found 5=lap -/
def c_k55__law_pick : FnC := ⟨3, 6, [.par [(.n 3), (.n 4)] [(.b1 .list (.v 1)), (.lst [])],
 .fr (.n 5) (.rng [(.bi .min2 [(.bi .int [(.v 2)]), (.b1 .len (.v 3))])]) [.ex (.mt .append (.v 4) [(.mt .pop (.v 3) [(.call 310 [] [(.v 0), (.b1 .len (.v 3))])])])],
 .ret (.v 4)]⟩
def t_k55__law_pick : FnT := ⟨"_law_pick", "_law_pick", L2.defArgs (top 133), L2.defBody (top 133), L2.defScope (top 133), ["tin", "goods_so", "count_so", "pool_so", "found", "lap"], ["tin", "goods_so", "count_so"], c_k55__law_pick⟩
/-- k55._law_same: 0=got 1=due 2=mine 3=its -/
def c_k55__law_same : FnC := ⟨2, 4, [.ite (.isa [.list, .tuple] (.v 1)) [.ite (.or (.cmp .ne (.isa [.list] (.v 0)) (.isa [.list] (.v 1))) (.cmp .ne (.isa [.tuple] (.v 0)) (.isa [.tuple] (.v 1)))) [.ret (.c (.bl false))] [],
 .ret (.and (.cmp .eq (.b1 .len (.v 0)) (.b1 .len (.v 1))) (.bq .all (.comp (.call 313 [] [(.v 2), (.v 3)]) (.t [(.n 2), (.n 3)]) [2, 3] (.zip (.v 0) (.v 1)) [])))] [],
 .ite (.isN (.v 1)) [.ret (.isN (.v 0))] [],
 .ite (.isa [.bool, .str] (.v 1)) [.ret (.and (.cmp .eq (.isa [.bool] (.v 0)) (.isa [.bool] (.v 1))) (.and (.cmp .eq (.isa [.str] (.v 0)) (.isa [.str] (.v 1))) (.cmp .eq (.v 0) (.v 1))))] [],
 .ret (.and (.isa [.int] (.v 0)) (.and (.not (.isa [.bool] (.v 0))) (.cmp .eq (.v 0) (.v 1))))]⟩
def t_k55__law_same : FnT := ⟨"_law_same", "_law_same", L2.defArgs (top 134), L2.defBody (top 134), L2.defScope (top 134), ["got", "due", "mine", "its"], ["got", "due"], c_k55__law_same⟩
/-- k55._law_unmarked: 0=told_so -/
def c_k55__law_unmarked : FnC := ⟨1, 1, [.ret (.ite (.and (.isa [.list] (.v 0)) (.and (.cmp .gt (.b1 .len (.v 0)) (.c (.int 0))) (.isa [.str] (.ix (.v 0) (.c (.int 0)))))) (.lst [(.c (.str (strOf [116, 111, 108, 100]))), (.c (.str (strOf [97, 32, 109, 97, 114, 107])))]) (.v 0))]⟩
def t_k55__law_unmarked : FnT := ⟨"_law_unmarked", "_law_unmarked", L2.defArgs (top 135), L2.defBody (top 135), L2.defScope (top 135), ["told_so"], ["told_so"], c_k55__law_unmarked⟩
/-- k55._law_call: 0=door 1=goods_so -/
def c_k55__law_call : FnC := ⟨2, 2, [.ite (.cmp .lt (.b1 .len (.v 1)) (.c (.int 3))) [.ret (.ite (.cmp .eq (.b1 .len (.v 1)) (.c (.int 1))) (.calv 0 [(.ix (.v 1) (.c (.int 0)))]) (.calv 0 [(.ix (.v 1) (.c (.int 0))), (.ix (.v 1) (.c (.int 1)))]))] [],
 .ite (.cmp .eq (.b1 .len (.v 1)) (.c (.int 5))) [.ret (.calv 0 [(.ix (.v 1) (.c (.int 0))), (.ix (.v 1) (.c (.int 1))), (.ix (.v 1) (.c (.int 2))), (.ix (.v 1) (.c (.int 3))), (.ix (.v 1) (.c (.int 4)))])] [],
 .ret (.ite (.cmp .eq (.b1 .len (.v 1)) (.c (.int 3))) (.calv 0 [(.ix (.v 1) (.c (.int 0))), (.ix (.v 1) (.c (.int 1))), (.ix (.v 1) (.c (.int 2)))]) (.calv 0 [(.ix (.v 1) (.c (.int 0))), (.ix (.v 1) (.c (.int 1))), (.ix (.v 1) (.c (.int 2))), (.ix (.v 1) (.c (.int 3)))]))]⟩
def t_k55__law_call : FnT := ⟨"_law_call", "_law_call", L2.defArgs (top 136), L2.defBody (top 136), L2.defScope (top 136), ["door", "goods_so"], ["door", "goods_so"], c_k55__law_call⟩
/-- k55._law_none_fits: 0=heard_so 1=rows_so 2=door 3=goods_so 4=place_so 5=bads_so 6=own -/
def c_k55__law_none_fits : FnC := ⟨2, 7, [.fr (.t [(.n 2), (.n 3), (.n 4), (.n 5)]) (.seq (.v 1)) [.fr (.n 6) (.seq (.v 5)) [.ite (.cmp .ne (.calv 0 [(.v 2), (.op .add (.op .add (.sl (.v 3) none (some (.v 4))) (.tup [(.v 6)])) (.sl (.v 3) (some (.op .add (.v 4) (.c (.int 1)))) none))]) (.lst [(.c (.str (strOf [117, 110, 102, 105, 116]))), (.c (.bl true))])) [.ret (.c (.bl false))] []]],
 .ret (.c (.bl true))]⟩
def t_k55__law_none_fits : FnT := ⟨"_law_none_fits", "_law_none_fits", L2.defArgs (top 137), L2.defBody (top 137), L2.defScope (top 137), ["heard_so", "rows_so", "door", "goods_so", "place_so", "bads_so", "own"], ["heard_so", "rows_so"], c_k55__law_none_fits⟩
/-- k55._law_heard: 0=door 1=goods_so 2=caught 3=told_so 4=error_a 5=error_b 6=error_c -/
def c_k55__law_heard : FnC := ⟨2, 7, [.par [(.n 2), (.n 3)] [(.c (.non)), (.c (.non))],
 .tr [.asg (.n 3) (.call 314 [] [(.call 315 [] [(.v 0), (.v 1)])])] [(2, some 4, [.asg (.n 2) (.lst [(.c (.str (strOf [99, 97, 110, 110, 111, 116]))), (.isv (.v 4))])]), (1, some 5, [.asg (.n 2) (.lst [(.c (.str (strOf [109, 97, 110, 121]))), (.isv (.v 5))])]), (0, some 6, [.asg (.n 2) (.lst [(.c (.str (strOf [117, 110, 102, 105, 116]))), (.isv (.v 6))])])],
 .ret (.ite (.isN (.v 2)) (.v 3) (.v 2))]⟩
def t_k55__law_heard : FnT := ⟨"_law_heard", "_law_heard", L2.defArgs (top 138), L2.defBody (top 138), L2.defScope (top 138), ["door", "goods_so", "caught", "told_so", "error_a", "error_b", "error_c"], ["door", "goods_so"], c_k55__law_heard⟩
/-- k55._law_places: 0=right 1=net 2=tables_so 3=nets_so 4=pairs_so 5=truths_so 6=numbers_so 7=rows_so 8=own -/
def c_k55__law_places : FnC := ⟨0, 9, [.par [(.n 0), (.n 1)] [(.tup [(.c (.int 1)), (.c (.int 1)), (.c (.int 0)), (.c (.int 1))]), (.tup [(.c (.int 1)), (.tup [(.c (.int 0))]), (.tup [(.tup [(.c (.int 0)), (.tup [(.c (.int 1)), (.c (.int 1)), (.c (.int 0)), (.c (.int 1))]), (.c (.int 0))])])])],
 .asg (.n 2) (.lst [(.c (.non)), (.c (.int 5)), (.tup []), (.tup [(.v 0), (.c (.non))]), (.tup [(.tup [(.c (.int 1)), (.c (.int 1)), (.c (.int 0)), (.c (.int 2))])]), (.tup [(.tup [(.c (.int 1)), (.c (.int 1)), (.c (.int 0)), (.c (.bl true))])]), (.v 0), (.op .mul (.tup [(.v 0)]) (.c (.int 9))), (.tup [(.tup [(.op .pow (.c (.int 10)) (.c (.int 31))), (.c (.int 1)), (.neg (.c (.int 1))), (.c (.int 0))])])]),
 .asg (.n 3) (.lst [(.c (.non)), (.c (.int 5)), (.tup []), (.tup [(.c (.int 1)), (.tup [(.c (.int 0))])]), (.tup [(.c (.int 0)), (.tup []), (.tup [])]), (.tup [(.c (.int 1)), (.tup [(.c (.int 1))]), (.tup [])]), (.tup [(.c (.int 1)), (.tup [(.c (.int 0)), (.c (.int 0))]), (.tup [])]), (.tup [(.c (.int 1)), (.tup [(.c (.int 0))]), (.tup [(.tup [(.c (.int 0)), (.v 0), (.c (.int 1))])])]), (.tup [(.c (.int 1)), (.tup [(.c (.int 0))]), (.tup [(.tup [(.c (.int 0)), (.tup [(.c (.int 1)), (.c (.int 1)), (.c (.int 1)), (.c (.int 1))]), (.c (.int 0))])])]), (.tup [(.c (.int 13)), (.tup []), (.tup [])]), (.tup [(.c (.int 1)), (.tup [(.c (.int 0))]), (.op .mul (.tup [(.tup [(.c (.int 0)), (.v 0), (.c (.int 0))])]) (.c (.int 25)))])]),
 .par [(.n 4), (.n 5), (.n 6)] [(.lst [(.c (.non)), (.c (.int 5)), (.tup [(.c (.int 0)), (.c (.int 0))]), (.tup [(.c (.int 1))]), (.tup [(.c (.int 1)), (.c (.int 2)), (.c (.int 3))]), (.tup [(.c (.bl true)), (.c (.int 1))]), (.tup [(.op .pow (.c (.int 10)) (.c (.int 31))), (.c (.int 1))]), (.c (.str (strOf [49, 50])))]), (.lst [(.c (.non)), (.c (.int 0)), (.c (.int 1)), (.c (.str (strOf [121, 101, 115]))), (.tup [(.c (.bl true))])]), (.lst [(.c (.non)), (.neg (.c (.int 2))), (.c (.int 5)), (.c (.bl true)), (.c (.str (strOf [49]))), (.tup [(.c (.int 0))])])],
 .asg (.n 7) (.comp (.comp (.tup [(.v 8), (.tup [(.tup [(.v 0)])]), (.c (.int 0)), (.v 2)]) (.n 8) [8] (.seq (.tup [(.f 268), (.f 274), (.f 275), (.f 272), (.f 278), (.f 269), (.f 276)])) [])),
 .asg (.n 7) (.op .add (.v 7) (.comp (.comp (.tup [(.v 8), (.tup [(.tup [(.v 0)]), (.c (.non))]), (.c (.int 0)), (.v 2)]) (.n 8) [8] (.seq (.tup [(.f 270), (.f 273), (.f 279), (.f 277)])) []))),
 .asg (.n 7) (.op .add (.v 7) (.lst [(.tup [(.f 271), (.tup [(.tup [(.v 0), (.v 0)]), (.c (.int 0)), (.c (.int 1))]), (.c (.int 0)), (.v 2)]), (.tup [(.f 271), (.tup [(.tup [(.v 0), (.v 0)]), (.c (.int 0)), (.c (.int 1))]), (.c (.int 1)), (.lst [(.c (.non)), (.neg (.c (.int 1))), (.c (.int 2)), (.c (.bl true)), (.c (.int 1))])]), (.tup [(.f 271), (.tup [(.tup [(.v 0), (.v 0)]), (.c (.int 0)), (.c (.int 1))]), (.c (.int 2)), (.lst [(.c (.non)), (.neg (.c (.int 2))), (.c (.int 2)), (.c (.bl true)), (.c (.int 0))])])])),
 .asg (.n 7) (.op .add (.v 7) (.lst [(.tup [(.f 280), (.tup [(.tup [(.v 0)]), (.v 0), (.c (.int 2))]), (.c (.int 0)), (.v 2)]), (.tup [(.f 280), (.tup [(.tup [(.v 0)]), (.v 0), (.c (.int 2))]), (.c (.int 1)), (.lst [(.c (.non)), (.tup [(.v 0)]), (.tup [(.c (.int 1)), (.c (.int 1)), (.c (.int 0)), (.c (.int 2))]), (.tup [(.c (.int 1)), (.c (.int 1)), (.c (.int 0))]), (.tup [])])]), (.tup [(.f 280), (.tup [(.tup [(.v 0)]), (.v 0), (.c (.int 2))]), (.c (.int 2)), (.lst [(.c (.non)), (.neg (.c (.int 1))), (.c (.int 9)), (.c (.bl true)), (.c (.str (strOf [50])))])])])),
 .fr (.n 8) (.seq (.tup [(.f 299), (.f 300), (.f 302), (.f 303), (.f 306)])) [.asg (.n 7) (.op .add (.v 7) (.lst [(.tup [(.v 8), (.tup [(.v 1), (.tup [(.c (.int 1)), (.c (.int 0))]), (.tup [(.c (.int 1)), (.c (.int 0))]), (.c (.bl false))]), (.c (.int 0)), (.v 3)]), (.tup [(.v 8), (.tup [(.v 1), (.tup [(.c (.int 1)), (.c (.int 0))]), (.tup [(.c (.int 1)), (.c (.int 0))]), (.c (.bl false))]), (.c (.int 1)), (.v 4)]), (.tup [(.v 8), (.tup [(.v 1), (.tup [(.c (.int 1)), (.c (.int 0))]), (.tup [(.c (.int 1)), (.c (.int 0))]), (.c (.bl false))]), (.c (.int 2)), (.v 4)]), (.tup [(.v 8), (.tup [(.v 1), (.tup [(.c (.int 1)), (.c (.int 0))]), (.tup [(.c (.int 1)), (.c (.int 0))]), (.c (.bl false))]), (.c (.int 3)), (.v 5)])]))],
 .fr (.n 8) (.seq (.tup [(.f 301), (.f 304)])) [.asg (.n 7) (.op .add (.v 7) (.lst [(.tup [(.v 8), (.tup [(.v 1), (.tup [(.c (.int 1)), (.c (.int 0))]), (.tup [(.c (.int 1)), (.c (.int 0))]), (.c (.bl false)), (.c (.non))]), (.c (.int 0)), (.v 3)]), (.tup [(.v 8), (.tup [(.v 1), (.tup [(.c (.int 1)), (.c (.int 0))]), (.tup [(.c (.int 1)), (.c (.int 0))]), (.c (.bl false)), (.c (.non))]), (.c (.int 1)), (.v 4)]), (.tup [(.v 8), (.tup [(.v 1), (.tup [(.c (.int 1)), (.c (.int 0))]), (.tup [(.c (.int 1)), (.c (.int 0))]), (.c (.bl false)), (.c (.non))]), (.c (.int 3)), (.v 5)])]))],
 .fr (.n 8) (.seq (.tup [(.f 307), (.f 308)])) [.asg (.n 7) (.op .add (.v 7) (.lst [(.tup [(.v 8), (.tup [(.v 1), (.tup [(.c (.int 1)), (.c (.int 0))])]), (.c (.int 0)), (.v 3)]), (.tup [(.v 8), (.tup [(.v 1), (.tup [(.c (.int 1)), (.c (.int 0))])]), (.c (.int 1)), (.v 4)])]))],
 .ret (.op .add (.v 7) (.lst [(.tup [(.f 305), (.tup [(.tup [(.c (.int 1)), (.c (.int 0))])]), (.c (.int 0)), (.v 4)])]))]⟩
def t_k55__law_places : FnT := ⟨"_law_places", "_law_places", L2.defArgs (top 139), L2.defBody (top 139), L2.defScope (top 139), ["right", "net", "tables_so", "nets_so", "pairs_so", "truths_so", "numbers_so", "rows_so", "own"], [], c_k55__law_places⟩
/-- k55.law: 0=script 1=tin 2=right 3=long_so 4=got -/
def c_k55_law : FnC := ⟨1, 5, [.asg (.n 1) (.call 309 [] [(.call 311 [] [(.v 0), (.c (.int 1))]), (.c (.int 0))]),
 .ite (.not (.call 316 [] [(.f 317), (.call 312 [] [(.v 1), (.call 318 [] []), (.c (.int 99))])])) [.ret (.c (.bl false))] [],
 .par [(.n 2), (.n 3)] [(.tup [(.c (.int 1)), (.c (.int 1)), (.c (.int 0)), (.c (.int 1))]), (.tup [(.c (.int 1)), (.c (.int 30)), (.c (.int 0)), (.c (.int 1))])],
 .asg (.n 4) (.lst [(.call 317 [] [(.f 268), (.tup [(.tup [(.v 3), (.v 2)])])]), (.call 317 [] [(.f 268), (.tup [(.tup [(.tup [(.c (.int 1)), (.c (.int 61)), (.c (.int 0)), (.c (.int 1))])])])]), (.call 317 [] [(.f 274), (.tup [(.tup [(.v 2), (.tup [(.c (.int 1)), (.c (.int 0)), (.c (.int 1)), (.c (.int 1))]), (.tup [(.c (.int 2)), (.c (.int 1)), (.c (.int 1)), (.c (.int 1))]), (.tup [(.c (.int 0)), (.neg (.c (.int 1))), (.c (.int 1)), (.c (.int 0))]), (.tup [(.c (.int 0)), (.neg (.c (.int 1))), (.c (.int 1)), (.c (.int 1))])])])])]),
 .asg (.n 4) (.op .add (.v 4) (.lst [(.call 317 [] [(.f 299), (.tup [(.tup [(.c (.int 1)), (.tup [(.c (.int 0))]), (.tup [])]), (.tup [(.c (.int 1)), (.c (.int 500))]), (.tup [(.c (.int 1)), (.c (.int 0))]), (.c (.bl false))])]), (.call 317 [] [(.f 308), (.tup [(.tup [(.c (.int 1)), (.tup [(.c (.int 0))]), (.tup [])]), (.tup [(.c (.int 1)), (.c (.int 500))])])])])),
 .ret (.call 313 [] [(.v 4), (.op .mul (.lst [(.lst [(.c (.str (strOf [109, 97, 110, 121]))), (.c (.bl true))])]) (.c (.int 5)))])]⟩
def t_k55_law : FnT := ⟨"law", "law", L2.defArgs (top 140), L2.defBody (top 140), L2.defScope (top 140), ["script", "tin", "right", "long_so", "got"], ["script"], c_k55_law⟩
def lawL : List (Nat × FnT) := (0, t_plain_is_number) :: (1, t_plain_is_within) :: (3, t_plain_is_long) :: (4, t_plain_are_numbers) :: (222, t_plain_is_set) :: (5, t_plain_tupled) :: (6, t_plain_common) :: (7, t_tables_is_table_in) :: (8, t_tables_sure_table) :: (10, t_tables_back_in) :: (14, t_tables_put_on) :: (15, t_tables_joined_in) :: (16, t_tables_slide_word) :: (17, t_tables_word_in) :: (18, t_tables_table_in) :: (32, t_tables_whole_of) :: (187, t_turnwords_steps_of) :: (224, t_nets_is_net_in) :: (223, t_nets_is_tie_in) :: (225, t_nets_sure_net) :: (226, t_nets_spelled_in) :: (240, t_noughts_goal_in) :: (241, t_noughts_least_in) :: (245, t_noughts_are_triples) :: (253, t_alone_sure_some) :: (254, t_alone_parting_in) :: (255, t_alone_first_pairs) :: (256, t_alone_rows_of_road) :: (257, t_alone_two_rows_in) :: (258, t_alone_is_alone_in) :: (259, t_alone_holds_bar) :: (260, t_alone_least_bar) :: (263, t_alone_signed) :: (264, t_alone_undone_place) :: (265, t_alone_free_in) :: (266, t_alone_undoing_in) :: (268, t_alone_are_alone) :: (269, t_alone_two_rows) :: (270, t_alone_are_two_rows) :: (271, t_alone_parting_net) :: (272, t_alone_alone_paper) :: (273, t_alone_is_alone_paper) :: (274, t_alone_are_free) :: (275, t_alone_free_net) :: (276, t_alone_undoing_row) :: (277, t_alone_is_undoing_row) :: (278, t_alone_free_paper) :: (279, t_alone_is_free_paper) :: (280, t_alone_rows_making) :: (110, t_plainnets_least_rows) :: (283, t_plainnets_plain_in) :: (117, t_plainnets_rounds_in) :: (284, t_pairs_sure_two) :: (285, t_pairs_sure_truth) :: (286, t_pairs_made_plain) :: (287, t_pairs_pair_word) :: (289, t_pairs_lead_in) :: (290, t_pairs_divisors_of) :: (291, t_pairs_leads_in) :: (292, t_pairs_pair_by) :: (294, t_pairs_both_rows) :: (296, t_pairs_begun_in) :: (297, t_pairs_ended_well) :: (298, t_pairs_pairs_in) :: (299, t_pairs_does_lead) :: (300, t_pairs_leading_road) :: (301, t_pairs_is_leading_road) :: (302, t_pairs_lead_net) :: (303, t_pairs_lead_paper) :: (304, t_pairs_is_lead_paper) :: (305, t_pairs_pair_table) :: (306, t_pairs_leaders_plain) :: (307, t_pairs_are_few_pairs) :: (308, t_pairs_pairs_led) :: (309, t_k55__law_box) :: (310, t_k55__law_take) :: (311, t_k55__law_cells) :: (312, t_k55__law_pick) :: (313, t_k55__law_same) :: (314, t_k55__law_unmarked) :: (315, t_k55__law_call) :: (316, t_k55__law_none_fits) :: (317, t_k55__law_heard) :: (318, t_k55__law_places) :: (319, t_k55_law) :: []
def lawFn : Nat → Option FnC := fun n => match n with
  | 0 => some c_plain_is_number
  | 1 => some c_plain_is_within
  | 3 => some c_plain_is_long
  | 4 => some c_plain_are_numbers
  | 5 => some c_plain_tupled
  | 6 => some c_plain_common
  | 7 => some c_tables_is_table_in
  | 8 => some c_tables_sure_table
  | 10 => some c_tables_back_in
  | 14 => some c_tables_put_on
  | 15 => some c_tables_joined_in
  | 16 => some c_tables_slide_word
  | 17 => some c_tables_word_in
  | 18 => some c_tables_table_in
  | 32 => some c_tables_whole_of
  | 110 => some c_plainnets_least_rows
  | 117 => some c_plainnets_rounds_in
  | 187 => some c_turnwords_steps_of
  | 222 => some c_plain_is_set
  | 223 => some c_nets_is_tie_in
  | 224 => some c_nets_is_net_in
  | 225 => some c_nets_sure_net
  | 226 => some c_nets_spelled_in
  | 240 => some c_noughts_goal_in
  | 241 => some c_noughts_least_in
  | 245 => some c_noughts_are_triples
  | 253 => some c_alone_sure_some
  | 254 => some c_alone_parting_in
  | 255 => some c_alone_first_pairs
  | 256 => some c_alone_rows_of_road
  | 257 => some c_alone_two_rows_in
  | 258 => some c_alone_is_alone_in
  | 259 => some c_alone_holds_bar
  | 260 => some c_alone_least_bar
  | 263 => some c_alone_signed
  | 264 => some c_alone_undone_place
  | 265 => some c_alone_free_in
  | 266 => some c_alone_undoing_in
  | 268 => some c_alone_are_alone
  | 269 => some c_alone_two_rows
  | 270 => some c_alone_are_two_rows
  | 271 => some c_alone_parting_net
  | 272 => some c_alone_alone_paper
  | 273 => some c_alone_is_alone_paper
  | 274 => some c_alone_are_free
  | 275 => some c_alone_free_net
  | 276 => some c_alone_undoing_row
  | 277 => some c_alone_is_undoing_row
  | 278 => some c_alone_free_paper
  | 279 => some c_alone_is_free_paper
  | 280 => some c_alone_rows_making
  | 283 => some c_plainnets_plain_in
  | 284 => some c_pairs_sure_two
  | 285 => some c_pairs_sure_truth
  | 286 => some c_pairs_made_plain
  | 287 => some c_pairs_pair_word
  | 289 => some c_pairs_lead_in
  | 290 => some c_pairs_divisors_of
  | 291 => some c_pairs_leads_in
  | 292 => some c_pairs_pair_by
  | 294 => some c_pairs_both_rows
  | 296 => some c_pairs_begun_in
  | 297 => some c_pairs_ended_well
  | 298 => some c_pairs_pairs_in
  | 299 => some c_pairs_does_lead
  | 300 => some c_pairs_leading_road
  | 301 => some c_pairs_is_leading_road
  | 302 => some c_pairs_lead_net
  | 303 => some c_pairs_lead_paper
  | 304 => some c_pairs_is_lead_paper
  | 305 => some c_pairs_pair_table
  | 306 => some c_pairs_leaders_plain
  | 307 => some c_pairs_are_few_pairs
  | 308 => some c_pairs_pairs_led
  | 309 => some c_k55__law_box
  | 310 => some c_k55__law_take
  | 311 => some c_k55__law_cells
  | 312 => some c_k55__law_pick
  | 313 => some c_k55__law_same
  | 314 => some c_k55__law_unmarked
  | 315 => some c_k55__law_call
  | 316 => some c_k55__law_none_fits
  | 317 => some c_k55__law_heard
  | 318 => some c_k55__law_places
  | 319 => some c_k55_law
  | _ => none
def lawCon : Nat → D := fun n => match n with
  | 0 => .int (1000000000000000000000000000000)
  | 1 => .tup [.int (1), .int (0), .int (0), .int (1)]
  | 2 => .tup [.int (-1), .int (0), .int (0), .int (-1)]
  | 3 => .int (120)
  | 18 => .int (24)
  | 19 => .int (12)
  | 20 => .int (90)
  | 21 => .int (2000)
  | 24 => .int (8)
  | 25 => .int (8)
  | 26 => .int (5000)
  | 27 => .int (600)
  | 28 => .tup [.int (-1), .tup [.int (1), .int (2)]]
  | 29 => .tup [.int (-1), .tup [.int (3), .int (1)]]
  | 30 => .int (12)
  | 31 => .tup [.int (1), .int (1), .int (0), .int (1)]
  | _ => .non
def lawGdc : Nat → List (D × D) := fun _ => []
def lawT : Tab := ⟨lawFn, lawCon, lawGdc, fun _ => 0, fun n => true⟩
def lawGl : List (PySem.Str × Gv) := (PySem.Str.ofString "is_number", Gv.fn 0) :: (PySem.Str.ofString "is_within", Gv.fn 1) :: (PySem.Str.ofString "is_long", Gv.fn 3) :: (PySem.Str.ofString "are_numbers", Gv.fn 4) :: (PySem.Str.ofString "is_set", Gv.fn 222) :: (PySem.Str.ofString "tupled", Gv.fn 5) :: (PySem.Str.ofString "common", Gv.fn 6) :: (PySem.Str.ofString "is_table_in", Gv.fn 7) :: (PySem.Str.ofString "sure_table", Gv.fn 8) :: (PySem.Str.ofString "back_in", Gv.fn 10) :: (PySem.Str.ofString "put_on", Gv.fn 14) :: (PySem.Str.ofString "joined_in", Gv.fn 15) :: (PySem.Str.ofString "slide_word", Gv.fn 16) :: (PySem.Str.ofString "word_in", Gv.fn 17) :: (PySem.Str.ofString "table_in", Gv.fn 18) :: (PySem.Str.ofString "whole_of", Gv.fn 32) :: (PySem.Str.ofString "steps_of", Gv.fn 187) :: (PySem.Str.ofString "is_net_in", Gv.fn 224) :: (PySem.Str.ofString "is_tie_in", Gv.fn 223) :: (PySem.Str.ofString "sure_net", Gv.fn 225) :: (PySem.Str.ofString "spelled_in", Gv.fn 226) :: (PySem.Str.ofString "goal_in", Gv.fn 240) :: (PySem.Str.ofString "least_in", Gv.fn 241) :: (PySem.Str.ofString "are_triples", Gv.fn 245) :: (PySem.Str.ofString "sure_some", Gv.fn 253) :: (PySem.Str.ofString "parting_in", Gv.fn 254) :: (PySem.Str.ofString "first_pairs", Gv.fn 255) :: (PySem.Str.ofString "rows_of_road", Gv.fn 256) :: (PySem.Str.ofString "two_rows_in", Gv.fn 257) :: (PySem.Str.ofString "is_alone_in", Gv.fn 258) :: (PySem.Str.ofString "holds_bar", Gv.fn 259) :: (PySem.Str.ofString "least_bar", Gv.fn 260) :: (PySem.Str.ofString "signed", Gv.fn 263) :: (PySem.Str.ofString "undone_place", Gv.fn 264) :: (PySem.Str.ofString "free_in", Gv.fn 265) :: (PySem.Str.ofString "undoing_in", Gv.fn 266) :: (PySem.Str.ofString "are_alone", Gv.fn 268) :: (PySem.Str.ofString "two_rows", Gv.fn 269) :: (PySem.Str.ofString "are_two_rows", Gv.fn 270) :: (PySem.Str.ofString "parting_net", Gv.fn 271) :: (PySem.Str.ofString "alone_paper", Gv.fn 272) :: (PySem.Str.ofString "is_alone_paper", Gv.fn 273) :: (PySem.Str.ofString "are_free", Gv.fn 274) :: (PySem.Str.ofString "free_net", Gv.fn 275) :: (PySem.Str.ofString "undoing_row", Gv.fn 276) :: (PySem.Str.ofString "is_undoing_row", Gv.fn 277) :: (PySem.Str.ofString "free_paper", Gv.fn 278) :: (PySem.Str.ofString "is_free_paper", Gv.fn 279) :: (PySem.Str.ofString "rows_making", Gv.fn 280) :: (PySem.Str.ofString "least_rows", Gv.fn 110) :: (PySem.Str.ofString "plain_in", Gv.fn 283) :: (PySem.Str.ofString "rounds_in", Gv.fn 117) :: (PySem.Str.ofString "sure_two", Gv.fn 284) :: (PySem.Str.ofString "sure_truth", Gv.fn 285) :: (PySem.Str.ofString "made_plain", Gv.fn 286) :: (PySem.Str.ofString "pair_word", Gv.fn 287) :: (PySem.Str.ofString "lead_in", Gv.fn 289) :: (PySem.Str.ofString "divisors_of", Gv.fn 290) :: (PySem.Str.ofString "leads_in", Gv.fn 291) :: (PySem.Str.ofString "pair_by", Gv.fn 292) :: (PySem.Str.ofString "both_rows", Gv.fn 294) :: (PySem.Str.ofString "begun_in", Gv.fn 296) :: (PySem.Str.ofString "ended_well", Gv.fn 297) :: (PySem.Str.ofString "pairs_in", Gv.fn 298) :: (PySem.Str.ofString "does_lead", Gv.fn 299) :: (PySem.Str.ofString "leading_road", Gv.fn 300) :: (PySem.Str.ofString "is_leading_road", Gv.fn 301) :: (PySem.Str.ofString "lead_net", Gv.fn 302) :: (PySem.Str.ofString "lead_paper", Gv.fn 303) :: (PySem.Str.ofString "is_lead_paper", Gv.fn 304) :: (PySem.Str.ofString "pair_table", Gv.fn 305) :: (PySem.Str.ofString "leaders_plain", Gv.fn 306) :: (PySem.Str.ofString "are_few_pairs", Gv.fn 307) :: (PySem.Str.ofString "pairs_led", Gv.fn 308) :: (PySem.Str.ofString "_law_box", Gv.fn 309) :: (PySem.Str.ofString "_law_take", Gv.fn 310) :: (PySem.Str.ofString "_law_cells", Gv.fn 311) :: (PySem.Str.ofString "_law_pick", Gv.fn 312) :: (PySem.Str.ofString "_law_same", Gv.fn 313) :: (PySem.Str.ofString "_law_unmarked", Gv.fn 314) :: (PySem.Str.ofString "_law_call", Gv.fn 315) :: (PySem.Str.ofString "_law_none_fits", Gv.fn 316) :: (PySem.Str.ofString "_law_heard", Gv.fn 317) :: (PySem.Str.ofString "_law_places", Gv.fn 318) :: (PySem.Str.ofString "law", Gv.fn 319) :: (PySem.Str.ofString "GREATEST", Gv.con 0) :: (PySem.Str.ofString "STILL", Gv.con 1) :: (PySem.Str.ofString "OVER", Gv.con 2) :: (PySem.Str.ofString "MOST_LETTERS", Gv.con 3) :: (PySem.Str.ofString "MOST_TIES", Gv.con 18) :: (PySem.Str.ofString "MOST_CORNERS", Gv.con 19) :: (PySem.Str.ofString "MOST_STEPS", Gv.con 20) :: (PySem.Str.ofString "MOST_ROAD", Gv.con 21) :: (PySem.Str.ofString "MOST_TABLES", Gv.con 24) :: (PySem.Str.ofString "MOST_LONG", Gv.con 25) :: (PySem.Str.ofString "MOST_LISTED", Gv.con 26) :: (PySem.Str.ofString "MOST_ROWS", Gv.con 27) :: (PySem.Str.ofString "RIGHT_WORD", Gv.con 28) :: (PySem.Str.ofString "LEFT_BACK", Gv.con 29) :: (PySem.Str.ofString "SPARE", Gv.con 30) :: (PySem.Str.ofString "RIGHT", Gv.con 31) :: (PySem.Str.ofString "Unfit", Gv.exc 0) :: (PySem.Str.ofString "TooMany", Gv.exc 1) :: (PySem.Str.ofString "CanNot", Gv.exc 2) :: []
def lawKw : Nat → List (Nat × List PySem.Str × List Nat) := fun n => match n with
  | _ => []
def lawCn : Nat → PySem.Str := fun n => match n with
  | 0 => "Unfit"
  | 1 => "TooMany"
  | 2 => "CanNot"
  | _ => ""
def lawGn : Nat → PySem.Str := fun _ => ""
theorem lawHg : ∀ n, lawT.gdc n ≠ [] → ∃ x, lawGl.lookup x = some (Gv.gd n) := by
  intro n h
  have h : lawGdc n ≠ [] := h
  unfold lawGdc at h
  exact absurd rfl h
def lawLn : Ln := ⟨lawT, lawL, lawGl, lawKw, lawGn, lawCn, [0, 1, 2]⟩
end TR
set_option Elab.async false
set_option autoImplicit false
set_option linter.all false
set_option maxRecDepth 100000
set_option maxHeartbeats 0
namespace TR
open PySem PySem.W PySem.Calls PyProof.Rows
abbrev Rw : OpenRow := OpenLaw.row PySem.Challenge.rw_tableroads_k55_ways_and_pairs_refused
def loose0 : List PySem.Str := ["CanNot", "TooMany", "Unfit", "is_number", "is_within", "is_long", "are_numbers", "is_set", "tupled", "common", "GREATEST", "MOST_LETTERS", "STILL", "OVER", "TURNS", "is_table_in", "sure_table", "product_in", "back_in", "put_on", "joined_in", "slide_word", "word_in", "table_in", "whole_of", "steps_of", "MOST_CORNERS", "MOST_TIES", "MOST_STEPS", "MOST_ROAD"]
def loose1 : List PySem.Str := ["is_net_in", "is_tie_in", "sure_net", "spelled_in", "ends_of", "made_by", "is_road_in", "NOUGHT", "TWICE", "Noughts", "better", "flat_parts", "goal_in", "least_in", "road_in", "noughts_in", "is_triple", "are_triples", "Floor", "MOST_TABLES", "MOST_LONG", "MOST_LISTED", "sure_some", "parting_in", "first_pairs", "rows_of_road", "two_rows_in", "is_alone_in", "holds_bar", "least_bar"]
def loose2 : List PySem.Str := ["row_made", "is_row_in", "signed", "undone_place", "free_in", "undoing_in", "many_rows", "are_alone", "two_rows", "are_two_rows", "parting_net", "alone_paper", "is_alone_paper", "are_free", "free_net", "undoing_row", "is_undoing_row", "free_paper", "is_free_paper", "rows_making", "MOST_ROWS", "NOTHING", "goes_on", "stood_by", "raw_of", "lively_in", "least_rows", "numbered", "plain_in", "rounds_in"]
def loose3 : List PySem.Str := ["words_in", "RIGHT", "RIGHT_WORD", "LEFT_BACK", "SPARE", "sure_two", "sure_truth", "made_plain", "pair_word", "lead_ties", "lead_in", "divisors_of", "leads_in", "pair_by", "contrary", "both_rows", "leaders_in", "begun_in", "ended_well", "pairs_in", "does_lead", "leading_road", "is_leading_road", "lead_net", "lead_paper", "is_lead_paper", "pair_table", "leaders_plain", "are_few_pairs", "pairs_led"]
def loose4 : List PySem.Str := ["_law_box", "_law_take", "_law_cells", "_law_pick", "_law_same", "_law_unmarked", "_law_call", "_law_none_fits", "_law_heard", "_law_places", "law"]
def lawLoose : List PySem.Str := loose0 ++ loose1 ++ loose2 ++ loose3 ++ loose4
abbrev lawHk : PySem.W.Hook := lawLn.hook 5
def lawOb (s : PySem.W.SharedT) : AlX := lawLn.obs 5 (HandSHeadRun.getT s)
theorem lawObEq (s : PySem.W.SharedT) : lawOb s = lawHk.obs s.abs := lawLn.obs_eq (HandSHeadRun.getT_eq s)
theorem lawRunF (w : World) : HandSHeadRun.RunEq Rw (PySem.W.view Rw.prog [140]) lawHk lawOb 12000 lawLoose (w.withFollow "special-get-raises" false) := by
  intro os
  kernel_rfl
theorem lawRunT (w : World) : HandSHeadRun.RunEq Rw (PySem.W.view Rw.prog [140]) lawHk lawOb 12000 lawLoose (w.withFollow "special-get-raises" true) := by
  intro os
  kernel_rfl
theorem lawRun (w : World) : HandSHeadRun.RunEq Rw (PySem.W.view Rw.prog [140]) lawHk lawOb 12000 lawLoose w :=
  PySem.W.byRow2 "special-get-raises" (P := fun w => HandSHeadRun.RunEq Rw (PySem.W.view Rw.prog [140]) lawHk lawOb 12000 lawLoose w) lawRunF lawRunT w
end TR
set_option autoImplicit false
set_option linter.all false
set_option maxRecDepth 100000
/-! xs[::-1] of a tuple. -/
namespace TR
open PySem PySem.Spec PyProof.Rows L2 HT
section
variable {prog : Program} {w : World} {A : Around} {E : Value → Shared → Prop} {s : Shared}
theorem adj_rev (n : Nat) : Builtin.Slice.sliceAdjust none none (-1) (n : Int) = ((n : Int) - 1, -1) := by
  unfold Builtin.Slice.sliceAdjust
  have h1 : ((-1 : Int) < 0) := by omega
  simp only [h1, if_true]
theorem plc_rev (n : Nat) : Builtin.Slice.slicePlaces ((n : Int) - 1) (-1) (-1) = n := by
  unfold Builtin.Slice.slicePlaces
  have h1 : ¬ ((-1 : Int) > 0) := by omega
  simp only [h1, if_false]
  simp
  try (split <;> omega)
theorem applied_rev {sl : Addr} {vs : Value} {n : Nat} {Q : Int × Int × Nat → Shared → Prop} (hs : s.heap.IsSliceOf sl .none .none vs) (ps : IsPart vs (some (-1))) (h : Q ((n : Int) - 1, -1, n) s) : wpAny (model prog w) A (Builtin.Slice.sliceApplied (.ref sl) (pure (n : Int))) Q E s := by
  obtain ⟨ob, ho, hc, hd⟩ := id hs
  unfold Builtin.Slice.sliceApplied Builtin.Slice.sliceFields
  refine wpAny_bind (wpAny_bind (wpAny_field ho hd (x := .none) rfl (wpAny_bind (wpAny_field ho hd (x := .none) rfl (wpAny_bind (wpAny_field ho hd (x := vs) rfl (wpAny_pure ?_)))))))
  refine wpAny_bind (slicePart_ ps ?_)
  show wpAny _ _ (if ((-1 : Int) == 0) = true then _ else _) _ _ s
  rw [if_neg (by decide)]
  refine wpAny_bind (slicePart_ .none (wpAny_bind (slicePart_ .none (wpAny_bind (wpAny_pure ?_)))))
  show wpAny _ _ (match Builtin.Slice.sliceAdjust none none (-1) (n : Int) with | (a, b) => pure (a, (-1 : Int), Builtin.Slice.slicePlaces a b (-1))) _ _ s
  rw [adj_rev n]
  show wpAny _ _ (pure ((n : Int) - 1, (-1 : Int), Builtin.Slice.slicePlaces ((n : Int) - 1) (-1) (-1))) _ _ s
  rw [plc_rev]
  exact wpAny_pure h
theorem pick_rev (xs : Array Value) : ((List.range xs.size).filterMap fun (m : Nat) => xs[((xs.size : Int) - 1 + (m : Int) * (-1)).toNat]?).toArray = xs.toList.reverse.toArray := by
  have e : (fun (m : Nat) => xs[((xs.size : Int) - 1 + (m : Int) * (-1)).toNat]?) = (fun k => xs[k]?) ∘ fun m => xs.size - 1 - m := by
    funext m
    have : ((xs.size : Int) - 1 + (m : Int) * (-1)).toNat = xs.size - 1 - m := by omega
    show xs[((xs.size : Int) - 1 + (m : Int) * (-1)).toNat]? = _
    rw [this]
    rfl
  rw [e, ← List.filterMap_map, PySem.W.krv_range, List.filterMap_reverse, PySem.W.krv_all]
theorem item_rev {t sl : Addr} {items : Array Value} {vs : Value} {Q : Value → Shared → Prop} (ht : IsTup s.heap t items) (hs : s.heap.IsSliceOf sl .none .none vs) (ps : IsPart vs (some (-1))) (h : Q (.ref s.heap.objs.size) { s with heap := s.heap.push { cls := .type "tuple", data := .seq items.toList.reverse.toArray } })
    (hz : items.size ≤ sizeLine) : wpAny (model prog w) A (getItem (.ref t) (.ref sl)) Q E s := by
  obtain ⟨ob, ho, hc, hd⟩ := id hs
  have hT : s.TypeIs (.ref sl) "slice" := ⟨ob, ho, hc⟩
  have hsz : sizeOk (.seq items.toList.reverse.toArray) := by
    show items.toList.reverse.toArray.size ≤ sizeLine
    rw [List.size_toArray, List.length_reverse, Array.length_toList]
    exact hz
  unfold getItem
  first | with_reducible refine wpAny_holding ?_ | skip
  first | refine wpAny_bind (wpAny_pure ?_) | skip
  refine wpAny_bind (wpAny_sequenceKey ht.typeIs (by decide) ?_)
  refine wpAny_bind (wpAny_callSpecial?_slot (name := Str.ofString "__getitem__") ht.typeIs PyProof.Rows.slot_tuple_getitem (wpAny_call_entry PyProof.Rows.slot_tuple_getitem ht.typeIs entry_tuple_getitem ?_ (args_tuple_getitem _ _)))
  show wpAny _ _ (Builtin.Tuple.tupleItemsOf (.ref t) >>= _) _ _ s
  refine wpAny_bind (tupleItemsOf_ ht (wpAny_bind (wpAny_typeOf hT ?_)))
  rw [if_pos (by decide)]
  refine wpAny_bind (applied_rev hs ps ?_)
  have no : ¬ ((((items.size : Int) - 1) == 0 && (-1 : Int) == 1 && items.size == items.size) = true) := by simp
  show wpAny _ _ (if (((items.size : Int) - 1) == 0 && (-1 : Int) == 1 && items.size == items.size) = true then _ else _) _ _ s
  rw [if_neg no, pick_rev]
  first
    | exact wpAny_bind (m := Builtin.Tuple.tupleExact _) (wpAny_newObj_type (wpAny_pure ⟨_, rfl, wpAny_pure h⟩) hsz)
    | exact wpAny_bind (m := Builtin.Tuple.tupleExact _) (wpAny_newObj_type (wpAny_bind (wpAny_pure (wpAny_pure ⟨_, rfl, wpAny_pure h⟩))) hsz)
    | exact wpAny_bind (wpAny_bind (m := Builtin.Tuple.tupleExact _) (wpAny_newObj_type (wpAny_pure (wpAny_pure ⟨_, rfl, wpAny_pure h⟩)) hsz))
    | exact wpAny_bind (wpAny_bind (m := Builtin.Tuple.tupleExact _) (wpAny_newObj_type (wpAny_pure ⟨_, rfl, wpAny_pure h⟩) hsz))
end
/-- xs[::-1], a list or a tuple -/
def tRevA (K : PySem.W.Frag) (te : TE) : TE := fun σ H Q => te σ H fun x H1 => ∃ a xs, x = .ref a ∧ ((SqL K H1 a xs ∧ ∀ p, H1 p = none → Q (.ref p) (upd H1 p (.lst xs.reverse))) ∨ (SqT K H1 a xs ∧ ∀ p, H1 p = none → Q (.ref p) (upd H1 p (.tup xs.reverse))))
theorem pe_revA {X : Cx} {e : Expr} {te : TE} {k : Nat} {p1 p2 p3 pos : Pos} (he : PE X e te) : PE X (.Subscript e (.Slice none none (some (.UnaryOp .USub (.Constant (.int 1) k p1) p2)) p3) pos) (tRevA X.K te) := by
  refine ⟨fun pins s σ H Q I h => Subscript_ (thn (he.run pins s σ H _ I h) fun v s1 ⟨x, H1, I1, r1, a, xs, ex, q⟩ => ?_)⟩
  subst ex
  cases r1
  have hst : PO X (some (.UnaryOp .USub (.Constant (.int 1) k p1) p2)) (tPart (tUn (rU fun i => .int (-i)) (tC (.int 1)))) := po_some (pe_un un_neg pe_int)
  refine wpAny_Slice (thn (po_none.run pins s1 σ H1 (fun o G => o = none ∧ G = H1) I1 ⟨rfl, rfl⟩) fun vl s2 ⟨l, H2, I2, pl, el, e2⟩ => ?_)
  subst el e2
  refine thn (po_none.run pins s2 σ H2 (fun o G => o = none ∧ G = H2) I2 ⟨rfl, rfl⟩) fun vu s3 ⟨u, H3, I3, pu, eu, e3⟩ => ?_
  subst eu e3
  refine thn (hst.run pins s3 σ H3 (fun o G => o = some (-1) ∧ G = H3) I3 ⟨1, rfl, -1, rfl, rfl, rfl⟩) fun vs s4 ⟨o, H4, I4, ps, eo, e4⟩ => ?_
  subst eo e4
  have I5 : Inv X pins σ H4 { s4 with heap := s4.heap.push { cls := .type "slice", data := .fields #[vl, vu, vs] } } := I4.kept (t' := s4.toks) fun b ob q => Heap.get?_push_of_some _ q
  show wpAny (model X.prog X.w) X.A (subscriptTail e (.Slice none none (some (.UnaryOp .USub (.Constant (.int 1) k p1) p2)) p3) (.ref a) (.ref s4.heap.objs.size)) (EP X pins σ Q) X.xe { s4 with heap := s4.heap.push { cls := .type "slice", data := .fields #[vl, vu, vs] } }
  rcases q with ⟨hx, q⟩ | ⟨hx, q⟩
  · obtain ⟨its, r, ht, hz⟩ := I5.list hx
    have hl := r.length
    refine tail_any (ops := [.ref a, .ref s4.heap.objs.size]) ht.isList.typeIs (PySem.slot_list_getitem.lookup) (wpAny_getItem_list_slice ht.isList (Heap.IsSliceOf.new _ vl vu vs) pl pu ps (by decide) ?_ (by rw [List.size_toArray]; omega)) (by with_unfolding_all rfl)
    rw [PySem.W.krv_pick]
    exact ⟨.ref _, _, I5.laid (t' := s4.toks) (o := .lst xs.reverse) (fun b ob q => Heap.get?_push_of_some _ q) (Nat.le_refl _) ⟨by rw [List.length_reverse]; exact hz, _, 0, r.reverse, Heap.get?_push_size _ rfl⟩, rfl, q _ (I5.hok.fresh (Nat.le_refl _))⟩
  · obtain ⟨its, r, ht, hz⟩ := I5.tuple hx
    have hl := r.length
    have sl := Heap.IsSliceOf.new s4.heap vl vu vs
    cases pl
    cases pu
    refine tail_any (ops := [.ref a, .ref s4.heap.objs.size]) ht.typeIs PyProof.Rows.slot_tuple_getitem.lookup (item_rev ht sl ps ?_ (by rw [List.size_toArray]; omega)) (by with_unfolding_all rfl)
    exact ⟨.ref _, _, I5.laid (t' := s4.toks) (o := .tup xs.reverse) (fun b ob q => Heap.get?_push_of_some _ q) (Nat.le_refl _) ⟨by rw [List.length_reverse]; exact hz, _, r.reverse, IsTup.new _ _⟩, rfl, q _ (I5.hok.fresh (Nat.le_refl _))⟩
end TR
set_option autoImplicit false
set_option linter.all false
set_option maxRecDepth 100000
/-! How the small language's values and store lie in the layer's heap. -/
namespace TR
open PySem PySem.Spec PyProof.Rows L2
/-- the written part, by numbers: where a def, a written dict, a class stands; a field's name; the exceptions at hand -/
structure Zn where
  K : PySem.W.Frag
  fa : Nat → Addr
  ga : Nat → Addr
  ca : Nat → Addr
  fld : Nat → Str
  exo : Addr → Nat → Prop
  kws : Nat → List (Nat × List Str × List Nat)
  pr : Nat → Prop
  xc : Nat → Prop
structure Wd where
  n : Nat
  ρ : Nat → Addr
/-- a list that is read, never written -/
def SqR (K : PySem.W.Frag) (H : Hp) (a : Addr) (xs : List V) : Prop :=
  (∃ o, H a = some (.frz o (.lst xs))) ∨ ∃ (o : Obj) (its : Array Value) (n : Nat), K.lookup a = some o ∧ o.cls = .type "list" ∧ o.dict = none ∧ o.data = .seq its n ∧ its.size ≤ sizeLine ∧ Vals xs its.toList
theorem SqR.l {K : PySem.W.Frag} {H : Hp} {a : Addr} {xs : List V} (h : SqR K H a xs) : SqL K H a xs := by
  rcases h with ⟨o, h⟩ | h
  · exact .inl (.inr ⟨o, h⟩)
  · exact .inr h
section
variable {Z : Zn} {W W' W'' : Wd} {H H' H'' : Hp} {s s' s'' : Sto}
mutual
def RD (Z : Zn) (W : Wd) (H : Hp) : D → V → Prop
  | .non, v => v = .non
  | .bl b, v => v = .bl b
  | .int i, v => v = .int i
  | .str x, v => v = .str x
  | .tup ds, v => ∃ a vs, v = .ref a ∧ SqT Z.K H a vs ∧ RDs Z W H ds vs
  | .rol ds, v => ∃ a vs, v = .ref a ∧ SqR Z.K H a vs ∧ RDs Z W H ds vs
  | .ref n, v => n < W.n ∧ v = .ref (W.ρ n)
  | .fn f, v => v = .ref (Z.fa f) ∧ Z.pr f
  | .gd n, v => v = .ref (Z.ga n)
  | .ex c, v => ∃ a, v = .ref a ∧ Z.exo a c
def RDs (Z : Zn) (W : Wd) (H : Hp) : List D → List V → Prop
  | [], vs => vs = []
  | d :: ds, vs => ∃ v r, vs = v :: r ∧ RD Z W H d v ∧ RDs Z W H ds r
end
/-- fields by number, by name -/
def RFs (Z : Zn) (W : Wd) (H : Hp) : List (Nat × D) → List (Str × V) → Prop
  | [], gs => gs = []
  | (f, d) :: r, gs => ∃ v t, gs = (Z.fld f, v) :: t ∧ RD Z W H d v ∧ RFs Z W H r t
def RKs (Z : Zn) (W : Wd) (H : Hp) : List (D × D) → List (Key × V) → Prop
  | [], gs => gs = []
  | (k, d) :: r, gs => ∃ q v t, gs = (q, v) :: t ∧ keyV k = some q ∧ RD Z W H d v ∧ RKs Z W H r t
def CellOk (Z : Zn) (W : Wd) (H : Hp) (a : Addr) : Cell → Prop
  | .lst xs => ∃ vs, H a = some (.lst vs) ∧ RDs Z W H xs vs
  | .dct kvs => ∃ gs, H a = some (.dK gs) ∧ RKs Z W H kvs gs
  | .ins c fs => ∃ dx gs, H a = some (.ins (Z.ca c) dx gs) ∧ RFs Z W H fs gs
structure RS (Z : Zn) (W : Wd) (s : Sto) (H : Hp) : Prop where
  n : W.n = s.next
  inj : ∀ i j, i < W.n → j < W.n → W.ρ i = W.ρ j → i = j
  has : ∀ i, i < W.n → ∃ c, s.get i = some c ∧ CellOk Z W H (W.ρ i) c
  lt : ∀ i c, s.get i = some c → i < W.n
structure Ex (W : Wd) (H : Hp) (W' : Wd) (H' : Hp) : Prop where
  le : W.n ≤ W'.n
  ρ : ∀ i, i < W.n → W'.ρ i = W.ρ i
  new : ∀ i, W.n ≤ i → i < W'.n → H (W'.ρ i) = none
  kp : ∀ a o, H a = some o → (∀ i, i < W.n → W.ρ i ≠ a) → H' a = some o
  th : ∀ a, H a ≠ none → H' a ≠ none
theorem Ex.refl : Ex W H W H := ⟨Nat.le_refl _, fun _ _ => rfl, fun _ a b => absurd b (Nat.not_lt.mpr a), fun _ _ h _ => h, fun _ h => h⟩
theorem Ex.trans (a : Ex W H W' H') (b : Ex W' H' W'' H'') : Ex W H W'' H'' := by
  refine ⟨Nat.le_trans a.le b.le, fun i h => (b.ρ i (Nat.lt_of_lt_of_le h a.le)).trans (a.ρ i h), fun i h1 h2 => ?_, fun x o h n => ?_, fun x h => b.th x (a.th x h)⟩
  · by_cases h3 : i < W'.n
    · rw [b.ρ i h3]
      exact a.new i h1 h3
    · have q := b.new i (Nat.not_lt.mp h3) h2
      cases e : H (W''.ρ i) with
      | none => rfl
      | some o => exact absurd q (a.th _ (by rw [e]; exact Option.some_ne_none o))
  · refine b.kp x o (a.kp x o h n) fun i hi e => ?_
    by_cases h3 : i < W.n
    · rw [a.ρ i h3] at e
      exact n i h3 e
    · have := a.new i (Nat.not_lt.mp h3) hi
      rw [e, h] at this
      cases this
/-- a cell is no tuple -/
theorem CellOk.ntup {a : Addr} {c : Cell} (h : CellOk Z W H a c) : ∀ z, H a ≠ some (.tup z) := by
  intro z e
  cases c with
  | lst xs => obtain ⟨_, q, _⟩ := h; rw [e] at q; cases q
  | dct kvs => obtain ⟨_, q, _⟩ := h; rw [e] at q; cases q
  | ins c fs => obtain ⟨_, _, q, _⟩ := h; rw [e] at q; cases q
theorem CellOk.nfrz {a : Addr} {c : Cell} (h : CellOk Z W H a c) : ∀ o z, H a ≠ some (.frz o z) := by
  intro o z e
  cases c with
  | lst xs => obtain ⟨_, q, _⟩ := h; rw [e] at q; cases q
  | dct kvs => obtain ⟨_, q, _⟩ := h; rw [e] at q; cases q
  | ins c fs => obtain ⟨_, _, q, _⟩ := h; rw [e] at q; cases q
theorem CellOk.isome {a : Addr} {c : Cell} (h : CellOk Z W H a c) : ∃ u, H a = some u := by
  cases c with
  | lst xs => obtain ⟨_, q, _⟩ := h; exact ⟨_, q⟩
  | dct kvs => obtain ⟨_, q, _⟩ := h; exact ⟨_, q⟩
  | ins c fs => obtain ⟨_, _, q, _⟩ := h; exact ⟨_, q⟩
/-- what is kept of tuples -/
structure Tk (W : Wd) (H : Hp) (W' : Wd) (H' : Hp) : Prop where
  le : W.n ≤ W'.n
  ρ : ∀ i, i < W.n → W'.ρ i = W.ρ i
  tp : ∀ a o, ((∃ u, o = .tup u) ∨ ∃ ob u, o = .frz ob u) → H a = some o → H' a = some o
theorem Tk.refl : Tk W H W H := ⟨Nat.le_refl _, fun _ _ => rfl, fun _ _ _ h => h⟩
theorem Tk.sqT (k : Tk W H W' H') {K : PySem.W.Frag} {a : Addr} {xs : List V} (h : SqT K H a xs) : SqT K H' a xs := by
  rcases h with (h | ⟨o, h⟩) | h
  · exact .inl (.inl (k.tp _ _ (.inl ⟨_, rfl⟩) h))
  · exact .inl (.inr ⟨o, k.tp _ _ (.inr ⟨o, _, rfl⟩) h⟩)
  · exact .inr h
theorem Tk.sqR (k : Tk W H W' H') {K : PySem.W.Frag} {a : Addr} {xs : List V} (h : SqR K H a xs) : SqR K H' a xs := by
  rcases h with ⟨o, h⟩ | h
  · exact .inl ⟨o, k.tp _ _ (.inr ⟨o, _, rfl⟩) h⟩
  · exact .inr h
mutual
theorem RD.mono (k : Tk W H W' H') : ∀ (d : D) {v : V}, RD Z W H d v → RD Z W' H' d v
  | .non, _, h => h
  | .bl _, _, h => h
  | .int _, _, h => h
  | .str _, _, h => h
  | .tup ds, _, ⟨a, vs, e, q, r⟩ => ⟨a, vs, e, k.sqT q, RDs.mono k ds r⟩
  | .rol ds, _, ⟨a, vs, e, q, r⟩ => ⟨a, vs, e, k.sqR q, RDs.mono k ds r⟩
  | .ref n, _, ⟨h, e⟩ => ⟨Nat.lt_of_lt_of_le h k.le, by rw [k.ρ n h]; exact e⟩
  | .fn _, _, h => h
  | .gd _, _, h => h
  | .ex _, _, h => h
theorem RDs.mono (k : Tk W H W' H') : ∀ (ds : List D) {vs : List V}, RDs Z W H ds vs → RDs Z W' H' ds vs
  | [], _, h => h
  | d :: ds, _, ⟨v, r, e, h1, h2⟩ => ⟨v, r, e, RD.mono k d h1, RDs.mono k ds h2⟩
end
theorem RFs.mono (k : Tk W H W' H') : ∀ (fs : List (Nat × D)) {gs : List (Str × V)}, RFs Z W H fs gs → RFs Z W' H' fs gs
  | [], _, h => h
  | (f, d) :: ds, _, ⟨v, r, e, h1, h2⟩ => ⟨v, r, e, RD.mono k d h1, RFs.mono k ds h2⟩
theorem RKs.mono (k : Tk W H W' H') : ∀ (fs : List (D × D)) {gs : List (Key × V)}, RKs Z W H fs gs → RKs Z W' H' fs gs
  | [], _, h => h
  | (f, d) :: ds, _, ⟨q, v, r, e, h0, h1, h2⟩ => ⟨q, v, r, e, h0, RD.mono k d h1, RKs.mono k ds h2⟩
theorem Ex.tk (x : Ex W H W' H') (r : RS Z W s H) : Tk W H W' H' := by
  refine ⟨x.le, x.ρ, fun a o h e => x.kp a o e fun i hi q => ?_⟩
  obtain ⟨c, _, hc⟩ := r.has i hi
  rw [q] at hc
  rcases h with ⟨u, rfl⟩ | ⟨ob, u, rfl⟩
  · exact hc.ntup _ e
  · exact hc.nfrz _ _ e
/-! ### frames -/
/-- the def's slots -/
structure RF (Z : Zn) (W : Wd) (H : Hp) (f : Fr) (σ : L2.St) : Prop where
  len : f.length = σ.length
  at_ : ∀ (i : Nat) (d : D), f[i]? = some (some d) → ∃ v, σ[i]? = some (some v) ∧ RD Z W H d v
theorem RF.mono {f : Fr} {σ : L2.St} (r : RF Z W H f σ) (k : Tk W H W' H') : RF Z W' H' f σ :=
  ⟨r.len, fun i d e => let ⟨v, h1, h2⟩ := r.at_ i d e; ⟨v, h1, RD.mono k d h2⟩⟩
theorem RF.set {f : Fr} {σ : L2.St} {d : D} {v : V} (r : RF Z W H f σ) (i : Nat) (h : RD Z W H d v) : RF Z W H (f.set i (some d)) (σ.set i (some v)) := by
  refine ⟨by rw [List.length_set, List.length_set, r.len], fun j x e => ?_⟩
  by_cases hj : i = j
  · subst hj
    by_cases hl : i < f.length
    · rw [List.getElem?_set_self hl] at e
      cases e
      exact ⟨v, by rw [List.getElem?_set_self (by rw [← r.len]; exact hl)], h⟩
    · rw [List.getElem?_eq_none (by simpa using hl)] at e
      cases e
  · rw [List.getElem?_set_ne hj] at e
    obtain ⟨w, h1, h2⟩ := r.at_ j x e
    exact ⟨w, by rw [List.getElem?_set_ne hj]; exact h1, h2⟩
theorem RF.unset {f : Fr} {σ : L2.St} (r : RF Z W H f σ) (i : Nat) : RF Z W H (f.set i none) (σ.set i none) := by
  refine ⟨by rw [List.length_set, List.length_set, r.len], fun j x e => ?_⟩
  by_cases hj : i = j
  · subst hj
    by_cases hl : i < f.length
    · rw [List.getElem?_set_self hl] at e
      cases e
    · rw [List.getElem?_eq_none (by simpa using hl)] at e
      cases e
  · rw [List.getElem?_set_ne hj] at e
    obtain ⟨w, h1, h2⟩ := r.at_ j x e
    exact ⟨w, by rw [List.getElem?_set_ne hj]; exact h1, h2⟩
/-! ### the store's steps -/
theorem beqN (a b : Nat) : Nat.beq a b = decide (a = b) := by
  by_cases h : a = b
  · rw [h, Nat.beq_refl, decide_eq_true rfl]
  · rw [decide_eq_false h]
    cases e : Nat.beq a b with
    | false => rfl
    | true => exact absurd (Nat.eq_of_beq_eq_true e) h
theorem look_new (s : Sto) (c : Cell) (i : Nat) : (s.new c).get i = if s.next = i then some c else s.get i := by
  show cond (Nat.beq s.next i) (some c) (look i s.log) = if s.next = i then some c else look i s.log
  rw [beqN]
  by_cases h : s.next = i
  · rw [if_pos h, decide_eq_true h]; rfl
  · rw [if_neg h, decide_eq_false h]; rfl
theorem look_put (s : Sto) (a : Nat) (c : Cell) (i : Nat) : (s.put a c).get i = if a = i then some c else s.get i := by
  show cond (Nat.beq a i) (some c) (look i s.log) = if a = i then some c else look i s.log
  rw [beqN]
  by_cases h : a = i
  · rw [if_pos h, decide_eq_true h]; rfl
  · rw [if_neg h, decide_eq_false h]; rfl
theorem CellOk.mono {a : Addr} {c : Cell} (k : Tk W H W' H') (e : H' a = H a) (h : CellOk Z W H a c) : CellOk Z W' H' a c := by
  cases c with
  | lst xs => obtain ⟨vs, q, r⟩ := h; exact ⟨vs, e.trans q, RDs.mono k xs r⟩
  | dct kvs => obtain ⟨vs, q, r⟩ := h; exact ⟨vs, e.trans q, RKs.mono k kvs r⟩
  | ins c fs => obtain ⟨dx, gs, q, r⟩ := h; exact ⟨dx, gs, e.trans q, RFs.mono k fs r⟩
def Wd.new (W : Wd) (p : Addr) : Wd := ⟨W.n + 1, fun i => if i = W.n then p else W.ρ i⟩
theorem Wd.new_old {W : Wd} {p : Addr} {i : Nat} (h : i < W.n) : (W.new p).ρ i = W.ρ i := if_neg (Nat.ne_of_lt h)
theorem Wd.new_at {W : Wd} {p : Addr} : (W.new p).ρ W.n = p := if_pos rfl
theorem tk_new {p : Addr} {o : HO} (hp : H p = none) : Tk W H (W.new p) (upd H p o) := by
  refine ⟨Nat.le_succ _, fun i h => Wd.new_old h, fun a q _ e => ?_⟩
  rw [upd_ne (ne_of_none e hp)]
  exact e
theorem ex_new {p : Addr} {o : HO} (hp : H p = none) : Ex W H (W.new p) (upd H p o) := by
  refine ⟨Nat.le_succ _, fun i h => Wd.new_old h, fun i h1 h2 => ?_, fun a q e _ => ?_, fun a h => ?_⟩
  · have : i = W.n := Nat.le_antisymm (Nat.lt_succ_iff.mp h2) h1
    rw [this, Wd.new_at]
    exact hp
  · rw [upd_ne (ne_of_none e hp)]
    exact e
  · by_cases hb : a = p
    · rw [hb, upd_same]
      exact Option.some_ne_none _
    · rw [upd_ne hb]
      exact h
theorem RS.new {p : Addr} {o : HO} {c : Cell} (r : RS Z W s H) (hp : H p = none) (hc : CellOk Z (W.new p) (upd H p o) p c) : RS Z (W.new p) (s.new c) (upd H p o) := by
  have ne : ∀ i, i < W.n → W.ρ i ≠ p := fun i hi e => by
    obtain ⟨c', _, hc'⟩ := r.has i hi
    obtain ⟨u, q⟩ := hc'.isome
    rw [e, hp] at q
    cases q
  refine ⟨congrArg Nat.succ r.n, fun i j hi hj e => ?_, fun i hi => ?_, fun i c' e => ?_⟩
  · have hi' := Nat.lt_succ_iff_lt_or_eq.mp hi
    have hj' := Nat.lt_succ_iff_lt_or_eq.mp hj
    rcases hi' with hi' | rfl <;> rcases hj' with hj' | rfl
    · rw [Wd.new_old hi', Wd.new_old hj'] at e
      exact r.inj i j hi' hj' e
    · rw [Wd.new_old hi', Wd.new_at] at e
      exact absurd e (ne i hi')
    · rw [Wd.new_old hj', Wd.new_at] at e
      exact absurd e.symm (ne j hj')
    · rfl
  · rcases Nat.lt_succ_iff_lt_or_eq.mp hi with hi' | rfl
    · obtain ⟨c', e, hc'⟩ := r.has i hi'
      refine ⟨c', ?_, ?_⟩
      · rw [look_new, if_neg (by rw [← r.n]; exact (Nat.ne_of_lt hi').symm)]
        exact e
      · rw [Wd.new_old hi']
        exact hc'.mono (tk_new hp) (upd_ne (ne i hi'))
    · refine ⟨c, ?_, ?_⟩
      · rw [look_new, if_pos r.n.symm]
      · rw [Wd.new_at]
        exact hc
  · rw [look_new] at e
    by_cases h : s.next = i
    · show i < W.n + 1
      rw [r.n, h]
      exact Nat.lt_succ_self _
    · rw [if_neg h] at e
      exact Nat.lt_succ_of_lt (r.lt i c' e)
/-- neither a tuple nor frozen -/
def Soft (o : Option HO) : Prop := (∀ u, o ≠ some (.tup u)) ∧ ∀ b u, o ≠ some (.frz b u)
theorem CellOk.soft {a : Addr} {c : Cell} (h : CellOk Z W H a c) : Soft (H a) := ⟨h.ntup, h.nfrz⟩
theorem tk_put {p : Addr} {o : HO} (hp : Soft (H p)) : Tk W H W (upd H p o) := by
  refine ⟨Nat.le_refl _, fun _ _ => rfl, fun a q h e => ?_⟩
  have : a ≠ p := fun z => by
    rw [z] at e
    rcases h with ⟨u, rfl⟩ | ⟨ob, u, rfl⟩
    · exact hp.1 _ e
    · exact hp.2 _ _ e
  rw [upd_ne this]
  exact e
theorem ex_put {i : Nat} {o : HO} (hi : i < W.n) : Ex W H W (upd H (W.ρ i) o) := by
  refine ⟨Nat.le_refl _, fun _ _ => rfl, fun j h1 h2 => absurd h2 (Nat.not_lt.mpr h1), fun a q e n => ?_, fun a h => ?_⟩
  · rw [upd_ne fun z => n i hi z.symm]
    exact e
  · by_cases hb : a = W.ρ i
    · rw [hb, upd_same]
      exact Option.some_ne_none _
    · rw [upd_ne hb]
      exact h
theorem RS.put {i : Nat} {o : HO} {c : Cell} (r : RS Z W s H) (hi : i < W.n) (hc : CellOk Z W (upd H (W.ρ i) o) (W.ρ i) c) : RS Z W (s.put i c) (upd H (W.ρ i) o) := by
  obtain ⟨c0, e0, h0⟩ := r.has i hi
  refine ⟨r.n, r.inj, fun j hj => ?_, fun j c' e => ?_⟩
  · by_cases h : i = j
    · subst h
      exact ⟨c, by rw [look_put, if_pos rfl], hc⟩
    · obtain ⟨c', e, hc'⟩ := r.has j hj
      refine ⟨c', by rw [look_put, if_neg h]; exact e, hc'.mono (tk_put h0.soft) (upd_ne fun z => h (r.inj _ _ hi hj z.symm))⟩
  · rw [look_put] at e
    by_cases h : i = j
    · rw [← h]; exact hi
    · rw [if_neg h] at e
      exact r.lt j c' e
theorem RS.cell {i : Nat} {c : Cell} (r : RS Z W s H) (e : s.get i = some c) : CellOk Z W H (W.ρ i) c := by
  obtain ⟨c', e', h⟩ := r.has i (r.lt i c e)
  rw [e] at e'
  cases e'
  exact h
theorem Soft.none {p : Addr} (hp : H p = none) : Soft (H p) := ⟨fun _ e => (nomatch hp.symm.trans e), fun _ _ e => (nomatch hp.symm.trans e)⟩
/-- a new thing that the store does not know -/
theorem ex_lay {p : Addr} {o : HO} (hp : H p = none) : Ex W H W (upd H p o) := by
  refine ⟨Nat.le_refl _, fun _ _ => rfl, fun j h1 h2 => absurd h2 (Nat.not_lt.mpr h1), fun a q e _ => ?_, fun a h => ?_⟩
  · rw [upd_ne (ne_of_none e hp)]
    exact e
  · by_cases hb : a = p
    · rw [hb, upd_same]
      exact Option.some_ne_none _
    · rw [upd_ne hb]
      exact h
theorem tk_lay {p : Addr} {o : HO} (hp : H p = none) : Tk W H W (upd H p o) := tk_put (Soft.none hp)
theorem RS.lay {p : Addr} {o : HO} (r : RS Z W s H) (hp : H p = none) : RS Z W s (upd H p o) := by
  refine ⟨r.n, r.inj, fun i hi => ?_, r.lt⟩
  obtain ⟨c, e, h⟩ := r.has i hi
  refine ⟨c, e, h.mono (tk_lay hp) (upd_ne fun z => ?_)⟩
  obtain ⟨u, q⟩ := h.isome
  rw [z, hp] at q
  cases q
end
end TR
set_option autoImplicit false
set_option linter.all false
set_option maxRecDepth 100000
/-! The readings: what a term of the small language asks of the layer. -/
namespace TR
open PySem PySem.Spec PyProof.Rows L2
/-- what is raised lies as the layer has it -/
def ErrOk (Z : Zn) (W : Wd) (H : Hp) (e : Er) (cls : Value) (dd : Option Addr) : Prop := cls = .ref (Z.ca e.cls) ∧ e.args = [] ∧ dd = none ∧ Z.xc e.cls
abbrev Rel (α β : Type) := Wd → Hp → α → β → Prop
def Po {α β : Type} (Z : Zn) (E : XK) (W : Wd) (H : Hp) (r : R α) (rel : Rel α β) (Q : β → Hp → Prop) : Prop := match r with
  | .ok a s' => ∀ W' H' b, Ex W H W' H' → RS Z W' s' H' → rel W' H' a b → Q b H'
  | .ex e s' => ∀ W' H' cls dd, Ex W H W' H' → RS Z W' s' H' → ErrOk Z W' H' e cls dd → E cls dd H'
  | .bad => False
section
variable {α β γ δ : Type} {Z : Zn} {E : XK} {W W1 : Wd} {H H1 : Hp} {s : Sto} {X : Cx} {M : Sem} {Wx : WX}
theorem Po.imp {r : R α} {rel rel' : Rel α β} {Q Q' : β → Hp → Prop} (h : Po Z E W H r rel Q) (hq : ∀ W' s' H' a b, r = .ok a s' → Ex W H W' H' → RS Z W' s' H' → rel' W' H' a b → rel W' H' a b ∧ (Q b H' → Q' b H')) : Po Z E W H r rel' Q' := by
  cases r with
  | ok a s' => exact fun W' H' b x r q => let ⟨q1, q2⟩ := hq W' s' H' a b rfl x r q; q2 (h W' H' b x r q1)
  | ex e s' => exact h
  | bad => exact h
theorem Po.from {r : R α} {rel : Rel α β} {Q : β → Hp → Prop} (h : Po Z E W H r rel Q) (x : Ex W1 H1 W H) : Po Z E W H r rel Q := h
/-- later on -/
theorem Po.later {r : R α} {rel : Rel α β} {Q : β → Hp → Prop} (h : Po Z E W H r rel Q) (x : Ex W H W1 H1) : Po Z E W1 H1 r rel Q := by
  cases r with
  | ok a s' => exact fun W' H' b y => h W' H' b (x.trans y)
  | ex e s' => exact fun W' H' cls dd y => h W' H' cls dd (x.trans y)
  | bad => exact h
/-- behind the first step the second one is asked -/
theorem Po.bind {r : R α} {k : α → Sto → R β} {rel1 : Rel α γ} {rel : Rel β δ} {Q : δ → Hp → Prop} (h : Po Z E W H (r.bind k) rel Q) :
    Po Z E W H r rel1 (fun g H' => ∃ W' s' a, r = .ok a s' ∧ Ex W H W' H' ∧ RS Z W' s' H' ∧ rel1 W' H' a g ∧ Po Z E W' H' (k a s') rel Q) := by
  cases r with
  | ok a s' => exact fun W' H' b x q1 q2 => ⟨W', s', a, rfl, x, q1, q2, Po.later (r := k a s') h x⟩
  | ex e s' => exact h
  | bad => exact h
theorem Po.ok {a : α} {rel : Rel α β} {Q : β → Hp → Prop} {b : β} (h : Po Z E W H (.ok a s) rel Q) (r : RS Z W s H) (q : rel W H a b) : Q b H := h W H b Ex.refl r q
theorem Po.ok' {a : α} {rel : Rel α β} {Q : β → Hp → Prop} {b : β} (h : Po Z E W H (.ok a s) rel Q) (x : Ex W H W1 H1) (r : RS Z W1 s H1) (q : rel W1 H1 a b) : Q b H1 := h W1 H1 b x r q
end
section
variable {Z : Zn} {Ew : XK} {W W1 : Wd} {H H1 : Hp} {s : Sto} {X : Cx} {M : Sem} {Wx : WX}
/-- a frame's wish at its slots -/
abbrev atS (Wx : WX) (σ : L2.St) : XK := fun cls dd H => Wx cls dd σ H
def tE (Z : Zn) (M : Sem) (Wx : WX) (e : E) : TE := fun σ H Q => ∃ W s f, RS Z W s H ∧ RF Z W H f σ ∧ Po Z (atS Wx σ) W H (ev M e f s) (RD Z) Q
def RB : Rel Bool Bool := fun _ _ a b => a = b
def tT (Z : Zn) (M : Sem) (Wx : WX) (e : E) : TT := fun σ H Q => ∃ W s f, RS Z W s H ∧ RF Z W H f σ ∧ Po Z (atS Wx σ) W H (tru (ev M e f s)) RB Q
def tA (Z : Zn) (M : Sem) (Wx : WX) (es : List E) : TA := fun σ H Q => ∃ W s f, RS Z W s H ∧ RF Z W H f σ ∧ Po Z (atS Wx σ) W H (evs M es f s) (RDs Z) Q
theorem peI {e : Expr} {t u : TE} (h : PE X e t) (i : ∀ σ H Q, u σ H Q → t σ H Q) : PE X e u := ⟨fun pins s σ H Q I q => h.run pins s σ H Q I (i σ H Q q)⟩
theorem ptI {e : Expr} {t u : TT} (h : PT X e t) (i : ∀ σ H Q, u σ H Q → t σ H Q) : PT X e u := ⟨fun pins s σ H Q I q => h.run pins s σ H Q I (i σ H Q q)⟩
theorem pwI {e : Expr} {t u : TT} (h : PW X e t) (i : ∀ σ H Q, u σ H Q → t σ H Q) : PW X e u := ⟨fun w pins s σ H Q I q => h.run w pins s σ H Q I (i σ H Q q)⟩
theorem paI {e : List Expr} {t u : TA} (h : PA X e t) (i : ∀ σ H Q, u σ H Q → t σ H Q) : PA X e u := ⟨fun pos pins s σ H Q I q => h.run pos pins s σ H Q I (i σ H Q q)⟩
/-! ### what an operation on values asks -/
/-- of two values: what the small language's operation gives -/
def r2 (Z : Zn) (g : D → D → Sto → R D) : R2 := fun x y H Q => ∃ W s a b, RS Z W s H ∧ RD Z W H a x ∧ RD Z W H b y ∧ Po Z (fun _ _ _ => False) W H (g a b s) (RD Z) Q
def r1 (Z : Zn) (g : D → Sto → R D) : V → Hp → VK → Prop := fun x H Q => ∃ W s a, RS Z W s H ∧ RD Z W H a x ∧ Po Z (fun _ _ _ => False) W H (g a s) (RD Z) Q
/-- an operation raises nothing -/
def NoEx {α : Type} (r : R α) : Prop := ∀ e s, r ≠ .ex e s
theorem Po.noex {α β : Type} {Ew' : XK} {r : R α} {rel : Rel α β} {Q : β → Hp → Prop} (n : NoEx r) (h : Po Z Ew W H r rel Q) : Po Z Ew' W H r rel Q := by
  cases r with
  | ok a s' => exact h
  | ex e s' => exact absurd rfl (n e s')
  | bad => exact h
theorem NoEx.ok {α : Type} {a : α} {s : Sto} : NoEx (R.ok a s) := fun _ _ h => nomatch h
theorem NoEx.bad {α : Type} : NoEx (R.bad : R α) := fun _ _ h => nomatch h
theorem NoEx.ofO {α : Type} {o : Option α} {s : Sto} : NoEx (R.ofO o s) := by
  cases o with
  | none => exact NoEx.bad
  | some a => exact NoEx.ok
theorem NoEx.bind {α β : Type} {r : R α} {k : α → Sto → R β} (h : NoEx r) (hk : ∀ a s, NoEx (k a s)) : NoEx (r.bind k) := by
  cases r with
  | ok a s => exact hk a s
  | ex e s => exact absurd rfl (h e s)
  | bad => exact NoEx.bad
theorem NoEx.cond {α : Type} {b : Bool} {r r' : R α} (h : NoEx r) (h' : NoEx r') : NoEx (cond b r r') := by
  cases b with
  | true => exact h
  | false => exact h'
end
end TR
set_option autoImplicit false
set_option linter.all false
set_option maxRecDepth 100000
/-! The operations on values. -/
namespace TR
open PySem PySem.Spec PyProof.Rows L2
def Op2.py : Op2 → Operator
  | .add => .Add
  | .sub => .Sub
  | .mul => .Mult
  | .fdiv => .FloorDiv
  | .mod => .Mod
  | .pow => .Pow
theorem mulOk_ok {a b : Int} (h : mulOk a b = true) : IntMulOk a b := by
  unfold mulOk at h
  rw [Bool.or_eq_true, Bool.or_eq_true] at h
  rcases h with (h | h) | h
  · exact CMul.ok (i := a) (j := b) (.inl (by have := Nat.blt_eq.mp h; constructor <;> omega))
  · exact CMul.ok (i := a) (j := b) (.inr (by have := Nat.blt_eq.mp h; constructor <;> omega))
  · exact CMulW.ok (Nat.blt_eq.mp h)
/-- tuple * 1, an empty one: itself -/
theorem tuple_mul1 (l : Addr) (items : Array Value) (n : Nat) (dd : Option Addr) (sl : Array (Option Value)) (x : Int) (u : Tok) (c0 : (decide (x < -(2 ^ 63)) || decide (x ≥ 2 ^ 63)) = false) (c1 : (items.isEmpty || x == 1) = true) :
    Meets (Builtin.«tuple.__mul__» ⟨[.ref l, .int x u], []⟩) (fun _ R s => s.heap.get? l = some { cls := .type "tuple", dict := dd, data := .seq items n, slots := sl } ∧ R (.ok (.ret (Value.ref l))) s) :=
  .of_wp fun prog w A R s h => by
    obtain ⟨hp, g, d, tk, os⟩ := s
    obtain ⟨hl, h⟩ := h
    have f1 := AutoSeq1.idx_int
    wp_walk using wpAny_loadPart' hl
    repeat (first
      | (refine wpAny_ite_false (decide_eq_false (by rw [c0]; exact Bool.false_ne_true)) ?_; wp_walk using wpAny_loadPart' hl)
      | (refine wpAny_ite_true (decide_eq_true (by rw [c1])) ?_; wp_walk using wpAny_loadPart' hl))
    exact ⟨_, rfl, h⟩
theorem tuple_mul0 (l : Addr) (items : Array Value) (n : Nat) (dd : Option Addr) (sl : Array (Option Value)) (x : Int) (u : Tok) (c0 : (decide (x < -(2 ^ 63)) || decide (x ≥ 2 ^ 63)) = false) (c1 : (items.isEmpty || x == 1) = false) (c2 : (decide (x ≤ 0) || items.isEmpty) = true) :
    Meets (Builtin.«tuple.__mul__» ⟨[.ref l, .int x u], []⟩) (fun _ R s => s.heap.get? l = some { cls := .type "tuple", dict := dd, data := .seq items n, slots := sl } ∧
      R (.ok (.ret (Value.ref s.heap.objs.size))) { s with heap := s.heap.push { cls := Value.type "tuple", data := Data.seq #[] }, toks := s.toks }) :=
  .of_wp fun prog w A R s h => by
    obtain ⟨hp, g, d, tk, os⟩ := s
    obtain ⟨hl, h⟩ := h
    have f1 := AutoSeq1.idx_int
    wp_walk using wpAny_loadPart' hl
    repeat (first
      | (refine wpAny_ite_false (decide_eq_false (by rw [c0]; exact Bool.false_ne_true)) ?_; wp_walk using wpAny_loadPart' hl)
      | (refine wpAny_ite_false (decide_eq_false (by rw [c1]; exact Bool.false_ne_true)) ?_; wp_walk using wpAny_loadPart' hl)
      | (refine wpAny_ite_true (decide_eq_true (by rw [c2])) ?_; wp_walk using wpAny_loadPart' hl))
    exact ⟨_, rfl, h⟩
theorem rep_flat {α : Type} (xs : List α) : ∀ n : Nat, (List.replicate n xs).flatten = Nat.rec [] (fun _ r => xs ++ r) n
  | 0 => rfl
  | n + 1 => by rw [List.replicate_succ, List.flatten_cons, rep_flat xs n]
section
variable {Z : Zn} {Ew : XK} {W W1 : Wd} {H H1 : Hp} {s0 : Sto} {X : Cx} {pins : List (Addr × Obj)} {s : Shared} {σ : L2.St} {Q : VK}
theorem RDs.nil_iff : ∀ {ds : List D} {vs : List V}, RDs Z W H ds vs → (vs = [] ↔ ds = [])
  | [], _, h => by
    have h' : _ = [] := h
    simp [h']
  | d :: ds, _, ⟨v, r, e, _, _⟩ => by simp [e]
theorem RDs.length : ∀ {ds : List D} {vs : List V}, RDs Z W H ds vs → vs.length = ds.length
  | [], _, h => by
    have h' : _ = [] := h
    simp [h']
  | d :: ds, _, ⟨v, r, e, _, h⟩ => by rw [e, List.length_cons, List.length_cons, RDs.length h]
theorem RDs.append : ∀ {ds es : List D} {vs ws : List V}, RDs Z W H ds vs → RDs Z W H es ws → RDs Z W H (ds ++ es) (vs ++ ws)
  | [], _, _, _, h, k => by
    have h' : _ = [] := h
    rw [h']
    exact k
  | d :: ds, _, _, _, ⟨v, r, e, h1, h2⟩, k => by
    rw [e]
    exact ⟨v, _, rfl, h1, RDs.append h2 k⟩
theorem RDs.rep {ds : List D} {vs : List V} (h : RDs Z W H ds vs) : ∀ n : Nat, RDs Z W H (rep n ds) (List.replicate n vs).flatten
  | 0 => rfl
  | n + 1 => by
    rw [List.replicate_succ, List.flatten_cons]
    exact RDs.append h (RDs.rep h n)
theorem RDs.get : ∀ {ds : List D} {vs : List V} {i : Nat} {d : D}, RDs Z W H ds vs → ds[i]? = some d → ∃ v, vs[i]? = some v ∧ RD Z W H d v
  | [], _, _, _, _, e => by simp at e
  | _ :: _, _, 0, _, ⟨v, r, rfl, h1, _⟩, e => by
    have e' := Option.some.inj (show some _ = some _ from e)
    rw [← e']
    exact ⟨v, rfl, h1⟩
  | _ :: _, _, i + 1, _, ⟨v, r, rfl, _, h2⟩, e => RDs.get (i := i) h2 (by rw [List.getElem?_cons_succ] at e; exact e)
theorem RDs.take : ∀ {ds : List D} {vs : List V} (n : Nat), RDs Z W H ds vs → RDs Z W H (ds.take n) (vs.take n)
  | _, _, 0, _ => rfl
  | [], _, n + 1, h => by
    have h' : _ = [] := h
    rw [h']
    rfl
  | _ :: _, _, n + 1, ⟨v, r, rfl, h1, h2⟩ => ⟨v, _, rfl, h1, RDs.take n h2⟩
theorem RDs.drop : ∀ {ds : List D} {vs : List V} (n : Nat), RDs Z W H ds vs → RDs Z W H (ds.drop n) (vs.drop n)
  | _, _, 0, h => h
  | [], _, n + 1, h => by
    have h' : _ = [] := h
    rw [h']
    rfl
  | _ :: _, _, n + 1, ⟨v, r, rfl, h1, h2⟩ => RDs.drop n h2
theorem RDs.reverse : ∀ {ds : List D} {vs : List V}, RDs Z W H ds vs → RDs Z W H ds.reverse vs.reverse
  | [], _, h => by
    have h' : _ = [] := h
    rw [h']
    rfl
  | _ :: _, _, ⟨v, r, rfl, h1, h2⟩ => by
    rw [List.reverse_cons, List.reverse_cons]
    exact RDs.append (RDs.reverse h2) ⟨v, [], rfl, h1, rfl⟩
/-- a new list -/
theorem Po.newL {p : Addr} {xs : List D} {vs : List V} (po : Po Z Ew W H (.ok (D.ref s0.next) (s0.new (.lst xs))) (RD Z) Q) (r : RS Z W s0 H) (hp : H p = none) (d : RDs Z W H xs vs) : Q (.ref p) (upd H p (.lst vs)) := by
  refine po (W.new p) _ _ (ex_new hp) (r.new hp ⟨vs, upd_same, RDs.mono (tk_new hp) _ d⟩) ⟨?_, ?_⟩
  · rw [← r.n]
    exact Nat.lt_succ_self _
  · rw [← r.n, Wd.new_at]
/-- tuple * int -/
def rRepA (K : PySem.W.Frag) : R2 := fun x y H Q => ∃ l k xs, x = .ref l ∧ y = .int k ∧ SqT K H l xs ∧ -4611686018427387904 < k ∧ k ≤ 1000000 ∧ xs.length * k.toNat ≤ 1000000 ∧
  ((List.replicate k.toNat xs).flatten = xs → Q (.ref l) H) ∧ ∀ p, H p = none → Q (.ref p) (upd H p (.tup (List.replicate k.toNat xs).flatten))
theorem op_repA : OpR X (binaryOp .Mult) (rRepA X.K) := by
  intro pins s σ H x y v u Q I rx ry h
  obtain ⟨l, k, xs, rfl, rfl, hT, h1, h2, hz, q1, q⟩ := h
  cases rx
  obtain ⟨t, rfl⟩ := ry
  obtain ⟨its, r, ⟨⟨cls, dd, data, sl⟩, ho, hc, n, hd⟩, hs⟩ := I.tuple hT
  simp only at hc hd
  subst hc hd
  have hle : its.length = xs.length := r.length.symm
  have hsz0 : its.toArray.size = xs.length := by rw [List.size_toArray, hle]
  have c0 : (decide (k < -(2 ^ 63)) || decide (k ≥ 2 ^ 63)) = false := by
    rw [decide_eq_false (by omega), decide_eq_false (by omega)] <;> rfl
  refine wpAny_binaryOp_repeat_ref (T := "tuple") (U := "int") (by decide) ⟨_, ho, rfl⟩ (fun s' => typeIs_int s' k t) noFill_tuple_mul F.fills_int_mul F.slot_int_rmul repeat_tuple F.slot_int_index.lookup
    (call_meets F.slot_int_rmul (typeIs_int s k t) F.entry_int_rmul (F.args_int_rmul_2 _ _) (int_rmul_tuple k t l its.toArray n dd sl)
      ⟨ho, rfl, ⟨_, ho, rfl⟩, ?_⟩)
  cases c1 : (its.toArray.isEmpty || k == 1) with
  | true =>
    refine call_meets F.slot_tuple_mul ⟨_, ho, rfl⟩ F.entry_tuple_mul (F.args_tuple_mul_2 _ _) (tuple_mul1 l its.toArray n dd sl k t c0 c1) ⟨ho, ?_⟩
    refine ⟨.ref l, H, I, rfl, q1 ?_⟩
    rw [Bool.or_eq_true] at c1
    rcases c1 with c1 | c1
    · have e : xs = [] := by
        cases its with
        | nil => exact List.eq_nil_of_length_eq_zero hle.symm
        | cons a b => simp at c1
      rw [e]
      simp
    · rw [beq_iff_eq.mp c1]
      simp
  | false =>
    cases c2 : (decide (k ≤ 0) || its.toArray.isEmpty) with
    | true =>
      refine call_meets F.slot_tuple_mul ⟨_, ho, rfl⟩ F.entry_tuple_mul (F.args_tuple_mul_2 _ _) (tuple_mul0 l its.toArray n dd sl k t c0 c1 c2) ⟨ho, ?_⟩
      have e : (List.replicate k.toNat xs).flatten = [] := by
        rw [Bool.or_eq_true, decide_eq_true_eq] at c2
        rw [Bool.or_eq_false_iff] at c1
        rcases c2 with c2 | c2
        · rw [show k.toNat = 0 by omega]
          rfl
        · rw [c1.1] at c2
          cases c2
      rw [e] at q
      refine ⟨.ref s.heap.objs.size, _, I.laid (t' := s.toks) (o := .tup []) (fun b ob q => Heap.get?_push_of_some _ q) (Nat.le_refl _) ?_, rfl, q _ (I.hok.fresh (Nat.le_refl _))⟩
      exact ⟨Nat.zero_le _, [], .nil, IsTup.new _ _⟩
    | false =>
      have hm : ((its.toArray.size : Nat) : Int) * k ≤ 1000000 := by
        rw [hsz0]
        by_cases h0 : 0 ≤ k
        · have e : (k.toNat : Int) = k := Int.toNat_of_nonneg h0
          have : ((xs.length * k.toNat : Nat) : Int) ≤ 1000000 := Int.ofNat_le.mpr hz
          rw [Int.natCast_mul, e] at this
          exact this
        · have := Int.mul_nonpos_of_nonneg_of_nonpos (a := (xs.length : Int)) (b := k) (by omega) (by omega)
          omega
      have flen : (List.replicate k.toNat its).flatten.length ≤ sizeLine := by
        rw [PyProof.Rows.lm_len_rep_flat, hle, sizeLine_eq, Nat.mul_comm]
        omega
      have c4 : Builtin.Tuple.tupleTooMany (((its.toArray.size : Nat) : Int) * k) = false := by
        unfold Builtin.Tuple.tupleTooMany
        rw [sizeLine_eq]
        exact decide_eq_false (by omega)
      refine call_meets F.slot_tuple_mul ⟨_, ho, rfl⟩ F.entry_tuple_mul (F.args_tuple_mul_2 _ _) (tuple_mulW l its.toArray n dd sl k t c0 c1 c2 (by omega) c4 (by rw [size_rep, List.size_toArray]; exact flen)) ⟨ho, ?_⟩
      rw [size_rep]
      refine ⟨.ref s.heap.objs.size, _, I.laid (t' := s.toks) (o := .tup (List.replicate k.toNat xs).flatten) (fun b ob q => Heap.get?_push_of_some _ q) (Nat.le_refl _) ?_, rfl, q _ (I.hok.fresh (Nat.le_refl _))⟩
      exact ⟨by rw [PyProof.Rows.lm_len_rep_flat, sizeLine_eq, Nat.mul_comm]; omega, _, r.rep k.toNat, IsTup.new _ _⟩
/-- an operation that gives an int, nothing made -/
theorem give_int {i : Int} {t : Tok} (I : Inv X pins σ H s) (r : RS Z W s0 H) (po : Po Z Ew W H (.ok (D.int i) s0) (RD Z) Q) : EP X pins σ Q (.int i t) { s with toks := s.toks + 1 } :=
  ⟨.int i, H, I.tok _, ⟨t, rfl⟩, po.ok r rfl⟩
theorem opI_sim {o : Op2} {a b : Int} {t u : Tok} (I : Inv X pins σ H s) (r : RS Z W s0 H) (po : Po Z (fun _ _ _ => False) W H (opI o a b s0) (RD Z) Q) :
    wpAny (model X.prog X.w) X.A (binaryOp o.py (.int a t) (.int b u)) (EP X pins σ Q) X.xe s := by
  cases o with
  | add => exact add_int (give_int I r po)
  | sub => exact sub_int (give_int I r po)
  | mul =>
    unfold opI at po
    cases hm : mulOk a b with
    | false => rw [hm] at po; exact po.elim
    | true => rw [hm] at po; exact mul_int (give_int I r po) (mulOk_ok hm)
  | fdiv =>
    unfold opI at po
    cases hm : divOk b with
    | false => rw [hm] at po; exact po.elim
    | true =>
      rw [hm] at po
      unfold divOk at hm
      rw [Bool.and_eq_true, Bool.not_eq_true', beq_eq_false_iff_ne] at hm
      exact floordiv_int hm.1 (give_int I r po) (.inl (PyProof.noPylong_of_log2 (Nat.blt_eq.mp hm.2)))
  | mod =>
    unfold opI at po
    cases hm : (!(b == 0)) with
    | false =>
      simp only [hm] at po
      exact po.elim
    | true =>
      simp only [hm] at po
      rw [Bool.not_eq_true', beq_eq_false_iff_ne] at hm
      exact mod_int' hm (give_int I r po)
  | pow =>
    unfold opI at po
    cases hm : (decide (0 ≤ b) && decide (b ≤ 1000) && Nat.blt a.natAbs 1000000) with
    | false => simp only [hm] at po; exact po.elim
    | true =>
      simp only [hm] at po
      rw [Bool.and_eq_true, Bool.and_eq_true, decide_eq_true_eq, decide_eq_true_eq] at hm
      exact pow_int_small hm.1.1 (by omega) (by have := Nat.blt_eq.mp hm.2; omega) (give_int I r po)
theorem op_sim (hK : X.K = Z.K) (o : Op2) : OpR X (binaryOp o.py) (r2 Z (opD o)) := by
  intro pins s σ H x y v u Q I rx ry h
  obtain ⟨W, s0, a, b, rs, ra, rb, po⟩ := h
  unfold opD at po
  split at po
  · -- ints
    cases ra; cases rb
    obtain ⟨t, rfl⟩ := rx
    obtain ⟨t', rfl⟩ := ry
    exact opI_sim I rs po
  · -- tuples
    rename_i xs ys
    obtain ⟨p, vs, rfl, h1, d1⟩ := ra
    obtain ⟨q, ws, rfl, h2, d2⟩ := rb
    cases hc : catOk xs ys with
    | false => rw [hc] at po; exact po.elim
    | true =>
      rw [hc] at po
      have hz : vs.length + ws.length ≤ sizeLine := by
        rw [d1.length, d2.length]
        exact Nat.le_of_ble_eq_true hc
      refine op_catA pins s σ H _ _ v u Q I rx ry ⟨p, q, vs, ws, rfl, rfl, by rw [hK]; exact h1, by rw [hK]; exact h2, hz, fun e => ?_, fun _ e => ?_, fun n1 n2 p hp => ?_⟩
      · refine Po.ok po rs ⟨q, ws, rfl, h2, ?_⟩
        rw [d1.nil_iff.mp e]
        exact d2
      · refine Po.ok po rs ⟨p, vs, rfl, h1, ?_⟩
        rw [d2.nil_iff.mp e, List.append_nil]
        exact d1
      · exact po W _ _ (ex_lay hp) (rs.lay hp) ⟨p, _, rfl, .inl (.inl upd_same), RDs.mono (tk_lay hp) _ (d1.append d2)⟩
  · -- texts
    rename_i a b
    obtain rfl : x = .str a := ra
    obtain rfl : y = .str b := rb
    cases hc : Nat.ble (a.cps.size + b.cps.size) SZ with
    | false => rw [hc] at po; exact po.elim
    | true =>
      rw [hc] at po
      exact op_add_str pins s σ H _ _ v u Q I rx ry ⟨a, b, rfl, rfl, Nat.le_of_ble_eq_true hc, Po.ok po rs rfl⟩
  · -- lists
    rename_i a b
    obtain ⟨ha, rfl⟩ := ra
    obtain ⟨hb, rfl⟩ := rb
    split at po
    · rename_i xs ys e1 e2
      obtain ⟨vs, h1, d1⟩ := rs.cell e1
      obtain ⟨ws, h2, d2⟩ := rs.cell e2
      cases hc : catOk xs ys with
      | false => rw [hc] at po; exact po.elim
      | true =>
        rw [hc] at po
        refine op_cat pins s σ H _ _ v u Q I rx ry ⟨_, _, vs, ws, rfl, rfl, h1, h2, by rw [d1.length, d2.length]; exact Nat.le_of_ble_eq_true hc, fun p hp => ?_⟩
        exact po.newL rs hp (d1.append d2)
    · exact po.elim
  · -- a tuple so many times
    rename_i xs n
    obtain ⟨p, vs, rfl, h1, d1⟩ := ra
    cases rb
    cases hc : repOk xs n with
    | false => rw [hc] at po; exact po.elim
    | true =>
      rw [hc] at po
      unfold repOk at hc
      rw [Bool.and_eq_true, Bool.and_eq_true, decide_eq_true_eq, decide_eq_true_eq] at hc
      obtain ⟨⟨c1, c2⟩, c3⟩ := hc
      have c3 := Nat.le_of_ble_eq_true c3
      rw [← d1.length] at c3
      refine op_repA pins s σ H _ _ v u Q I rx ry ⟨p, n, vs, rfl, rfl, by rw [hK]; exact h1, c1, c2, c3, fun e => ?_, fun q hq => ?_⟩
      · refine Po.ok po rs ⟨p, vs, rfl, h1, ?_⟩
        have := d1.rep n.toNat
        rw [e] at this
        exact this
      · exact po W _ _ (ex_lay hq) (rs.lay hq) ⟨q, _, rfl, .inl (.inl upd_same), RDs.mono (tk_lay hq) _ (d1.rep n.toNat)⟩
  · -- a list so many times
    rename_i a n
    obtain ⟨ha, rfl⟩ := ra
    cases rb
    split at po
    · rename_i xs e1
      obtain ⟨vs, h1, d1⟩ := rs.cell e1
      cases hc : repOk xs n with
      | false => rw [hc] at po; exact po.elim
      | true =>
        rw [hc] at po
        unfold repOk at hc
        rw [Bool.and_eq_true, Bool.and_eq_true, decide_eq_true_eq, decide_eq_true_eq] at hc
        obtain ⟨⟨c1, c2⟩, c3⟩ := hc
        have c3 := Nat.le_of_ble_eq_true c3
        rw [← d1.length] at c3
        refine op_rep pins s σ H _ _ v u Q I rx ry ⟨_, n, vs, rfl, rfl, h1, by omega, by omega, by have : sizeLine = 16777216 := sizeLine_eq; omega, fun p hp => ?_⟩
        exact po.newL rs hp (d1.rep n.toNat)
    · exact po.elim
  · cases ra; cases rb
    obtain ⟨t, rfl⟩ := rx
    cases ry
    exact PySem.add_int_bool (give_int I rs po)
  · cases ra; cases rb
    obtain ⟨t, rfl⟩ := rx
    cases ry
    exact PySem.IntBool.sub_int_bool (give_int I rs po)
  · cases ra; cases rb
    obtain ⟨t, rfl⟩ := rx
    cases ry
    exact PySem.IntBool.mul_int_bool (give_int I rs po)
  · cases ra; cases rb
    cases rx
    obtain ⟨t, rfl⟩ := ry
    exact PySem.IntBool.add_bool_int (give_int I rs po)
  · cases ra; cases rb
    cases rx
    obtain ⟨t, rfl⟩ := ry
    exact PySem.IntBool.sub_bool_int (give_int I rs po)
  · cases ra; cases rb
    cases rx
    obtain ⟨t, rfl⟩ := ry
    exact PySem.IntBool.mul_bool_int (give_int I rs po)
  · exact po.elim
end
end TR
set_option autoImplicit false
set_option linter.all false
set_option maxRecDepth 100000
/-! Comparisons. -/
namespace TR
open PySem PySem.Spec PyProof.Rows L2
mutual
theorem eqP_eqv : ∀ a b : PyData, eqP a b = PyData.eqv a b
  | .none, b => by cases b <;> simp [eqP, PyData.eqv]
  | .bool x, b => by cases b <;> simp [eqP, PyData.eqv]
  | .int x, b => by cases b <;> simp [eqP, PyData.eqv]
  | .str x, b => by cases b <;> simp [eqP, PyData.eqv]
  | .list xs, b => by
    cases b with
    | list ys => simp only [eqP, PyData.eqv]; exact eqPs_eqv xs ys
    | _ => simp [eqP, PyData.eqv]
  | .tuple xs, b => by
    cases b with
    | tuple ys => simp only [eqP, PyData.eqv]; exact eqPs_eqv xs ys
    | _ => simp [eqP, PyData.eqv]
  | .dict xs, b => by cases b <;> simp [eqP, PyData.eqv]
theorem eqPs_eqv : ∀ a b : List PyData, eqPs a b = PyData.eqvAll a b
  | [], [] => by simp [eqPs, PyData.eqvAll]
  | [], _ :: _ => by simp [eqPs, PyData.eqvAll]
  | _ :: _, [] => by simp [eqPs, PyData.eqvAll]
  | x :: xs, y :: ys => by simp only [eqPs, PyData.eqvAll]; rw [eqP_eqv x y, eqPs_eqv xs ys]
end
mutual
theorem alk_alike : ∀ a b : PyData, alk a b = PySem.W.alike a b
  | .none, b => by cases b <;> simp [alk, PySem.W.alike]
  | .bool x, b => by cases b <;> simp [alk, PySem.W.alike]
  | .int x, b => by cases b <;> simp [alk, PySem.W.alike]
  | .str x, b => by cases b <;> simp [alk, PySem.W.alike]
  | .list xs, b => by
    cases b with
    | list ys => simp only [alk, PySem.W.alike]; exact alks_alike xs ys
    | _ => simp [alk, PySem.W.alike]
  | .tuple xs, b => by
    cases b with
    | tuple ys => simp only [alk, PySem.W.alike]; exact alks_alike xs ys
    | _ => simp [alk, PySem.W.alike]
  | .dict xs, b => by cases b <;> simp [alk, PySem.W.alike]
theorem alks_alike : ∀ a b : List PyData, alks a b = PySem.W.alikeAll a b
  | [], b => by cases b <;> simp [alks, PySem.W.alikeAll]
  | _ :: _, [] => by simp [alks, PySem.W.alikeAll]
  | x :: xs, y :: ys => by simp only [alks, PySem.W.alikeAll]; rw [alk_alike x y, alks_alike xs ys]
end
theorem ltCps_lt : ∀ a b : List Nat, ltCps a b = decide (a < b)
  | [], [] => by simp [ltCps]
  | [], _ :: _ => by simp [ltCps]
  | _ :: _, [] => by simp [ltCps]
  | a :: as, b :: bs => by
    unfold ltCps
    have e1 : Nat.blt a b = decide (a < b) := by
      by_cases h : a < b
      · rw [decide_eq_true h]; exact Nat.blt_eq.mpr h
      · rw [decide_eq_false h]
        cases e : Nat.blt a b with
        | false => rfl
        | true => exact absurd (Nat.blt_eq.mp e) h
    rw [e1, beqN, ltCps_lt as bs]
    by_cases h : a < b
    · rw [decide_eq_true h]
      simp [List.cons_lt_cons_iff, h]
    · by_cases h2 : a = b
      · rw [decide_eq_false h, decide_eq_true h2]
        simp [List.cons_lt_cons_iff, h2]
      · rw [decide_eq_false h, decide_eq_false h2]
        simp [List.cons_lt_cons_iff, h, h2]
mutual
theorem ltP_data : ∀ a b : PyData, alk a b = true → ltP a b = PySem.W.dataLt a b
  | .none, b, h => by
    cases b with
    | none => rfl
    | _ => cases h
  | .bool x, b, h => by
    cases b with
    | bool y => cases x <;> cases y <;> rfl
    | _ => cases h
  | .int x, b, h => by
    cases b with
    | int y => simp only [ltP]; exact (PySem.W.dataLt_int x y).symm
    | _ => cases h
  | .str x, b, h => by
    cases b with
    | str y => simp only [ltP]; rw [ltCps_lt]; exact (PySem.W.dataLt_str x y).symm
    | _ => cases h
  | .list xs, b, h => by
    cases b with
    | list ys => simp only [ltP]; exact ltPs_data xs ys h
    | _ => cases h
  | .tuple xs, b, h => by
    cases b with
    | tuple ys => simp only [ltP]; exact ltPs_data xs ys h
    | _ => cases h
  | .dict xs, b, h => by cases b <;> cases h
theorem ltPs_data : ∀ a b : List PyData, alks a b = true → ltPs a b = PyProof.Rows.lexLt itemOrd (PySem.W.keyToksAll a) (PySem.W.keyToksAll b)
  | [], [], _ => by decide
  | [], y :: ys, _ => by
    show true = PyProof.Rows.lexLt itemOrd [.inl 0] (.inl 1 :: _)
    rfl
  | x :: xs, [], _ => by
    show false = PyProof.Rows.lexLt itemOrd (.inl 1 :: _) [.inl 0]
    rfl
  | x :: xs, y :: ys, h => by
    have h' : (alk x y && alks xs ys) = true := h
    rw [Bool.and_eq_true] at h'
    rw [PySem.W.dataLt_cons (by rw [← alk_alike]; exact h'.1), ← ltPs_data xs ys h'.2, ← ltP_data x y h'.1, ← eqP_eqv]
    simp only [ltPs]
    cases eqP x y <;> rfl
end
mutual
theorem eqP_refl : ∀ a : PyData, a.plain = true → eqP a a = true
  | .none, _ => rfl
  | .bool x, _ => by simp [eqP]
  | .int x, _ => by simp [eqP]
  | .str x, _ => by simp [eqP]
  | .list xs, h => by simp only [eqP]; exact eqPs_refl xs h
  | .tuple xs, h => by simp only [eqP]; exact eqPs_refl xs h
  | .dict _, h => by cases h
theorem eqPs_refl : ∀ a : List PyData, PyData.plainAll a = true → eqPs a a = true
  | [], _ => rfl
  | x :: xs, h => by
    have h' : (x.plain && PyData.plainAll xs) = true := h
    rw [Bool.and_eq_true] at h'
    simp only [eqPs]
    rw [eqP_refl x h'.1, eqPs_refl xs h'.2]
    rfl
end
/-! ### reading the heap -/
section
variable {Z : Zn} {Ew : XK} {W W1 : Wd} {H H1 : Hp} {s0 : Sto} {X : Cx} {pins : List (Addr × Obj)} {s : Shared} {σ : L2.St} {Q : VK}
theorem mapO_cons {α β : Type} {f : α → Option β} {a : α} {as : List α} {r : List β} (h : mapO f (a :: as) = some r) : ∃ b bs, f a = some b ∧ mapO f as = some bs ∧ r = b :: bs := by
  unfold mapO at h
  split at h
  · split at h
    · cases h
      exact ⟨_, _, ‹_›, ‹_›, rfl⟩
    · cases h
  · cases h
theorem mapO_len {α β : Type} {f : α → Option β} : ∀ {as : List α} {r : List β}, mapO f as = some r → r.length = as.length
  | [], r, h => by
    cases h
    rfl
  | a :: as, r, h => by
    obtain ⟨b, bs, _, h2, rfl⟩ := mapO_cons h
    rw [List.length_cons, List.length_cons, mapO_len h2]
theorem reads_row {h : Heap} {f : D → Option PyData} (one : ∀ (d : D) (v : V) (u : Value) (p : PyData), RD Z W H d v → RelV v u → f d = some p → ∃ as, Reads h u p as) :
    ∀ (ds : List D) (vs : List V) (us : List Value) (ps : List PyData), RDs Z W H ds vs → Vals vs us → mapO f ds = some ps → ∃ as, ReadsAll h us ps as
  | [], vs, us, ps, d, r, e => by
    obtain rfl : vs = [] := d
    cases r
    cases e
    exact ⟨_, .nil⟩
  | d :: ds, vs, us, ps, ⟨v, t, e0, h1, h2⟩, r, e => by
    subst e0
    cases r with
    | cons r1 r2 =>
      obtain ⟨b, bs, e1, e2, rfl⟩ := mapO_cons e
      obtain ⟨as, q1⟩ := one d _ _ b h1 r1 e1
      obtain ⟨cs, q2⟩ := reads_row one ds _ _ bs h2 r2 e2
      exact ⟨_, .cons q1 q2⟩
theorem reads_of (hK : X.K = Z.K) (I : Inv X pins σ H s) (rs : RS Z W s0 H) : ∀ (n : Nat) (d : D) (v : V) (u : Value) (p : PyData), RD Z W H d v → RelV v u → rd n s0 d = some p → ∃ as, Reads s.heap u p as
  | 0, _, _, _, _, _, _, e => by cases e
  | n + 1, d, v, u, p, hd, r, e => by
    have row := reads_row (Z := Z) (W := W) (H := H) (h := s.heap) (f := rd n s0) (reads_of hK I rs n)
    cases d with
    | non => cases hd; cases r; cases e; exact ⟨_, .none⟩
    | bl b => cases hd; cases r; cases e; exact ⟨_, .bool b⟩
    | int i => cases hd; obtain ⟨t, rfl⟩ := r; cases e; exact ⟨_, .int i t⟩
    | str x => cases hd; obtain ⟨t, rfl⟩ := r; cases e; exact ⟨_, .str x t⟩
    | tup ds =>
      obtain ⟨a, vs, rfl, h1, h2⟩ := hd
      cases r
      obtain ⟨ps, e1, rfl⟩ := Option.map_eq_some_iff.mp (show (mapO (rd n s0) ds).map PyData.tuple = some p from e)
      rw [← hK] at h1
      obtain ⟨its, rv, ⟨o, ho, hc, m, hdt⟩, _⟩ := I.tuple h1
      obtain ⟨as, q⟩ := row ds vs its ps h2 rv e1
      exact ⟨_, .tuple ho hc hdt (by simpa using q)⟩
    | rol ds =>
      obtain ⟨a, vs, rfl, h1, h2⟩ := hd
      cases r
      obtain ⟨ps, e1, rfl⟩ := Option.map_eq_some_iff.mp (show (mapO (rd n s0) ds).map PyData.list = some p from e)
      rw [← hK] at h1
      obtain ⟨its, rv, pl, _⟩ := I.list h1.l
      obtain ⟨as, q⟩ := row ds vs its ps h2 rv e1
      obtain ⟨o, ho, hc, m, hdt⟩ := pl.isList
      exact ⟨_, .list ho hc hdt (by simpa using q)⟩
    | ref a =>
      obtain ⟨ha, rfl⟩ := hd
      cases r
      have e' : (match s0.get a with
        | some (.lst xs) => (mapO (rd n s0) xs).map PyData.list
        | _ => none) = some p := e
      split at e'
      · rename_i xs hx
        obtain ⟨ps, e1, rfl⟩ := Option.map_eq_some_iff.mp e'
        obtain ⟨vs, h1, h2⟩ := rs.cell hx
        obtain ⟨its, rv, pl, _⟩ := I.list (.of h1)
        obtain ⟨as, q⟩ := row xs vs its ps h2 rv e1
        obtain ⟨o, ho, hc, m, hdt⟩ := pl.isList
        exact ⟨_, .list ho hc hdt (by simpa using q)⟩
      · cases e'
    | fn f => cases e
    | gd m => cases e
    | ex c => cases e
mutual
theorem rd_plain : ∀ (n : Nat) (d : D) (p : PyData), rd n s0 d = some p → p.plain = true ∧ p.depth ≤ n
  | 0, _, _, e => by cases e
  | n + 1, d, p, e => by
    cases d with
    | non => cases e; exact ⟨rfl, Nat.zero_le _⟩
    | bl b => cases e; exact ⟨rfl, Nat.zero_le _⟩
    | int i => cases e; exact ⟨rfl, Nat.zero_le _⟩
    | str x => cases e; exact ⟨rfl, Nat.zero_le _⟩
    | tup ds =>
      obtain ⟨ps, e1, rfl⟩ := Option.map_eq_some_iff.mp (show (mapO (rd n s0) ds).map PyData.tuple = some p from e)
      have := rdL_plain n ds ps e1
      refine ⟨this.1, ?_⟩
      rw [PyData.depth]
      exact Nat.succ_le_succ this.2
    | rol ds =>
      obtain ⟨ps, e1, rfl⟩ := Option.map_eq_some_iff.mp (show (mapO (rd n s0) ds).map PyData.list = some p from e)
      have := rdL_plain n ds ps e1
      refine ⟨this.1, ?_⟩
      rw [PyData.depth]
      exact Nat.succ_le_succ this.2
    | ref a =>
      have e' : (match s0.get a with
        | some (.lst xs) => (mapO (rd n s0) xs).map PyData.list
        | _ => none) = some p := e
      split at e'
      · obtain ⟨ps, e1, rfl⟩ := Option.map_eq_some_iff.mp e'
        have := rdL_plain n _ ps e1
        refine ⟨this.1, ?_⟩
        rw [PyData.depth]
        exact Nat.succ_le_succ this.2
      · cases e'
    | fn f => cases e
    | gd m => cases e
    | ex c => cases e
theorem rdL_plain : ∀ (n : Nat) (ds : List D) (ps : List PyData), mapO (rd n s0) ds = some ps → PyData.plainAll ps = true ∧ PyData.depthAll ps ≤ n
  | n, [], ps, e => by
    cases e
    exact ⟨rfl, Nat.zero_le _⟩
  | n, d :: ds, ps, e => by
    obtain ⟨b, bs, e1, e2, rfl⟩ := mapO_cons e
    have h1 := rd_plain n d b e1
    have h2 := rdL_plain n ds bs e2
    refine ⟨?_, ?_⟩
    · rw [PyData.plainAll, h1.1, h2.1]; rfl
    · rw [PyData.depthAll]
      exact Nat.max_le.mpr ⟨h1.2, h2.2⟩
end
def Cm.py : Cm → CmpOp
  | .eq => .Eq
  | .ne => .NotEq
  | .lt => .Lt
  | .le => .LtE
  | .gt => .Gt
  | .ge => .GtE
  | .isIn => .In
  | .notIn => .NotIn
theorem hasP_any (p : PyData) : ∀ ps : List PyData, hasP p ps = ps.any fun y => PyData.eqv y p
  | [] => rfl
  | q :: r => by
    simp only [hasP, List.any_cons]
    rw [eqP_eqv, hasP_any p r]
/-- an operation that gives a truth value -/
theorem give_bl {b : Bool} (I : Inv X pins σ H s) (r : RS Z W s0 H) (po : Po Z Ew W H (.ok (D.bl b) s0) (RD Z) Q) : EP X pins σ Q (.bool b) s :=
  ⟨.bl b, H, I, rfl, po.ok r rfl⟩
theorem eqD_some {a b : D} {c : Bool} (h : eqD s0 a b = some c) : ∃ p q, rd RDN s0 a = some p ∧ rd RDN s0 b = some q ∧ c = eqP p q := by
  unfold eqD at h
  split at h
  · split at h
    · cases h
      exact ⟨_, _, ‹_›, ‹_›, rfl⟩
    · cases h
  · cases h
theorem ltD_some {a b : D} {c : Bool} (h : ltD s0 a b = some c) : ∃ p q, rd RDN s0 a = some p ∧ rd RDN s0 b = some q ∧ alk p q = true ∧ p ≠ .none ∧ c = ltP p q := by
  unfold ltD at h
  split at h
  · split at h
    · rename_i p h1 _ q h2
      cases hc : (alk p q && notNone p) with
      | false => rw [hc] at h; cases h
      | true =>
        rw [hc] at h
        cases h
        rw [Bool.and_eq_true] at hc
        exact ⟨_, _, h1, h2, hc.1, fun e => by rw [e] at hc; exact Bool.noConfusion hc.2, rfl⟩
    · cases h
  · cases h
theorem hasD_some {x : D} {ds : List D} {c : Bool} (h : hasD s0 x ds = some c) : ∃ p ps, rd RDN s0 x = some p ∧ mapO (rd RDN s0) ds = some ps ∧ c = ps.any fun y => PyData.eqv y p := by
  unfold hasD rowP at h
  split at h
  · split at h
    · cases h
      exact ⟨_, _, ‹_›, ‹_›, hasP_any _ _⟩
    · cases h
  · cases h
theorem Po.ofO {α β γ : Type} {o : Option α} {k : α → Sto → R β} {rel : Rel β γ} {Q : γ → Hp → Prop} (h : Po Z Ew W H ((R.ofO o s0).bind k) rel Q) : ∃ a, o = some a ∧ Po Z Ew W H (k a s0) rel Q := by
  cases o with
  | none => exact h.elim
  | some a => exact ⟨a, rfl, h⟩
theorem eq_of_rd (hK : X.K = Z.K) (I : Inv X pins σ H s) (rs : RS Z W s0 H) {a b : D} {x y : V} {v u : Value} (ra : RD Z W H a x) (rb : RD Z W H b y) (rx : RelV x v) (ry : RelV y u) {p q : PyData} (h1 : rd RDN s0 a = some p) (h2 : rd RDN s0 b = some q) :
    (∃ as, Reads s.heap v p as) ∧ (∃ as, Reads s.heap u q as) ∧ p.plain = true ∧ q.plain = true ∧ p.depth ≤ 40 ∧ q.depth ≤ 40 :=
  ⟨reads_of hK I rs _ _ _ _ _ ra rx h1, reads_of hK I rs _ _ _ _ _ rb ry h2, (rd_plain _ _ _ h1).1, (rd_plain _ _ _ h2).1, (rd_plain _ _ _ h1).2, (rd_plain _ _ _ h2).2⟩
/-- a row of the heap -/
theorem row_of (hK : X.K = Z.K) (I : Inv X pins σ H s) (rs : RS Z W s0 H) {ds : List D} {vs : List V} {us : List Value} {ps : List PyData} (h : RDs Z W H ds vs) (r : Vals vs us) (e : mapO (rd RDN s0) ds = some ps) : (∃ as, ReadsAll s.heap us ps as) ∧ PyData.plainAll ps = true ∧ PyData.depthAll ps ≤ 40 :=
  ⟨reads_row (reads_of hK I rs RDN) ds vs us ps h r e, (rdL_plain _ _ _ e).1, (rdL_plain _ _ _ e).2⟩
mutual
theorem alk_symm : ∀ a b : PyData, alk a b = true → alk b a = true
  | .none, b, h => by cases b <;> first | rfl | cases h
  | .bool x, b, h => by cases b <;> first | rfl | cases h
  | .int x, b, h => by cases b <;> first | rfl | cases h
  | .str x, b, h => by cases b <;> first | rfl | cases h
  | .list xs, b, h => by
    cases b with
    | list ys => simp only [alk] at h ⊢; exact alks_symm xs ys h
    | _ => cases h
  | .tuple xs, b, h => by
    cases b with
    | tuple ys => simp only [alk] at h ⊢; exact alks_symm xs ys h
    | _ => cases h
  | .dict xs, b, h => by cases b <;> cases h
theorem alks_symm : ∀ a b : List PyData, alks a b = true → alks b a = true
  | [], b, _ => by cases b <;> rfl
  | _ :: _, [], _ => rfl
  | x :: xs, y :: ys, h => by
    have h' : (alk x y && alks xs ys) = true := h
    rw [Bool.and_eq_true] at h'
    show (alk y x && alks ys xs) = true
    rw [alk_symm x y h'.1, alks_symm xs ys h'.2]
    rfl
end
theorem notNone_of {p q : PyData} (h : alk p q = true) (n : p ≠ .none) : q ≠ .none := by
  intro e
  rw [e] at h
  cases p with
  | none => exact n rfl
  | _ => cases h
theorem cm_sim (hK : X.K = Z.K) (hu : X.A.units + 64 < cLine) (gdc : Nat → List (D × D)) (o : Cm) : OpR X (compareOp o.py) (r2 Z (cmD gdc o)) := by
  intro pins s σ H x y v u Q I rx ry h
  obtain ⟨W, s0, a, b, rs, ra, rb, po⟩ := h
  have eqs : ∀ {p q : PyData}, rd RDN s0 a = some p → rd RDN s0 b = some q → _ := fun h1 h2 => eq_of_rd hK I rs ra rb rx ry h1 h2
  have inS : ∀ {c : Bool}, inD s0 gdc a b = some c → ∃ (xs ps : List PyData) (p : PyData) (as bs : List Addr), ((Reads s.heap u (.list ps) as) ∨ Reads s.heap u (.tuple ps) as) ∧ Reads s.heap v p bs ∧ PyData.plainAll ps = true ∧ p.plain = true ∧ X.A.units + 1 + min (PyData.depthAll ps) p.depth < cLine ∧ c = ps.any fun y => PyData.eqv y p := by
    intro c hc
    unfold inD at hc
    split at hc
    · obtain ⟨p, ps, h1, h2, e⟩ := hasD_some hc
      obtain ⟨q, vs, rfl, t1, t2⟩ := rb
      cases ry
      rw [← hK] at t1
      obtain ⟨its, rv, ⟨o, ho, hcl, m, hdt⟩, _⟩ := I.tuple t1
      obtain ⟨⟨as, ra1⟩, ra2, ra3⟩ := row_of hK I rs t2 rv h2
      obtain ⟨bs, rx1⟩ := reads_of hK I rs _ _ _ _ _ ra rx h1
      have d1 := (rd_plain _ _ _ h1).2
      exact ⟨[], ps, p, _, _, .inr (.tuple ho hcl hdt (by simpa using ra1)), rx1, ra2, (rd_plain _ _ _ h1).1, by have : RDN = 40 := rfl; omega, e⟩
    · obtain ⟨p, ps, h1, h2, e⟩ := hasD_some hc
      obtain ⟨q, vs, rfl, t1, t2⟩ := rb
      cases ry
      rw [← hK] at t1
      obtain ⟨its, rv, pl, _⟩ := I.list t1.l
      obtain ⟨o, ho, hcl, m, hdt⟩ := pl.isList
      obtain ⟨⟨as, ra1⟩, ra2, ra3⟩ := row_of hK I rs t2 rv h2
      obtain ⟨bs, rx1⟩ := reads_of hK I rs _ _ _ _ _ ra rx h1
      have d1 := (rd_plain _ _ _ h1).2
      exact ⟨[], ps, p, _, _, .inl (.list ho hcl hdt (by simpa using ra1)), rx1, ra2, (rd_plain _ _ _ h1).1, by have : RDN = 40 := rfl; omega, e⟩
    · split at hc
      · rename_i hx
        obtain ⟨p, ps, h1, h2, e⟩ := hasD_some hc
        obtain ⟨hb, rfl⟩ := rb
        cases ry
        obtain ⟨vs, t1, t2⟩ := rs.cell hx
        obtain ⟨its, rv, pl, _⟩ := I.list (.of t1)
        obtain ⟨o, ho, hcl, m, hdt⟩ := pl.isList
        obtain ⟨⟨as, ra1⟩, ra2, ra3⟩ := row_of hK I rs t2 rv h2
        obtain ⟨bs, rx1⟩ := reads_of hK I rs _ _ _ _ _ ra rx h1
        have d1 := (rd_plain _ _ _ h1).2
        exact ⟨[], ps, p, _, _, .inl (.list ho hcl hdt (by simpa using ra1)), rx1, ra2, (rd_plain _ _ _ h1).1, by have : RDN = 40 := rfl; omega, e⟩
      · cases hc
    · cases hc
  have room : ∀ {p q : PyData}, p.depth ≤ 40 → q.depth ≤ 40 → X.A.units + min p.depth q.depth < cLine := fun h1 h2 => by omega
  unfold cmD at po
  split at po
  · -- in
    obtain ⟨c, hc, po⟩ := po.ofO
    obtain ⟨_, ps, p, as, bs, rc, r1, h1, h2, h3, rfl⟩ := inS hc
    rcases rc with rc | rc
    · exact PySem.SeqAt.in_list_data rc r1 h1 h2 h3 (give_bl I rs po)
    · exact PySem.SeqAt.in_tuple_data rc r1 h1 h2 h3 (give_bl I rs po)
  · obtain ⟨c, hc, po⟩ := po.ofO
    obtain ⟨_, ps, p, as, bs, rc, r1, h1, h2, h3, rfl⟩ := inS hc
    rcases rc with rc | rc
    · exact PySem.SeqAt.notIn_list_data rc r1 h1 h2 h3 (give_bl I rs po)
    · exact PySem.SeqAt.notIn_tuple_data rc r1 h1 h2 h3 (give_bl I rs po)
  · -- two numbers
    cases ra; cases rb
    obtain ⟨t, rfl⟩ := rx
    obtain ⟨t', rfl⟩ := ry
    rename_i i j hi hn
    cases o with
    | eq => exact eq_int (give_bl I rs po)
    | ne => exact ne_int (give_bl I rs po)
    | lt => exact lt_int (give_bl I rs po)
    | le => exact le_int (give_bl I rs po)
    | gt => exact gt_int (give_bl I rs po)
    | ge => exact ge_int (give_bl I rs po)
    | isIn => exact absurd rfl hi
    | notIn => exact absurd rfl hn
  · obtain ⟨c, hc, po⟩ := po.ofO
    obtain ⟨p, q, h1, h2, rfl⟩ := eqD_some hc
    obtain ⟨⟨as, r1⟩, ⟨bs, r2⟩, p1, p2, d1, d2⟩ := eqs h1 h2
    rw [eqP_eqv] at po
    exact PySem.SeqAt.eq_plain r1 r2 p1 p2 (room d1 d2) (give_bl I rs po)
  · obtain ⟨c, hc, po⟩ := po.ofO
    obtain ⟨p, q, h1, h2, rfl⟩ := eqD_some hc
    obtain ⟨⟨as, r1⟩, ⟨bs, r2⟩, p1, p2, d1, d2⟩ := eqs h1 h2
    rw [eqP_eqv] at po
    exact PySem.SeqAt.ne_plain r1 r2 p1 p2 (room d1 d2) (give_bl I rs po)
  · obtain ⟨c, hc, po⟩ := po.ofO
    obtain ⟨p, q, h1, h2, hal, hn, rfl⟩ := ltD_some hc
    obtain ⟨⟨as, r1⟩, ⟨bs, r2⟩, p1, p2, d1, d2⟩ := eqs h1 h2
    rw [ltP_data _ _ hal] at po
    exact PySem.W.lt_data r1 r2 (by rw [← alk_alike]; exact hal) hn (room d1 d2) (give_bl I rs po)
  · obtain ⟨c, hc, po⟩ := po.ofO
    obtain ⟨p, q, h1, h2, hal, hn, rfl⟩ := ltD_some hc
    obtain ⟨⟨bs, r2⟩, ⟨as, r1⟩, p2, p1, d2, d1⟩ := eqs h2 h1
    rw [ltP_data _ _ hal] at po
    have hs := alk_symm p q hal
    exact PySem.W.gt_data r2 r1 (by rw [← alk_alike]; exact hs) (notNone_of hal hn) (room d2 d1) (give_bl I rs po)
  · obtain ⟨c, hc, po⟩ := po.ofO
    obtain ⟨p, q, h1, h2, hal, hn, rfl⟩ := ltD_some hc
    obtain ⟨⟨bs, r2⟩, ⟨as, r1⟩, p2, p1, d2, d1⟩ := eqs h2 h1
    rw [ltP_data _ _ hal] at po
    have hs := alk_symm p q hal
    exact PySem.W.le_data r2 r1 (by rw [← alk_alike]; exact hs) (notNone_of hal hn) (room d2 d1) (give_bl I rs po)
  · obtain ⟨c, hc, po⟩ := po.ofO
    obtain ⟨p, q, h1, h2, hal, hn, rfl⟩ := ltD_some hc
    obtain ⟨⟨as, r1⟩, ⟨bs, r2⟩, p1, p2, d1, d2⟩ := eqs h1 h2
    rw [ltP_data _ _ hal] at po
    exact PySem.W.ge_data r1 r2 (by rw [← alk_alike]; exact hal) hn (room d1 d2) (give_bl I rs po)
end
end TR
set_option autoImplicit false
set_option linter.all false
set_option maxRecDepth 100000
/-! Expressions: each construct once. -/
namespace TR
open PySem PySem.Spec PyProof.Rows L2
/-- what a def promises: what the small language's call gives -/
def spF (Z : Zn) (call : Nat → List D → Sto → R D) (f : Nat) : Sp := fun vs H Q E => ∃ W s ds, RS Z W s H ∧ RDs Z W H ds vs ∧ Po Z E W H (call f ds s) (RD Z) Q
/-- the arguments put into the parameters' order -/
def permU {α : Type} (d : α) (vs : List α) : List Nat → List α
  | [] => []
  | i :: is => (vs[i]?).getD d :: permU d vs is
/-- a call with keywords: so many positional ones, the names, the order -/
def KBnd (K : PySem.W.Frag) (fd : FuncData) (ps : List Str) (q : Nat × List Str × List Nat) : Prop :=
  ∀ (s : Shared) (us ws : List Value), K.In s.heap → us.length = q.1 → ws.length = q.2.1.length → BindsTo s fd ⟨us, q.2.1.zip ws⟩ (ps.zip (permU .none (us ++ ws) q.2.2))
structure FnR (Z : Zn) (call : Nat → List D → Sto → R D) (X : Cx) (f : Nat) : Prop where
  ex : ∃ (k : Nat) (fd : FuncData) (ps : List Str), FnOk X.prog X.w X.K X.mg X.base (CX X.prog X.w) k (Z.fa f) fd ps (spF Z call f) ∧ Room k X.A ∧ PySem.W.keepIn X.K (.ref (Z.fa f)) = true ∧ Binds X.K fd ps [] ∧ ∀ q ∈ Z.kws f, KBnd X.K fd ps q
/-- a written dict -/
def GdRel (Z : Zn) : List (D × D) → List (Key × Value) → Prop
  | [], vs => vs = []
  | (k, d) :: r, vs => ∃ q u t, vs = (q, u) :: t ∧ keyV k = some q ∧ (∃ v, RelV v u ∧ ∀ W H, RD Z W H d v) ∧ GdRel Z r t
/-- an own class of exceptions, without an __init__ of its own -/
def ExcF (K : PySem.W.Frag) (C : Addr) : Prop := ∃ (bmB : List Value) (B newId initId : String), ExcBaseFacts B newId initId bmB ∧ PySem.W.excIn K C bmB newId = true ∧ PySem.W.keepIn K (.ref C) = true ∧
  PySem.W.subIn K (.ref C) (.type "BaseException") = some true ∧ PySem.W.typeIn K (.ref C) = some (.type "type")
/-- the facts about a context that hang on no scope -/
structure Fx (Z : Zn) (M : Sem) (gl : List (Str × Gv)) (X : Cx) : Prop where
  K : X.K = Z.K
  calm : X.calm = true
  hu : X.A.units + 64 < cLine
  hd : X.A.handled = none
  nd : X.N.Nodup
  fn : ∀ x f, gl.lookup x = some (.fn f) → X.mg x = some (.ref (Z.fa f)) ∧ Z.pr f
  pr : ∀ f, Z.pr f → FnR Z M.call X f
  con : ∀ x n, gl.lookup x = some (.con n) → ∃ u v, X.mg x = some u ∧ RelV v u ∧ ∀ W H, RD Z W H (M.T.con n) v
  gd : ∀ x n, gl.lookup x = some (.gd n) → X.mg x = some (.ref (Z.ga n))
  gdo : ∀ n, M.T.gdc n ≠ [] → ∀ h, X.K.In h → ∃ vs, h.DictOf (mixKind X.prog X.w) (Z.ga n) vs ∧ GdRel Z (M.T.gdc n) vs
  blt : ∀ x, x ∈ bltNames → X.mg x = none
  exc : ∀ x n, gl.lookup x = some (.exc n) → X.mg x = some (.ref (Z.ca n)) ∧ ExcF X.K (Z.ca n) ∧ Z.xc n
  xcc : ∀ n, Z.xc n → ExcC X.K (Z.ca n) ∧ PySem.W.kitOne X.K (.ref (Z.ca n)) (.type "ValueError") = some (M.T.ve n)
  xcm : ∀ m n, Z.xc m → Z.xc n → PySem.W.exmOne X.K (.ref (Z.ca m)) (.ref (Z.ca n)) = some (Nat.beq n m)
  gds : ∀ n, M.T.gdc n ≠ [] → (Z.ga n == sysModules) = false
/-- the checker's view of a scope -/
structure Cc where
  N : List Str
  sc : Scope
  gl : List (Str × Gv)
  own : Str → Bool
  kw : Nat → List (Nat × List Str × List Nat)
  top : Bool
/-- a def's own frame -/
structure Own (X : Cx) : Prop where
  st : X.stack = X.env :: X.outer
  fr : X.env.frame = some X.env.locals
structure Sx (Z : Zn) (M : Sem) (c : Cc) (X : Cx) (Wx : WX) : Prop where
  fx : Fx Z M c.gl X
  N : X.N = c.N
  sc : X.env.scope = c.sc
  tk : Takes X Wx
  fnc : ∀ x, c.own x = true → X.fn x = true
  kw : Z.kws = c.kw
  top : c.top = true → Own X
def okName (x : Str) : Bool := !(x == ("__debug__" : Str)) && !(x == ("__classdict__" : Str)) && !(x == ("__name__" : Str))
def visB (sc : Scope) (x : Str) : Bool := match sc.names.lookup x with
  | some .local => true
  | some .cell => true
  | some .free => true
  | _ => false
def glB (sc : Scope) (x : Str) : Bool := match sc.names.lookup x with
  | some .globalImplicit => true
  | _ => false
def notStar : Expr → Bool
  | .Starred _ _ => false
  | _ => true
theorem star_cons {e : Expr} {es : List Expr} {env : Env} (h : notStar e = true) : starEach (e :: es) env = (false, eval e env) :: starEach es env := by
  cases e <;> first | rfl | cases h
theorem star_none {env : Env} {pos : Pos} : ∀ {es : List Expr}, es.all notStar = true → (backTo pos (starEach es env)).any (·.1) = false
  | [], _ => rfl
  | e :: es, h => by
    rw [List.all_cons, Bool.and_eq_true] at h
    rw [star_cons h.1]
    show (false || (backTo pos (starEach es env)).any (·.1)) = false
    rw [star_none h.2]
    rfl
section
variable {Z : Zn} {M : Sem} {c : Cc} {X : Cx} {Wx : WX} {pos : Pos}
/-- both readings of a term -/
structure PP (Z : Zn) (M : Sem) (X : Cx) (Wx : WX) (a : Expr) (e : E) : Prop where
  pe : PE X a (tE Z M Wx e)
  pt : PT X a (tT Z M Wx e)
theorem okName_ok {x : Str} (h : okName x = true) : (x == ("__debug__" : Str)) = false ∧ (x == ("__classdict__" : Str)) = false ∧ x ≠ ("__name__" : Str) := by
  unfold okName at h
  rw [Bool.and_eq_true, Bool.and_eq_true, Bool.not_eq_true', Bool.not_eq_true', Bool.not_eq_true'] at h
  exact ⟨h.1.1, h.1.2, beq_eq_false_iff_ne.mp h.2⟩
theorem visB_ok {sc : Scope} {x : Str} (h : visB sc x = true) : Vis sc x := by
  unfold visB at h
  split at h
  · exact .inl ‹_›
  · exact .inr (.inl ‹_›)
  · exact .inr (.inr ‹_›)
  · cases h
theorem glB_ok {sc : Scope} {x : Str} (h : glB sc x = true) : sc.names.lookup x = some .globalImplicit := by
  unfold glB at h
  split at h
  · assumption
  · cases h
theorem Sx.gl (S : Sx Z M c X Wx) {x : Str} (h : glB c.sc x = true) : Gl X x := by
  show X.env.scope.names.lookup x = _
  rw [S.sc]
  exact glB_ok h
theorem Sx.vis (S : Sx Z M c X Wx) {x : Str} (h : visB c.sc x = true) : Vis X.env.scope x := by
  rw [S.sc]
  exact visB_ok h
/-- a reading as a test, out of the value's -/
theorem tT_of {e : E} {σ : L2.St} {H : Hp} {Q : Bool → Hp → Prop} (h : tT Z M Wx e σ H Q) : tE Z M Wx e σ H fun x H1 => ∃ k, TruV Z.K x H1 k ∧ Q k H1 := by
  obtain ⟨W, s, f, rs, rf, po⟩ := h
  refine ⟨W, s, f, rs, rf, Po.imp (Po.bind (rel1 := RD Z) po) fun W' s' H' a b e x r q => ⟨q, fun ⟨W2, s2, a2, e2, x2, r2, q2, po2⟩ => ?_⟩⟩
  rw [e] at e2
  cases e2
  cases ht : truth s' a with
  | none => rw [ht] at po2; exact po2.elim
  | some t =>
    rw [ht] at po2
    refine ⟨t, ?_, po2.ok r2 rfl⟩
    unfold truth at ht
    split at ht
    · cases ht
      cases q2
      rfl
    · split at ht
      · rename_i hx
        cases ht
        obtain ⟨_, rfl⟩ := q2
        obtain ⟨vs, t1, t2⟩ := r2.cell hx
        refine .inl ⟨vs, .of t1, ?_⟩
        have := t2.nil_iff
        cases vs <;> cases ‹List D› <;> simp_all
      · cases ht
    · cases ht
/-- a plain value as a test -/
theorem pt_plain {a : Expr} {e : E} (hK : X.K = Z.K) (h : PE X a (tE Z M Wx e)) (he : ∀ whole, isTrue a X.env whole = (do let v ← whole; standAt a.pos; holding [v] (truthy v))) : PT X a (tT Z M Wx e) := by
  refine ⟨fun pins s σ H Q I hw => ?_⟩
  refine isTrue_plain (thn (h.run pins s σ H _ I (tT_of hw)) fun v s1 ⟨x, H1, I1, r1, k, ht, q1⟩ => ?_) (he _)
  exact tru_ok pins s1 σ H1 x v Q I1 r1 ⟨k, by rw [hK]; exact ht, q1⟩
/-! ### names, constants -/
theorem s_v (S : Sx Z M c X Wx) {i : Nat} {x : Str} (hN : c.N[i]? = some x) (hv : visB c.sc x = true) (hn : okName x = true) : PP Z M X Wx (.Name x pos) (.v i) := by
  obtain ⟨h1, h2, _⟩ := okName_ok hn
  have pe : PE X (.Name x pos) (tE Z M Wx (.v i)) := peI (pe_var (i := i) (by rw [S.N]; exact hN) (S.vis hv) h1 h2) fun σ H Q ⟨W, s, f, rs, rf, po⟩ => by
    have po' : Po Z (atS Wx σ) W H (match f[i]? with
      | some (some d) => .ok d s
      | _ => .bad) (RD Z) Q := po
    split at po'
    · obtain ⟨v, e, r⟩ := rf.at_ _ _ ‹_›
      exact ⟨v, e, po'.ok rs r⟩
    · exact po'.elim
  exact ⟨pe, pt_plain S.fx.K pe fun _ => rfl⟩
def Kc.ok : Kc → Const → Bool
  | .non, .none => true
  | .bl a, .bool b => a == b
  | .int a, .int b => a == b
  | .str a, .str b => a == b
  | _, _ => false
theorem s_c (S : Sx Z M c X Wx) {k : Kc} {q : Const} {j : Nat} (h : k.ok q = true) : PP Z M X Wx (.Constant q j pos) (.c k) := by
  have pe : PE X (.Constant q j pos) (tE Z M Wx (.c k)) := by
    cases k with
    | non => cases q with
      | none => exact peI pe_non fun σ H Q ⟨W, s, f, rs, rf, po⟩ => po.ok rs rfl
      | _ => cases h
    | bl a => cases q with
      | bool b =>
        obtain rfl : a = b := eq_of_beq h
        exact peI pe_bl fun σ H Q ⟨W, s, f, rs, rf, po⟩ => po.ok rs rfl
      | _ => cases h
    | int a => cases q with
      | int b =>
        obtain rfl : a = b := eq_of_beq h
        exact peI pe_int fun σ H Q ⟨W, s, f, rs, rf, po⟩ => po.ok rs rfl
      | _ => cases h
    | str a => cases q with
      | str b =>
        obtain rfl : a = b := eq_of_beq h
        exact peI pe_str fun σ H Q ⟨W, s, f, rs, rf, po⟩ => po.ok rs rfl
      | _ => cases h
  exact ⟨pe, pt_plain S.fx.K pe fun _ => rfl⟩
theorem s_g (S : Sx Z M c X Wx) {n : Nat} {x : Str} (hg : glB c.sc x = true) (hl : c.gl.lookup x = some (.con n)) (hn : okName x = true) : PP Z M X Wx (.Name x pos) (.g n) := by
  obtain ⟨h1, h2, _⟩ := okName_ok hn
  obtain ⟨u, v, hm, r, hv⟩ := S.fx.con x n hl
  have pe : PE X (.Name x pos) (tE Z M Wx (.g n)) := peI (pe_glob (S.gl hg) hm r h1) fun σ H Q ⟨W, s, f, rs, rf, po⟩ => po.ok rs (hv W H)
  exact ⟨pe, pt_plain S.fx.K pe fun _ => rfl⟩
theorem s_gd (S : Sx Z M c X Wx) {n : Nat} {x : Str} (hg : glB c.sc x = true) (hl : c.gl.lookup x = some (.gd n)) (hn : okName x = true) : PP Z M X Wx (.Name x pos) (.gdr n) := by
  obtain ⟨h1, h2, _⟩ := okName_ok hn
  have hm := S.fx.gd x n hl
  have pe : PE X (.Name x pos) (tE Z M Wx (.gdr n)) := peI (pe_glob (v := .ref (Z.ga n)) (S.gl hg) hm rfl h1) fun σ H Q ⟨W, s, f, rs, rf, po⟩ => po.ok rs rfl
  exact ⟨pe, pt_plain S.fx.K pe fun _ => rfl⟩
theorem s_f (S : Sx Z M c X Wx) {n : Nat} {x : Str} (hg : glB c.sc x = true) (hl : c.gl.lookup x = some (.fn n)) (hn : okName x = true) : PP Z M X Wx (.Name x pos) (.f n) := by
  obtain ⟨h1, h2, _⟩ := okName_ok hn
  have hm := (S.fx.fn x n hl).1
  have pe : PE X (.Name x pos) (tE Z M Wx (.f n)) := peI (pe_glob (v := .ref (Z.fa n)) (S.gl hg) hm rfl h1) fun σ H Q ⟨W, s, f, rs, rf, po⟩ => po.ok rs ⟨rfl, (S.fx.fn x n hl).2⟩
  exact ⟨pe, pt_plain S.fx.K pe fun _ => rfl⟩
/-! ### rows of terms -/
theorem s_nil : PA X [] (tA Z M Wx []) := paI pa_nil fun σ H Q ⟨W, s, f, rs, rf, po⟩ => po.ok rs rfl
theorem s_cons {a : Expr} {as : List Expr} {e : E} {es : List E} (ha : PE X a (tE Z M Wx e)) (hr : PA X as (tA Z M Wx es)) (hs : notStar a = true) : PA X (a :: as) (tA Z M Wx (e :: es)) :=
  paI (pa_cons ha hr (star_cons hs)) fun σ H Q ⟨W, s, f, rs, rf, po⟩ => ⟨W, s, f, rs, rf, Po.imp (Po.bind (rel1 := RD Z) po) fun W' s' H' a b e x r q => ⟨q, fun ⟨W1, s1, a1, _, x1, r1, q1, po1⟩ =>
    ⟨W1, s1, f, r1, rf.mono (x1.tk rs), Po.imp (Po.bind (rel1 := RDs Z) po1) fun W' s' H' a b e x r q => ⟨q, fun ⟨W2, s2, a2, _, x2, r2, q2, po2⟩ => po2.ok r2 ⟨_, _, rfl, RD.mono (x2.tk r1) _ q1, q2⟩⟩⟩⟩⟩
theorem lenOk_tuple {n : Nat} {ds : List D} {xs : List V} {W : Wd} {H : Hp} (r : RDs Z W H ds xs) (h : ds.length = n) (hn : n ≤ 1000) : xs.length ≤ sizeLine := by
  rw [r.length, h, sizeLine_eq]
  omega
theorem evs_len : ∀ (es : List E) (f : Fr) (s s' : Sto) (ds : List D), evs M es f s = .ok ds s' → ds.length = es.length
  | [], _, _, _, _, h => by cases h; rfl
  | e :: es, f, s, s', ds, h => by
    have h' : ((ev M e f s).bind fun x s => (evs M es f s).bind fun xs s => .ok (x :: xs) s) = .ok ds s' := h
    cases h1 : ev M e f s with
    | ok x s1 =>
      rw [h1] at h'
      have h' : ((evs M es f s1).bind fun xs s => .ok (x :: xs) s) = .ok ds s' := h'
      cases h2 : evs M es f s1 with
      | ok xs s2 =>
        rw [h2] at h'
        cases h'
        rw [List.length_cons, List.length_cons, evs_len es _ _ _ _ h2]
      | ex _ _ => rw [h2] at h'; cases h'
      | bad => rw [h2] at h'; cases h'
    | ex _ _ => rw [h1] at h'; cases h'
    | bad => rw [h1] at h'; cases h'
theorem s_tup (S : Sx Z M c X Wx) {as : List Expr} {es : List E} {k : Nat} (h : PA X as (tA Z M Wx es)) (hl : es.length ≤ 1000) : PP Z M X Wx (.Tuple as k pos) (.tup es) := by
  have pe : PE X (.Tuple as k pos) (tE Z M Wx (.tup es)) := peI (pe_tup h) fun σ H Q ⟨W, s, f, rs, rf, po⟩ => ⟨W, s, f, rs, rf, Po.imp (Po.bind (rel1 := RDs Z) po) fun W' s' H' a b e x r q => ⟨q, fun ⟨W1, s1, a1, e1, x1, r1, q1, po1⟩ =>
    ⟨lenOk_tuple q1 (evs_len _ _ _ _ _ e1) hl, fun p hp => po1 _ _ _ (ex_lay hp) (r1.lay hp) ⟨p, _, rfl, .inl (.inl upd_same), RDs.mono (tk_lay hp) _ q1⟩⟩⟩⟩
  exact ⟨pe, pt_plain S.fx.K pe fun _ => rfl⟩
theorem s_lst (S : Sx Z M c X Wx) {as : List Expr} {es : List E} (h : PA X as (tA Z M Wx es)) (hl : es.length ≤ 1000) : PP Z M X Wx (.List as pos) (.lst es) := by
  have pe : PE X (.List as pos) (tE Z M Wx (.lst es)) := peI (pe_lst h) fun σ H Q ⟨W, s, f, rs, rf, po⟩ => ⟨W, s, f, rs, rf, Po.imp (Po.bind (rel1 := RDs Z) po) fun W' s' H' a b e x r q => ⟨q, fun ⟨W1, s1, a1, e1, x1, r1, q1, po1⟩ =>
    ⟨lenOk_tuple q1 (evs_len _ _ _ _ _ e1) hl, fun p hp => po1.newL r1 hp q1⟩⟩⟩
  exact ⟨pe, pt_plain S.fx.K pe fun _ => rfl⟩
/-! ### operators -/
theorem Po.noExE {α β : Type} {Ew : XK} {W : Wd} {H : Hp} {r : R α} {rel : Rel α β} {Q : β → Hp → Prop} (n : NoEx r) (h : Po Z Ew W H r rel Q) : Po Z (fun _ _ _ => False) W H r rel Q := Po.noex n h
theorem noex_opI {o : Op2} {a b : Int} {s : Sto} : NoEx (opI o a b s) := by
  unfold opI
  cases o <;> first | exact NoEx.ok | exact NoEx.cond NoEx.ok NoEx.bad
theorem noex_opD {o : Op2} {a b : D} {s : Sto} : NoEx (opD o a b s) := by
  unfold opD
  split <;> first | exact noex_opI | exact NoEx.ok | exact NoEx.bad | exact NoEx.cond NoEx.ok NoEx.bad | (split <;> first | exact NoEx.bad | exact NoEx.cond NoEx.ok NoEx.bad)
theorem noex_cmD {g : Nat → List (D × D)} {o : Cm} {a b : D} {s : Sto} : NoEx (cmD g o a b s) := by
  unfold cmD
  split <;> first | exact NoEx.ok | exact NoEx.bad | exact NoEx.bind NoEx.ofO fun _ _ => NoEx.ok
/-- two terms, then an operation on values -/
theorem two {e1 e2 : E} {g : D → D → Sto → R D} (hg : ∀ a b s, NoEx (g a b s)) {σ : L2.St} {H : Hp} {Q : VK}
    (h : ∃ W s f, RS Z W s H ∧ RF Z W H f σ ∧ Po Z (atS Wx σ) W H ((ev M e1 f s).bind fun x s => (ev M e2 f s).bind fun y s => g x y s) (RD Z) Q) :
    tE Z M Wx e1 σ H fun x H1 => tE Z M Wx e2 σ H1 fun y H2 => r2 Z g x y H2 Q := by
  obtain ⟨W, s, f, rs, rf, po⟩ := h
  exact ⟨W, s, f, rs, rf, Po.imp (Po.bind (rel1 := RD Z) po) fun W' s' H' a b e x r q => ⟨q, fun ⟨W1, s1, a1, e1, x1, r1, q1, po1⟩ =>
    ⟨W1, s1, f, r1, rf.mono (x1.tk rs), Po.imp (Po.bind (rel1 := RD Z) po1) fun W' s' H' a b e x r q => ⟨q, fun ⟨W2, s2, a2, e2, x2, r2, q2, po2⟩ =>
      ⟨W2, s2, a1, a2, r2, RD.mono (x2.tk r1) _ q1, q2, Po.noExE (hg _ _ _) po2⟩⟩⟩⟩⟩
theorem s_op (S : Sx Z M c X Wx) {o : Op2} {a b : Expr} {ea eb : E} (ha : PP Z M X Wx a ea) (hb : PP Z M X Wx b eb) : PP Z M X Wx (.BinOp a o.py b pos) (.op o ea eb) := by
  have pe : PE X (.BinOp a o.py b pos) (tE Z M Wx (.op o ea eb)) := peI (pe_op (op_sim S.fx.K o) ha.pe hb.pe) fun σ H Q h => two (fun _ _ _ => noex_opD) h
  exact ⟨pe, pt_plain S.fx.K pe fun _ => rfl⟩
def cmOk (o : Cm) (b : Expr) : Bool := !behindInMarks o.py b
/-- the truth of what an operation gives -/
theorem test_of {α : Type} {Ew : XK} {W : Wd} {H : Hp} {r : R D} {Q : Bool → Hp → Prop} (h : Po Z Ew W H (tru r) RB Q) (hb : ∀ d s', r = .ok d s' → ∃ b, d = .bl b) : Po Z Ew W H r (RD Z) fun x H' => ∃ k, x = .bl k ∧ Q k H' := by
  cases r with
  | ok d s' =>
    obtain ⟨b, rfl⟩ := hb d s' rfl
    exact fun W' H' v x r q => ⟨b, q, h W' H' b x r rfl⟩
  | ex e s' => exact h
  | bad => exact h
theorem cmD_bl {g : Nat → List (D × D)} {o : Cm} {a b d : D} {s s' : Sto} (h : cmD g o a b s = .ok d s') : ∃ k, d = .bl k := by
  unfold cmD at h
  split at h <;> first
    | (cases h; exact ⟨_, rfl⟩)
    | (cases h; done)
    | (revert h; generalize (inD s g _ _) = z; cases z <;> intro h <;> cases h; exact ⟨_, rfl⟩)
    | (revert h; generalize (eqD s _ _) = z; cases z <;> intro h <;> cases h; exact ⟨_, rfl⟩)
    | (revert h; generalize (ltD s _ _) = z; cases z <;> intro h <;> cases h; exact ⟨_, rfl⟩)
theorem s_cmp (S : Sx Z M c X Wx) {o : Cm} {a b : Expr} {ea eb : E} (ha : PP Z M X Wx a ea) (hb : PP Z M X Wx b eb) (hm : cmOk o b = true) : PP Z M X Wx (.Compare a [o.py] [b] pos) (.cmp o ea eb) := by
  have hm : behindInMarks o.py b = false := by
    unfold cmOk at hm
    rw [Bool.not_eq_true'] at hm
    exact hm
  refine ⟨peI (pe_cmpR (cm_sim S.fx.K S.fx.hu M.T.gdc o) ha.pe hb.pe hm) fun σ H Q h => two (fun _ _ _ => noex_cmD) h, ptI (pt_cmpR (cm_sim S.fx.K S.fx.hu M.T.gdc o) ha.pe hb.pe hm) fun σ H Q h => ?_⟩
  obtain ⟨W, s, f, rs, rf, po⟩ := h
  have po : Po Z (atS Wx σ) W H ((ev M ea f s).bind fun x s => (ev M eb f s).bind fun y s => tru (cmD M.T.gdc o x y s)) RB Q := by
    have e : tru (ev M (.cmp o ea eb) f s) = ((ev M ea f s).bind fun x s => (ev M eb f s).bind fun y s => tru (cmD M.T.gdc o x y s)) := by
      show tru ((ev M ea f s).bind fun x s => (ev M eb f s).bind fun y s => cmD M.T.gdc o x y s) = _
      cases ev M ea f s with
      | ok x s1 =>
        show tru ((ev M eb f s1).bind fun y s => cmD M.T.gdc o x y s) = (ev M eb f s1).bind fun y s => tru (cmD M.T.gdc o x y s)
        cases ev M eb f s1 <;> rfl
      | ex _ _ => rfl
      | bad => rfl
    rw [← e]
    exact po
  exact ⟨W, s, f, rs, rf, Po.imp (Po.bind (rel1 := RD Z) po) fun W' s' H' a b e x r q => ⟨q, fun ⟨W1, s1, a1, e1, x1, r1, q1, po1⟩ =>
    ⟨W1, s1, f, r1, rf.mono (x1.tk rs), Po.imp (Po.bind (rel1 := RD Z) po1) fun W' s' H' a b e x r q => ⟨q, fun ⟨W2, s2, a2, e2, x2, r2, q2, po2⟩ =>
      ⟨W2, s2, a1, a2, r2, RD.mono (x2.tk r1) _ q1, q2, Po.noExE noex_cmD (test_of (α := Unit) po2 fun d s' h => cmD_bl h)⟩⟩⟩⟩⟩
theorem s_neg (S : Sx Z M c X Wx) {a : Expr} {ea : E} (ha : PP Z M X Wx a ea) : PP Z M X Wx (.UnaryOp .USub a pos) (.neg ea) := by
  have pe : PE X (.UnaryOp .USub a pos) (tE Z M Wx (.neg ea)) := peI (pe_un un_neg ha.pe) fun σ H Q ⟨W, s, f, rs, rf, po⟩ => ⟨W, s, f, rs, rf, Po.imp (Po.bind (rel1 := RD Z) po) fun W' s' H' a b e x r q => ⟨q, fun ⟨W1, s1, a1, e1, x1, r1, q1, po1⟩ => by
    split at po1
    · obtain rfl : b = .int _ := q1
      exact ⟨_, rfl, po1.ok r1 rfl⟩
    · exact po1.elim⟩⟩
  exact ⟨pe, pt_plain S.fx.K pe fun _ => rfl⟩
/-- a term's truth, a test -/
theorem tru_bind {α : Type} {r : R D} {k : Bool → Sto → R α} : (tru r).bind k = r.bind fun x s => (R.ofO (truth s x) s).bind k := by
  cases r <;> rfl
theorem s_not (S : Sx Z M c X Wx) {a : Expr} {ea : E} (ha : PP Z M X Wx a ea) : PP Z M X Wx (.UnaryOp .Not a pos) (.not ea) := by
  refine ⟨peI (pe_notT ha.pe) fun σ H Q ⟨W, s, f, rs, rf, po⟩ => ?_, ptI (pt_not ha.pt) fun σ H Q ⟨W, s, f, rs, rf, po⟩ => ?_⟩
  · have := tT_of (Z := Z) (M := M) (Wx := Wx) (e := ea) (σ := σ) (H := H) (Q := fun k H1 => Q (.bl (!k)) H1) ⟨W, s, f, rs, rf, Po.imp (Po.bind (rel1 := RB) po) fun W' s' H' a b e x r q => ⟨q, fun ⟨W1, s1, a1, e1, x1, r1, q1, po1⟩ => by
      obtain rfl : a1 = b := q1
      exact po1.ok r1 rfl⟩⟩
    rw [← S.fx.K] at this
    exact this
  · refine ⟨W, s, f, rs, rf, ?_⟩
    have e : tru (ev M (.not ea) f s) = (tru (ev M ea f s)).bind fun b s => .ok (!b) s := by
      show tru ((tru (ev M ea f s)).bind fun b s => .ok (.bl (!b)) s) = _
      cases tru (ev M ea f s) <;> rfl
    rw [e] at po
    exact Po.imp (Po.bind (rel1 := RB) po) fun W' s' H' a b e x r q => ⟨q, fun ⟨W1, s1, a1, e1, x1, r1, q1, po1⟩ => by
      obtain rfl : a1 = b := q1
      exact po1.ok r1 rfl⟩
/-- what 'and', 'or' go on with -/
theorem truV_of {W : Wd} {H : Hp} {s : Sto} {d : D} {v : V} {t : Bool} (r : RS Z W s H) (q : RD Z W H d v) (h : truth s d = some t) : TruV Z.K v H t := by
  unfold truth at h
  split at h
  · cases h
    cases q
    rfl
  · split at h
    · rename_i hx
      cases h
      obtain ⟨_, rfl⟩ := q
      obtain ⟨vs, t1, t2⟩ := r.cell hx
      refine .inl ⟨vs, .of t1, ?_⟩
      have := t2.nil_iff
      cases vs <;> cases ‹List D› <;> simp_all
    · cases h
  · cases h
/-- a and b, the right side a row behind it -/
theorem s_and (S : Sx Z M c X Wx) {a b : Expr} {rest : List Expr} {ea eb : E} (ha : PP Z M X Wx a ea) (hb : PE X (.BoolOp .And (b :: rest) pos) (tE Z M Wx eb)) (hw : PW X (.BoolOp .And (b :: rest) pos) (tT Z M Wx eb)) :
    PE X (.BoolOp .And (a :: b :: rest) pos) (tE Z M Wx (.and ea eb)) ∧ PW X (.BoolOp .And (a :: b :: rest) pos) (tT Z M Wx (.and ea eb)) := by
  refine ⟨peI (pe_andT ha.pe hb) fun σ H Q ⟨W, s, f, rs, rf, po⟩ => ?_, pwI (pw_and ha.pt hw) fun σ H Q ⟨W, s, f, rs, rf, po⟩ => ?_⟩
  · rw [S.fx.K]
    refine ⟨W, s, f, rs, rf, Po.imp (Po.bind (rel1 := RD Z) po) fun W' s' H' a b e x r q => ⟨q, fun ⟨W1, s1, a1, e1, x1, r1, q1, po1⟩ => ?_⟩⟩
    obtain ⟨t, ht, po1⟩ := po1.ofO
    refine ⟨t, truV_of r1 q1 ht, ?_⟩
    cases t with
    | true => exact ⟨W1, s1, f, r1, rf.mono (x1.tk rs), po1⟩
    | false => exact po1.ok r1 q1
  · have e : tru (ev M (.and ea eb) f s) = (tru (ev M ea f s)).bind fun t s => cond t (tru (ev M eb f s)) (.ok false s) := by
      show tru ((ev M ea f s).bind fun x s => (R.ofO (truth s x) s).bind fun c s => cond c (ev M eb f s) (.ok x s)) = _
      rw [tru_bind]
      cases ev M ea f s with
      | ok x s1 =>
        show tru ((R.ofO (truth s1 x) s1).bind fun c s => cond c (ev M eb f s) (.ok x s)) = (R.ofO (truth s1 x) s1).bind fun t s => cond t (tru (ev M eb f s)) (.ok false s)
        cases ht : truth s1 x with
        | none => rfl
        | some t =>
          cases t with
          | true => rfl
          | false =>
            show R.ofO (truth s1 x) s1 = .ok false s1
            rw [ht]
            rfl
      | ex _ _ => rfl
      | bad => rfl
    rw [e] at po
    exact ⟨W, s, f, rs, rf, Po.imp (Po.bind (rel1 := RB) po) fun W' s' H' a b e x r q => ⟨q, fun ⟨W1, s1, a1, e1, x1, r1, q1, po1⟩ => by
      obtain rfl : a1 = b := q1
      cases a1 with
      | true => exact ⟨W1, s1, f, r1, rf.mono (x1.tk rs), po1⟩
      | false => exact po1.ok r1 rfl⟩⟩
theorem s_or (S : Sx Z M c X Wx) {a b : Expr} {rest : List Expr} {ea eb : E} (ha : PP Z M X Wx a ea) (hb : PE X (.BoolOp .Or (b :: rest) pos) (tE Z M Wx eb)) (hw : PW X (.BoolOp .Or (b :: rest) pos) (tT Z M Wx eb)) :
    PE X (.BoolOp .Or (a :: b :: rest) pos) (tE Z M Wx (.or ea eb)) ∧ PW X (.BoolOp .Or (a :: b :: rest) pos) (tT Z M Wx (.or ea eb)) := by
  refine ⟨peI (pe_orT ha.pe hb) fun σ H Q ⟨W, s, f, rs, rf, po⟩ => ?_, pwI (pw_or ha.pt hw) fun σ H Q ⟨W, s, f, rs, rf, po⟩ => ?_⟩
  · rw [S.fx.K]
    refine ⟨W, s, f, rs, rf, Po.imp (Po.bind (rel1 := RD Z) po) fun W' s' H' a b e x r q => ⟨q, fun ⟨W1, s1, a1, e1, x1, r1, q1, po1⟩ => ?_⟩⟩
    obtain ⟨t, ht, po1⟩ := po1.ofO
    refine ⟨t, truV_of r1 q1 ht, ?_⟩
    cases t with
    | true => exact po1.ok r1 q1
    | false => exact ⟨W1, s1, f, r1, rf.mono (x1.tk rs), po1⟩
  · have e : tru (ev M (.or ea eb) f s) = (tru (ev M ea f s)).bind fun t s => cond t (.ok true s) (tru (ev M eb f s)) := by
      show tru ((ev M ea f s).bind fun x s => (R.ofO (truth s x) s).bind fun c s => cond c (.ok x s) (ev M eb f s)) = _
      rw [tru_bind]
      cases ev M ea f s with
      | ok x s1 =>
        show tru ((R.ofO (truth s1 x) s1).bind fun c s => cond c (.ok x s) (ev M eb f s)) = (R.ofO (truth s1 x) s1).bind fun t s => cond t (.ok true s) (tru (ev M eb f s))
        cases ht : truth s1 x with
        | none => rfl
        | some t =>
          cases t with
          | false => rfl
          | true =>
            show R.ofO (truth s1 x) s1 = .ok true s1
            rw [ht]
            rfl
      | ex _ _ => rfl
      | bad => rfl
    rw [e] at po
    exact ⟨W, s, f, rs, rf, Po.imp (Po.bind (rel1 := RB) po) fun W' s' H' a b e x r q => ⟨q, fun ⟨W1, s1, a1, e1, x1, r1, q1, po1⟩ => by
      obtain rfl : a1 = b := q1
      cases a1 with
      | true => exact po1.ok r1 rfl
      | false => exact ⟨W1, s1, f, r1, rf.mono (x1.tk rs), po1⟩⟩⟩
theorem s_ite (S : Sx Z M c X Wx) {t a b : Expr} {et ea eb : E} (ht : PP Z M X Wx t et) (ha : PP Z M X Wx a ea) (hb : PP Z M X Wx b eb) : PP Z M X Wx (.IfExp t a b pos) (.ite et ea eb) := by
  refine ⟨peI (pe_ifExp ht.pt ha.pe hb.pe) fun σ H Q ⟨W, s, f, rs, rf, po⟩ => ?_, ⟨fun pins s σ H Q I ⟨W, s1, f, rs, rf, po⟩ => ?_⟩⟩
  · exact ⟨W, s, f, rs, rf, Po.imp (Po.bind (rel1 := RB) po) fun W' s' H' a b e x r q => ⟨q, fun ⟨W1, s1, a1, e1, x1, r1, q1, po1⟩ => by
      obtain rfl : a1 = b := q1
      cases a1 with
      | true => exact ⟨W1, s1, f, r1, rf.mono (x1.tk rs), po1⟩
      | false => exact ⟨W1, s1, f, r1, rf.mono (x1.tk rs), po1⟩⟩⟩
  · have e : tru (ev M (.ite et ea eb) f s1) = (tru (ev M et f s1)).bind fun t s => cond t (tru (ev M ea f s)) (tru (ev M eb f s)) := by
      show tru ((tru (ev M et f s1)).bind fun t s => cond t (ev M ea f s) (ev M eb f s)) = _
      cases tru (ev M et f s1) with
      | ok t s2 => cases t <;> rfl
      | ex _ _ => rfl
      | bad => rfl
    rw [e] at po
    refine PyProof.Rows.isTrue_IfExp (thn (ht.pt.run pins s σ H (fun k H' => if k = true then tT Z M Wx ea σ H' Q else tT Z M Wx eb σ H' Q) I ⟨W, s1, f, rs, rf, ?_⟩) fun d s2 ⟨H1, I1, q1⟩ => ?_)
    · exact Po.imp (Po.bind (rel1 := RB) po) fun W' s' H' a b e x r q => ⟨q, fun ⟨W1, s1, a1, e1, x1, r1, q1, po1⟩ => by
        obtain rfl : a1 = b := q1
        cases a1 with
        | true => exact ⟨W1, s1, f, r1, rf.mono (x1.tk rs), po1⟩
        | false => exact ⟨W1, s1, f, r1, rf.mono (x1.tk rs), po1⟩⟩
    · cases d with
      | true => exact ha.pt.run pins s2 σ H1 Q I1 q1
      | false => exact hb.pt.run pins s2 σ H1 Q I1 q1
end
end TR
set_option autoImplicit false
set_option linter.all false
set_option maxRecDepth 100000
/-! Expressions, further. -/
namespace TR
open PySem PySem.Spec PyProof.Rows L2
section
variable {Z : Zn} {M : Sem} {c : Cc} {X : Cx} {Wx : WX} {pos : Pos}
theorem lastMarks2 {o p : CmpOp} {b d : Expr} (h : behindInMarks p d = false) : lastMarks [o, p] [b, d] = false := h
theorem s_chain (S : Sx Z M c X Wx) {o p : Cm} {a b d : Expr} {ea eb ed : E} (ha : PP Z M X Wx a ea) (hb : PP Z M X Wx b eb) (hd : PP Z M X Wx d ed) (hm : cmOk p d = true) :
    PP Z M X Wx (.Compare a [o.py, p.py] [b, d] pos) (.chain o p ea eb ed) := by
  have hm : behindInMarks p.py d = false := by
    unfold cmOk at hm
    rw [Bool.not_eq_true'] at hm
    exact hm
  -- the reading behind the first comparison
  have core : ∀ {σ : L2.St} {H : Hp} {R : VK} {W : Wd} {s : Sto} {f : Fr}, RS Z W s H → RF Z W H f σ → Po Z (atS Wx σ) W H (ev M (.chain o p ea eb ed) f s) (RD Z) R →
      tChain (r2 Z (cmD M.T.gdc o)) (r2 Z (cmD M.T.gdc p)) (tE Z M Wx ea) (tE Z M Wx eb) (tE Z M Wx ed) σ H R := by
    intro σ H R W s f rs rf po
    refine ⟨W, s, f, rs, rf, Po.imp (Po.bind (rel1 := RD Z) po) fun W' s' H' a b e x r q => ⟨q, fun ⟨W1, s1, a1, e1, x1, r1, q1, po1⟩ =>
      ⟨W1, s1, f, r1, rf.mono (x1.tk rs), Po.imp (Po.bind (rel1 := RD Z) po1) fun W' s' H' a b e x r q => ⟨q, fun ⟨W2, s2, a2, e2, x2, r2, q2, po2⟩ => ?_⟩⟩⟩⟩
    refine ⟨W2, s2, a1, a2, r2, RD.mono (x2.tk r1) _ q1, q2, ?_⟩
    rw [tru_bind] at po2
    have nx : NoEx (cmD M.T.gdc o a1 a2 s2) := noex_cmD
    cases hc : cmD M.T.gdc o a1 a2 s2 with
    | ex e s3 => exact absurd hc (nx e s3)
    | bad => rw [hc] at po2; exact po2.elim
    | ok z s3 =>
      obtain ⟨k, rfl⟩ := cmD_bl hc
      rw [hc] at po2
      intro W3 H3 v x3 r3 q3
      refine ⟨k, q3, ?_⟩
      have po3 := Po.later po2 x3
      cases k with
      | false =>
        have po3 : Po Z (atS Wx σ) W3 H3 (.ok (.bl false) s3) (RD Z) R := po3
        exact po3.ok r3 rfl
      | true =>
        have po3 : Po Z (atS Wx σ) W3 H3 ((ev M ed f s3).bind fun z s => cmD M.T.gdc p a2 z s) (RD Z) R := po3
        refine ⟨W3, s3, f, r3, (rf.mono (x1.tk rs)).mono ((x2.tk r1)) |>.mono (x3.tk r2), Po.imp (Po.bind (rel1 := RD Z) po3) fun W' s' H' a b e x r q => ⟨q, fun ⟨W4, s4, a4, e4, x4, r4, q4, po4⟩ =>
          ⟨W4, s4, a2, a4, r4, RD.mono (x4.tk r3) _ (RD.mono (x3.tk r2) _ q2), q4, Po.noExE noex_cmD po4⟩⟩⟩
  refine ⟨peI (pe_chain (cm_sim S.fx.K S.fx.hu M.T.gdc o) (cm_sim S.fx.K S.fx.hu M.T.gdc p) ha.pe hb.pe hd.pe (lastMarks2 hm)) fun σ H Q ⟨W, s, f, rs, rf, po⟩ => core rs rf po,
    ptI (pt_chain (cm_sim S.fx.K S.fx.hu M.T.gdc o) (cm_sim S.fx.K S.fx.hu M.T.gdc p) ha.pe hb.pe hd.pe (lastMarks2 hm)) fun σ H Q ⟨W, s, f, rs, rf, po⟩ => core rs rf (test_of (α := Unit) po fun d s' h => ?_)⟩
  have h' : ((ev M ea f s).bind fun x s => (ev M eb f s).bind fun y s => (tru (cmD M.T.gdc o x y s)).bind fun t s => cond t ((ev M ed f s).bind fun z s => cmD M.T.gdc p y z s) (.ok (.bl false) s)) = .ok d s' := h
  cases h1 : ev M ea f s with
  | ok x s1 =>
    rw [h1] at h'
    cases h2 : ev M eb f s1 with
    | ok y s2 =>
      have h' : ((ev M eb f s1).bind fun y s => (tru (cmD M.T.gdc o x y s)).bind fun t s => cond t ((ev M ed f s).bind fun z s => cmD M.T.gdc p y z s) (.ok (.bl false) s)) = .ok d s' := h'
      rw [h2] at h'
      have h' : ((tru (cmD M.T.gdc o x y s2)).bind fun t s => cond t ((ev M ed f s).bind fun z s => cmD M.T.gdc p y z s) (.ok (.bl false) s)) = .ok d s' := h'
      cases h3 : tru (cmD M.T.gdc o x y s2) with
      | ok t s3 =>
        rw [h3] at h'
        cases t with
        | false => cases h'; exact ⟨_, rfl⟩
        | true =>
          have h' : ((ev M ed f s3).bind fun z s => cmD M.T.gdc p y z s) = .ok d s' := h'
          cases h4 : ev M ed f s3 with
          | ok z s4 => rw [h4] at h'; exact cmD_bl h'
          | ex _ _ => rw [h4] at h'; cases h'
          | bad => rw [h4] at h'; cases h'
      | ex _ _ => rw [h3] at h'; cases h'
      | bad => rw [h3] at h'; cases h'
    | ex _ _ =>
      have h' : ((ev M eb f s1).bind fun y s => (tru (cmD M.T.gdc o x y s)).bind fun t s => cond t ((ev M ed f s).bind fun z s => cmD M.T.gdc p y z s) (.ok (.bl false) s)) = .ok d s' := h'
      rw [h2] at h'; cases h'
    | bad =>
      have h' : ((ev M eb f s1).bind fun y s => (tru (cmD M.T.gdc o x y s)).bind fun t s => cond t ((ev M ed f s).bind fun z s => cmD M.T.gdc p y z s) (.ok (.bl false) s)) = .ok d s' := h'
      rw [h2] at h'; cases h'
  | ex _ _ => rw [h1] at h'; cases h'
  | bad => rw [h1] at h'; cases h'
/-! ### is None -/
theorem isNone_of {W : Wd} {H : Hp} {d : D} {v : V} (h : RD Z W H d v) : isNone d = decide (v = .non) := by
  cases d <;> first
    | (cases (show _ = _ from h); rfl)
    | (obtain ⟨rfl, _⟩ := h; rfl)
    | (obtain ⟨_, rfl⟩ := h; rfl)
    | (obtain ⟨_, _, rfl, _⟩ := h; rfl)
    | (obtain ⟨_, rfl, _⟩ := h; rfl)
theorem ev1_test {Ew : XK} {W : Wd} {H : Hp} {e : E} {f : Fr} {s : Sto} {g : D → Bool} {Q : Bool → Hp → Prop} (h : Po Z Ew W H (tru ((ev M e f s).bind fun x s => .ok (.bl (g x)) s)) RB Q) :
    Po Z Ew W H ((ev M e f s).bind fun x s => .ok (g x) s) RB Q := by
  cases hx : ev M e f s <;> rw [hx] at h <;> exact h
theorem s_isN (S : Sx Z M c X Wx) {a : Expr} {ea : E} {j : Nat} {p2 : Pos} (ha : PP Z M X Wx a ea) : PP Z M X Wx (.Compare a [.Is] [.Constant .none j p2] pos) (.isN ea) := by
  have hm : behindInMarks .Is (.Constant .none j p2) = false := rfl
  refine ⟨peI (pe_cmpR op_isN ha.pe pe_non hm) fun σ H Q ⟨W, s, f, rs, rf, po⟩ => ⟨W, s, f, rs, rf, Po.imp (Po.bind (rel1 := RD Z) po) fun W' s' H' a b e x r q => ⟨q, fun ⟨W1, s1, a1, e1, x1, r1, q1, po1⟩ => ?_⟩⟩,
    ptI (pt_cmpR op_isN ha.pe pe_non hm) fun σ H Q ⟨W, s, f, rs, rf, po⟩ => ⟨W, s, f, rs, rf, Po.imp (Po.bind (rel1 := RD Z) (ev1_test po)) fun W' s' H' a b e x r q => ⟨q, fun ⟨W1, s1, a1, e1, x1, r1, q1, po1⟩ => ?_⟩⟩⟩
  · refine ⟨rfl, ?_⟩
    rw [← isNone_of q1]
    exact po1.ok r1 rfl
  · refine ⟨rfl, ?_⟩
    rw [← isNone_of q1]
    exact ⟨_, rfl, po1.ok r1 rfl⟩
theorem s_isNN (S : Sx Z M c X Wx) {a : Expr} {ea : E} {j : Nat} {p2 : Pos} (ha : PP Z M X Wx a ea) : PP Z M X Wx (.Compare a [.IsNot] [.Constant .none j p2] pos) (.isNN ea) := by
  have hm : behindInMarks .IsNot (.Constant .none j p2) = false := rfl
  refine ⟨peI (pe_cmpR op_notN ha.pe pe_non hm) fun σ H Q ⟨W, s, f, rs, rf, po⟩ => ⟨W, s, f, rs, rf, Po.imp (Po.bind (rel1 := RD Z) po) fun W' s' H' a b e x r q => ⟨q, fun ⟨W1, s1, a1, e1, x1, r1, q1, po1⟩ => ?_⟩⟩,
    ptI (pt_cmpR op_notN ha.pe pe_non hm) fun σ H Q ⟨W, s, f, rs, rf, po⟩ => ⟨W, s, f, rs, rf, Po.imp (Po.bind (rel1 := RD Z) (ev1_test po)) fun W' s' H' a b e x r q => ⟨q, fun ⟨W1, s1, a1, e1, x1, r1, q1, po1⟩ => ?_⟩⟩⟩
  · refine ⟨rfl, ?_⟩
    rw [← isNone_of q1]
    exact po1.ok r1 rfl
  · refine ⟨rfl, ?_⟩
    rw [← isNone_of q1]
    exact ⟨_, rfl, po1.ok r1 rfl⟩
/-! ### items, slices -/
theorem plc_ixN (n : Nat) (i : Int) : plc n i = ixN n i := rfl
theorem atI_of {W : Wd} {H : Hp} {ds : List D} {vs : List V} {k : Int} {j : Nat} {d : D} (r : RDs Z W H ds vs) (h : plc ds.length k = some j) (e : ds[j]? = some d) : ∃ v, atI vs k = some v ∧ RD Z W H d v := by
  obtain ⟨v, e1, h1⟩ := r.get e
  refine ⟨v, ?_, h1⟩
  unfold atI
  rw [← plc_ixN, r.length, h]
  exact e1
theorem noex_ixD {g : Nat → List (D × D)} {a b : D} {s : Sto} : NoEx (ixD g a b s) := by
  unfold ixD
  repeat' (first | exact NoEx.bad | exact NoEx.ofO | split)
/-! ### dicts of ints and texts -/
theorem key_keyV {i : D} {p : PyData} (h : key i = some p) : ∃ q, keyV i = some q ∧ ∀ k' q', keyV k' = some q' → keyEq p k' = decide (q' = q) := by
  cases i with
  | int i =>
    cases h
    refine ⟨.inl i, rfl, fun k' q' e => ?_⟩
    cases k' with
    | int j =>
      cases e
      show eqP (.int j) (.int i) = _
      simp only [eqP]
      exact (key_ll _ _).symm
    | str x =>
      cases e
      show eqP (.str x) (.int i) = _
      rw [key_rl]
      rfl
    | _ => cases e
  | str x =>
    cases h
    refine ⟨.inr x, rfl, fun k' q' e => ?_⟩
    cases k' with
    | int j =>
      cases e
      show eqP (.int j) (.str x) = _
      rw [key_lr]
      rfl
    | str y =>
      cases e
      show eqP (.str y) (.str x) = _
      simp only [eqP]
      rw [key_rr]
      by_cases h : y = x
      · rw [h, decide_eq_true rfl, beq_self_eq_true]
      · rw [decide_eq_false h, beq_eq_false_iff_ne.mpr h]
    | _ => cases e
  | _ => cases h
theorem keyV_rel {W : Wd} {H : Hp} {i : D} {q : Key} {v : V} (h : keyV i = some q) (r : RD Z W H i v) : v = kV q := by
  cases i <;> cases h <;> exact r
theorem RKs.get {W : Wd} {H : Hp} {p : PyData} {q : Key} (hk : ∀ k' q', keyV k' = some q' → keyEq p k' = decide (q' = q)) : ∀ {kvs : List (D × D)} {gs : List (Key × V)}, RKs Z W H kvs gs →
    (∀ d, dget p kvs = some d → ∃ v, valV gs q = some v ∧ RD Z W H d v) ∧ (dget p kvs = none → valV gs q = none)
  | [], gs, h => by
    obtain rfl : gs = [] := h
    refine ⟨fun d e => ?_, fun _ => rfl⟩
    cases (show (none : Option D) = some d from e)
  | (k, d) :: r, gs, ⟨q', v, t, e, h0, h1, h2⟩ => by
    subst e
    have ih := RKs.get hk h2
    have e1 := hk k q' h0
    by_cases hq : q' = q
    · rw [decide_eq_true hq] at e1
      have e2 : dget p ((k, d) :: r) = some d := by
        show cond (keyEq p k) (some d) (dget p r) = _
        rw [e1]
        rfl
      rw [e2, valV_pos (p := (q', v)) hq]
      exact ⟨fun d' e => ⟨v, rfl, by rw [← Option.some.inj e]; exact h1⟩, fun e => nomatch e⟩
    · rw [decide_eq_false hq] at e1
      have e2 : dget p ((k, d) :: r) = dget p r := by
        show cond (keyEq p k) (some d) (dget p r) = _
        rw [e1]
        rfl
      rw [e2, valV_neg (p := (q', v)) hq]
      exact ih
theorem GdRel.get {p : PyData} {q : Key} (hk : ∀ k' q', keyV k' = some q' → keyEq p k' = decide (q' = q)) : ∀ {kvs : List (D × D)} {vs : List (Key × Value)}, GdRel Z kvs vs →
    (∀ d, dget p kvs = some d → ∃ u v, valueAt vs q = some u ∧ RelV v u ∧ ∀ W H, RD Z W H d v) ∧ (dget p kvs = none → valueAt vs q = none)
  | [], gs, h => by
    obtain rfl : gs = [] := h
    refine ⟨fun d e => ?_, fun _ => rfl⟩
    cases (show (none : Option D) = some d from e)
  | (k, d) :: r, gs, ⟨q', u, t, e, h0, ⟨v, r1, h1⟩, h2⟩ => by
    subst e
    have ih := GdRel.get hk h2
    have e1 := hk k q' h0
    by_cases hq : q' = q
    · rw [decide_eq_true hq] at e1
      have e2 : dget p ((k, d) :: r) = some d := by
        show cond (keyEq p k) (some d) (dget p r) = _
        rw [e1]
        rfl
      have e3 : valueAt ((q', u) :: t) q = some u := by simp [valueAt, List.find?_cons, hq]
      rw [e2, e3]
      exact ⟨fun d' e => ⟨u, v, rfl, r1, by rw [← Option.some.inj e]; exact h1⟩, fun e => nomatch e⟩
    · rw [decide_eq_false hq] at e1
      have e2 : dget p ((k, d) :: r) = dget p r := by
        show cond (keyEq p k) (some d) (dget p r) = _
        rw [e1]
        rfl
      have e3 : valueAt ((q', u) :: t) q = valueAt t q := by simp [valueAt, List.find?_cons, hq]
      rw [e2, e3]
      exact ih
theorem Fx.gdAt {gl : List (Str × Gv)} (F : Fx Z M gl X) {n : Nat} {p : PyData} {d : D} (h : dget p (M.T.gdc n) = some d) : M.T.gdc n ≠ [] := fun e => by rw [e] at h; cases h
theorem ix_sim {gl : List (Str × Gv)} (F : Fx Z M gl X) : IxR X (r2 Z (ixD M.T.gdc)) := by
  intro value slice pins s σ H x y v u Q I rx ry h hs
  obtain ⟨W, s0, a, b, rs, ra, rb, po⟩ := h
  have row : ∀ {ds : List D} {vs : List V}, RDs Z W H ds vs → Po Z (fun _ _ _ => False) W H (match b with
      | .int k => match plc ds.length k with
        | some j => R.ofO ds[j]? s0
        | none => .bad
      | _ => .bad) (RD Z) Q → ∃ k w, y = .int k ∧ atI vs k = some w ∧ Q w H := by
    intro ds vs h2 po'
    cases b with
    | int k =>
      cases hj : plc ds.length k with
      | none =>
        simp only [hj] at po'
        exact po'.elim
      | some j =>
        simp only [hj] at po'
        cases hd : ds[j]? with
        | none => rw [hd] at po'; exact po'.elim
        | some d =>
          rw [hd] at po'
          obtain ⟨w, e1, q1⟩ := atI_of h2 hj hd
          exact ⟨k, w, rb, e1, Po.ok po' rs q1⟩
    | _ => exact po'.elim
  unfold ixD at po
  split at po
  · -- a written dict
    rename_i n
    obtain rfl : x = .ref (Z.ga n) := ra
    cases rx
    split at po
    · rename_i p hp
      cases hd : dget p (M.T.gdc n) with
      | none => rw [hd] at po; exact po.elim
      | some d =>
        rw [hd] at po
        obtain ⟨q, hq, hk⟩ := key_keyV hp
        obtain ⟨vs, dd, gr⟩ := F.gdo n (F.gdAt hd) _ I.kIn
        obtain ⟨w, z, e1, r1, q1⟩ := (GdRel.get hk gr).1 d hd
        obtain rfl := keyV_rel hq rb
        exact PyProof.Rows.tail_any dd.typeIs slot_dict_getitem.lookup (wpAny_getItem_of (kV_is ry) dd.mapOf e1 ⟨z, H, I.tok _, r1, po.ok rs (q1 _ _)⟩) hs
    · exact po.elim
  · obtain ⟨p, vs, rfl, h1, h2⟩ := ra
    obtain ⟨k, w, rfl, e1, q⟩ := row h2 po
    exact ix_tup value slice pins s σ H _ _ v u Q I rx ry ⟨p, vs, k, w, rfl, rfl, by rw [F.K]; exact h1, e1, q⟩ hs
  · obtain ⟨p, vs, rfl, h1, h2⟩ := ra
    obtain ⟨k, w, rfl, e1, q⟩ := row h2 po
    exact ix_list value slice pins s σ H _ _ v u Q I rx ry ⟨p, vs, k, w, rfl, rfl, by rw [F.K]; exact h1.l, e1, q⟩ hs
  · rename_i n
    obtain ⟨_, rfl⟩ := ra
    split at po
    · rename_i hx
      obtain ⟨vs, t1, t2⟩ := rs.cell hx
      obtain ⟨k, w, rfl, e1, q⟩ := row t2 po
      exact ix_list value slice pins s σ H _ _ v u Q I rx ry ⟨_, vs, k, w, rfl, rfl, .of t1, e1, q⟩ hs
    · rename_i kvs hx
      cases rx
      split at po
      · rename_i p hp
        cases hd : dget p kvs with
        | none => rw [hd] at po; exact po.elim
        | some d =>
          rw [hd] at po
          obtain ⟨gs, t1, t2⟩ := rs.cell hx
          obtain ⟨q, hq, hk⟩ := key_keyV hp
          obtain ⟨w, e1, q1⟩ := (RKs.get hk t2).1 d hd
          obtain rfl := keyV_rel hq rb
          have g : DGet H (W.ρ n) (kV q) (some w) := by
            rw [← e1]
            exact DGet.k t1
          exact PyProof.Rows.tail_any (dict_typeIs I g) slot_dict_getitem.lookup (d_getItem (by have := F.hu; omega) I g ry fun w' s' I' rw' => ⟨w, H, I', rw', po.ok rs q1⟩) hs
      · exact po.elim
    · exact po.elim
  · exact po.elim
def plainIx : Expr → Bool
  | .Slice _ _ _ _ => false
  | _ => true
theorem s_ix (S : Sx Z M c X Wx) {a b : Expr} {ea eb : E} (ha : PP Z M X Wx a ea) (hb : PP Z M X Wx b eb) (hp : plainIx b = true) : PP Z M X Wx (.Subscript a b pos) (.ix ea eb) := by
  have hs : PlainIx b := by
    intro o i
    cases b <;> first | rfl | cases hp
  have pe : PE X (.Subscript a b pos) (tE Z M Wx (.ix ea eb)) := peI (pe_ix (ix_sim S.fx) ha.pe hb.pe hs) fun σ H Q h => two (fun _ _ _ => noex_ixD) h
  exact ⟨pe, pt_plain S.fx.K pe fun _ => rfl⟩
theorem cut_cutV {W : Wd} {H : Hp} {ds : List D} {vs : List V} {lo hi : Option Int} (r : RDs Z W H ds vs) : RDs Z W H (cut ds lo hi) (cutV vs lo hi) := by
  have e : ∀ (n : Nat) (d : Nat) (o : Option Int), (match o with
      | some i => clp n i
      | none => d) = HT.sIx n d o := by
    intro n d o
    cases o with
    | none => rfl
    | some i =>
      unfold clp HT.sIx
      by_cases h : i < 0
      · simp only [h, if_true]
        rw [if_neg (by omega)]
      · simp only [h, if_false]
        rw [if_pos (by omega)]
  have e1 : cut ds lo hi = (ds.take (HT.sIx ds.length ds.length hi)).drop (HT.sIx ds.length 0 lo) := by
    unfold cut
    rw [← e ds.length 0 lo, ← e ds.length ds.length hi]
    all_goals rfl
  rw [e1, List.drop_take]
  unfold cutV
  rw [r.length]
  exact RDs.take _ (RDs.drop _ r)
theorem noex_slD {a : D} {l h : Option Int} {s : Sto} : NoEx (slD a l h s) := by
  unfold slD
  repeat' (first | exact NoEx.bad | exact NoEx.ok | split)
def rSl (Z : Zn) : V → Option Int → Option Int → Hp → VK → Prop := fun x lo hi H Q => ∃ W s a, RS Z W s H ∧ RD Z W H a x ∧ Po Z (fun _ _ _ => False) W H (slD a lo hi s) (RD Z) Q
theorem sl_sim (hK : X.K = Z.K) : SlR X (rSl Z) := by
  intro pins s σ H x v vl vu lo hi sl Q I rx hs pl pu h
  obtain ⟨W, s0, a, rs, ra, po⟩ := h
  unfold slD at po
  split at po
  · obtain ⟨p, vs, rfl, h1, h2⟩ := ra
    have h2' := cut_cutV (lo := lo) (hi := hi) h2
    refine sl_tupA pins s σ H _ v vl vu lo hi sl Q I rx hs pl pu ⟨p, vs, rfl, by rw [hK]; exact h1, fun ⟨e1, e2⟩ => ?_, fun _ q hq => ?_⟩
    · refine Po.ok po rs ⟨p, vs, rfl, h1, ?_⟩
      have e : cutV vs lo hi = vs := by
        unfold cutV
        rw [e1, e2]
        simp
      rw [e] at h2'
      exact h2'
    · exact po W _ _ (ex_lay hq) (rs.lay hq) ⟨q, _, rfl, .inl (.inl upd_same), RDs.mono (tk_lay hq) _ h2'⟩
  · obtain ⟨p, vs, rfl, h1, h2⟩ := ra
    exact sl_list pins s σ H _ v vl vu lo hi sl Q I rx hs pl pu ⟨p, vs, rfl, by rw [hK]; exact h1.l, fun q hq => po.newL rs hq (cut_cutV h2)⟩
  · obtain ⟨_, rfl⟩ := ra
    split at po
    · rename_i hx
      obtain ⟨vs, t1, t2⟩ := rs.cell hx
      exact sl_list pins s σ H _ v vl vu lo hi sl Q I rx hs pl pu ⟨_, vs, rfl, .of t1, fun q hq => po.newL rs hq (cut_cutV t2)⟩
    · exact po.elim
  · exact po.elim
/-- a slice's part -/
def tO (Z : Zn) (M : Sem) (Wx : WX) (o : Option E) : TO := fun σ H Q => ∃ W s f, RS Z W s H ∧ RF Z W H f σ ∧ Po Z (atS Wx σ) W H (evo M o f s) (fun _ _ a b => a = b) Q
theorem poI {e : Option Expr} {t u : TO} (h : PO X e t) (i : ∀ σ H Q, u σ H Q → t σ H Q) : PO X e u := ⟨fun pins s σ H Q I q => h.run pins s σ H Q I (i σ H Q q)⟩
theorem s_none : PO X none (tO Z M Wx none) := poI po_none fun σ H Q ⟨W, s, f, rs, rf, po⟩ => po.ok rs rfl
theorem s_some {a : Expr} {e : E} (ha : PE X a (tE Z M Wx e)) : PO X (some a) (tO Z M Wx (some e)) := poI (po_some ha) fun σ H Q ⟨W, s, f, rs, rf, po⟩ => ⟨W, s, f, rs, rf, Po.imp (Po.bind (rel1 := RD Z) po) fun W' s' H' a b e x r q => ⟨q, fun ⟨W1, s1, a1, e1, x1, r1, q1, po1⟩ => by
  cases a1 with
  | int i =>
    obtain rfl : b = .int i := q1
    exact ⟨i, rfl, Po.ok (a := some i) po1 r1 rfl⟩
  | _ => exact po1.elim⟩⟩
theorem s_sl (S : Sx Z M c X Wx) {a : Expr} {lo hi : Option Expr} {ea : E} {el eh : Option E} {p2 : Pos} (ha : PP Z M X Wx a ea) (hl : PO X lo (tO Z M Wx el)) (hh : PO X hi (tO Z M Wx eh)) :
    PP Z M X Wx (.Subscript a (.Slice lo hi none p2) pos) (.sl ea el eh) := by
  have pe : PE X (.Subscript a (.Slice lo hi none p2) pos) (tE Z M Wx (.sl ea el eh)) := peI (pe_slice (sl_sim S.fx.K) ha.pe hl hh) fun σ H Q ⟨W, s, f, rs, rf, po⟩ =>
    ⟨W, s, f, rs, rf, Po.imp (Po.bind (rel1 := RD Z) po) fun W' s' H' a b e x r q => ⟨q, fun ⟨W1, s1, a1, e1, x1, r1, q1, po1⟩ =>
      ⟨W1, s1, f, r1, rf.mono (x1.tk rs), Po.imp (Po.bind (rel1 := fun _ _ a b => a = b) po1) fun W' s' H' a b e x r q => ⟨q, fun ⟨W2, s2, a2, e2, x2, r2, q2, po2⟩ =>
        ⟨W2, s2, f, r2, (rf.mono (x1.tk rs)).mono (x2.tk r1), Po.imp (Po.bind (rel1 := fun _ _ a b => a = b) po2) fun W' s' H' a b e x r q => ⟨q, fun ⟨W3, s3, a3, e3, x3, r3, q3, po3⟩ => by
          obtain rfl := q2
          obtain rfl := q3
          exact ⟨W3, s3, a1, r3, RD.mono (x3.tk r2) _ (RD.mono (x2.tk r1) _ q1), Po.noExE noex_slD po3⟩⟩⟩⟩⟩⟩⟩
  exact ⟨pe, pt_plain S.fx.K pe fun _ => rfl⟩
theorem s_rev (S : Sx Z M c X Wx) {a : Expr} {ea : E} {k : Nat} {p1 p2 p3 : Pos} (ha : PP Z M X Wx a ea) : PP Z M X Wx (.Subscript a (.Slice none none (some (.UnaryOp .USub (.Constant (.int 1) k p1) p2)) p3) pos) (.rev ea) := by
  have pe : PE X (.Subscript a (.Slice none none (some (.UnaryOp .USub (.Constant (.int 1) k p1) p2)) p3) pos) (tE Z M Wx (.rev ea)) := peI (pe_revA ha.pe) fun σ H Q ⟨W, s, f, rs, rf, po⟩ =>
    ⟨W, s, f, rs, rf, Po.imp (Po.bind (rel1 := RD Z) po) fun W' s' H' a b e x r q => ⟨q, fun ⟨W1, s1, a1, e1, x1, r1, q1, po1⟩ => by
      unfold revD at po1
      rw [S.fx.K]
      split at po1
      · obtain ⟨p, vs, rfl, h1, h2⟩ := q1
        exact ⟨p, vs, rfl, .inr ⟨h1, fun q hq => Po.ok' (rel := RD Z) (b := .ref q) po1 (ex_lay hq) (r1.lay hq) ⟨q, _, rfl, .of upd_same, RDs.mono (tk_lay hq) _ h2.reverse⟩⟩⟩
      · obtain ⟨p, vs, rfl, h1, h2⟩ := q1
        exact ⟨p, vs, rfl, .inl ⟨h1.l, fun q hq => po1.newL r1 hq h2.reverse⟩⟩
      · obtain ⟨_, rfl⟩ := q1
        split at po1
        · rename_i hx
          obtain ⟨vs, t1, t2⟩ := r1.cell hx
          exact ⟨_, vs, rfl, .inl ⟨.of t1, fun p hp => po1.newL r1 hp t2.reverse⟩⟩
        · exact po1.elim
      · exact po1.elim⟩⟩
  exact ⟨pe, pt_plain S.fx.K pe fun _ => rfl⟩
end
end TR
set_option autoImplicit false
set_option linter.all false
set_option maxRecDepth 100000
/-! Calls. -/
namespace TR
open PySem PySem.Spec PyProof.Rows L2
section
variable {Z : Zn} {M : Sem} {c : Cc} {X : Cx} {Wx : WX} {pos : Pos} {pins : List (Addr × Obj)} {σ : L2.St} {H : Hp} {s : Shared} {Q : VK}
/-- the callee runs; what it raises is taken at these slots -/
theorem run_fnZ {f : Nat} {us : List Value} {vs : List V} (tk : Takes X Wx) (F : FnR Z M.call X f) (I : Inv X pins σ H s) (r : Vals vs us) (h : spF Z M.call f vs H Q (atS Wx σ)) :
    wpAny (model X.prog X.w) X.A (call (.ref (Z.fa f)) us) (EP X pins σ Q) X.xe s := by
  obtain ⟨k, fd, ps, F, hr, hk, hb, _⟩ := F.ex
  have hl : (us ++ []).length = ps.length := by rw [List.append_nil, ← r.length]; exact F.len _ _ _ _ h
  have e : us ++ [] = us := List.append_nil us
  refine wpAny_call (codeAny_mono (F.run X.A X.stack s H ⟨us, []⟩ us vs Q _ hr I.env0 (by rw [← e]; have := hb s us I.kIn hl; rw [e] at this ⊢; exact this) r h) fun r s' hq => ?_)
  cases r with
  | error e => exact tk e s' (XE.of_call I (fun cls d H' h => h) hq)
  | ok fl =>
    cases fl with
    | ret u => exact I.after hq
    | next => exact False.elim hq
    | brk => exact False.elim hq
    | cont => exact False.elim hq
theorem keep_of {f : Nat} (F : FnR Z M.call X f) : PySem.W.keepIn X.K (.ref (Z.fa f)) = true := by
  obtain ⟨_, _, _, _, _, hk, _, _⟩ := F.ex
  exact hk
/-- f(e, ..), f a def of the module -/
theorem s_call (S : Sx Z M c X Wx) {x : Str} {p : Pos} {f : Nat} {as : List Expr} {es : List E} (hg : glB c.sc x = true) (hl : c.gl.lookup x = some (.fn f)) (hn : okName x = true) (ha : PA X as (tA Z M Wx es)) (hs : as.all notStar = true) (hlen : as.length = es.length) :
    PP Z M X Wx (.Call (.Name x p) as [] pos) (.call f [] es) := by
  obtain ⟨hm, hpr⟩ := S.fx.fn x f hl
  have F := S.fx.pr f hpr
  obtain ⟨h1, _, _⟩ := okName_ok hn
  have pe : PE X (.Call (.Name x p) as [] pos) (tE Z M Wx (.call f [] es)) := by
    refine ⟨fun pins s σ H Q I h => ?_⟩
    obtain ⟨W, s0, fr, rs, rf, po⟩ := h
    have hA : tA Z M Wx es σ H (fun vs H1 => spF Z M.call f vs H1 Q (atS Wx σ)) := ⟨W, s0, fr, rs, rf, Po.imp (Po.bind (rel1 := RDs Z) po) fun W' s' H' a b e x r q => ⟨q, fun ⟨W1, s1, a1, e1, x1, r1, q1, po1⟩ => ⟨W1, s1, a1, r1, q1, po1⟩⟩⟩
    refine wpAny_Call_Name_kw (ld_glob I (S.gl hg) hm ?_ h1)
    cases as with
    | nil =>
      -- no argument: nothing is done ahead
      refine PySem.W.callWith_K0 I.kIn (keep_of F) (run_fnZ (us := []) S.tk F I .nil ?_)
      cases es with
      | nil => exact ⟨W, s0, [], rs, rfl, po⟩
      | cons e es => cases hlen
    | cons a as =>
      rw [List.all_cons, Bool.and_eq_true] at hs
      refine PySem.W.callWith_K (h₀ := X.base) I.ok.mod.kin (keep_of F) (thn (ha.run pos pins s σ H _ I hA) fun us s1 ⟨vs, H1, I1, r, q⟩ => ⟨I1.kIn, ?_⟩) (star_cons hs.1) (star_none hs.2)
      exact run_fnZ S.tk F I1 r q
  exact ⟨pe, pt_plain S.fx.K pe fun _ => rfl⟩
theorem RDs.perm {W : Wd} {H : Hp} {ds : List D} {vs : List V} (r : RDs Z W H ds vs) : ∀ (p : List Nat), (∀ i ∈ p, i < ds.length) → RDs Z W H (permD ds p) (permU .non vs p)
  | [], _ => rfl
  | i :: is, h => by
    have hi := h i List.mem_cons_self
    obtain ⟨v, e, q⟩ := r.get (List.getElem?_eq_getElem hi)
    refine ⟨(vs[i]?).getD .non, _, rfl, ?_, RDs.perm r is fun j hj => h j (List.mem_cons_of_mem _ hj)⟩
    rw [e, List.getElem?_eq_getElem hi]
    exact q
theorem Vals.permU {vs : List V} {us : List Value} (r : Vals vs us) : ∀ (p : List Nat), Vals (permU V.non vs p) (TR.permU Value.none us p)
  | [] => .nil
  | i :: is => by
    refine .cons ?_ (Vals.permU r is)
    cases e : vs[i]? with
    | some v =>
      obtain ⟨u, e2, q⟩ := r.get e
      rw [e2]
      exact q
    | none =>
      rw [r.none_of e]
      rfl
/-- the callee runs, called with keywords -/
theorem run_fnK {f : Nat} {us ws : List Value} {vs zs : List V} {q : Nat × List Str × List Nat} (tk : Takes X Wx) (F : FnR Z M.call X f) (hq : q ∈ Z.kws f) (I : Inv X pins σ H s) (r : Vals vs us) (rz : Vals zs ws) (hu : us.length = q.1) (hw : ws.length = q.2.1.length)
    (h : spF Z M.call f (permU .non (vs ++ zs) q.2.2) H Q (atS Wx σ)) : wpAny (model X.prog X.w) X.A (call (.ref (Z.fa f)) us (q.2.1.zip ws)) (EP X pins σ Q) X.xe s := by
  obtain ⟨k, fd, ps, F, hr, hk, hb, hkb⟩ := F.ex
  refine wpAny_call (codeAny_mono (F.run X.A X.stack s H ⟨us, q.2.1.zip ws⟩ _ _ Q _ hr I.env0 (hkb q hq s us ws I.kIn hu hw) (Vals.permU (r.append rz) _) h) fun r s' hq => ?_)
  cases r with
  | error e => exact tk e s' (XE.of_call I (fun cls d H' h => h) hq)
  | ok fl =>
    cases fl with
    | ret u => exact I.after hq
    | next => exact False.elim hq
    | brk => exact False.elim hq
    | cont => exact False.elim hq
/-- the keywords' values -/
def kwOk : List Keyword → List Str → Bool
  | [], [] => true
  | ⟨some n, e, _⟩ :: r, k :: ks => n == k && notStar e && kwOk r ks
  | _, _ => false
theorem kw_names {env : Env} {pos : Pos} : ∀ {kws : List Keyword} {ks : List Str}, kwOk kws ks = true → (backToKw pos (keywordEach kws env)).filterMap (·.1) = ks ∧ (backToKw pos (keywordEach kws env)).all (·.1.isSome) = true ∧ (backToKw pos (keywordEach kws env)).any (·.1.isNone) = false
  | [], [], _ => ⟨rfl, rfl, rfl⟩
  | ⟨some n, e, q⟩ :: r, k :: ks, h => by
    have h' : (n == k && notStar e && kwOk r ks) = true := h
    rw [Bool.and_eq_true, Bool.and_eq_true] at h'
    obtain ⟨i1, i2, i3⟩ := kw_names (env := env) (pos := pos) h'.2
    have en : n = k := eq_of_beq h'.1.1
    subst en
    refine ⟨?_, ?_, ?_⟩
    · show n :: (backToKw pos (keywordEach r env)).filterMap (·.1) = n :: ks
      rw [i1]
    · show (true && (backToKw pos (keywordEach r env)).all (·.1.isSome)) = true
      rw [i2]
      rfl
    · show (false || (backToKw pos (keywordEach r env)).any (·.1.isNone)) = false
      rw [i3]
      rfl
  | ⟨none, _, _⟩ :: _, _, h => by cases h
  | [], _ :: _, h => by cases h
  | ⟨some _, _, _⟩ :: _, [], h => by cases h
def tK (Z : Zn) (M : Sem) (Wx : WX) (es : List E) : TA := tA Z M Wx es
theorem pkI {e : List Keyword} {t u : TA} (h : PK X e t) (i : ∀ σ H Q, u σ H Q → t σ H Q) : PK X e u := ⟨fun pos pins s σ H Q I q => h.run pos pins s σ H Q I (i σ H Q q)⟩
theorem s_knil : PK X [] (tA Z M Wx []) := pkI pk_nil fun σ H Q ⟨W, s, f, rs, rf, po⟩ => po.ok rs rfl
theorem s_kcons {n : Option Str} {p : Pos} {a : Expr} {as : List Keyword} {e : E} {es : List E} (ha : PE X a (tE Z M Wx e)) (hr : PK X as (tA Z M Wx es)) : PK X (⟨n, a, p⟩ :: as) (tA Z M Wx (e :: es)) :=
  pkI (pk_cons ha hr) fun σ H Q ⟨W, s, f, rs, rf, po⟩ => ⟨W, s, f, rs, rf, Po.imp (Po.bind (rel1 := RD Z) po) fun W' s' H' a b e x r q => ⟨q, fun ⟨W1, s1, a1, _, x1, r1, q1, po1⟩ =>
    ⟨W1, s1, f, r1, rf.mono (x1.tk rs), Po.imp (Po.bind (rel1 := RDs Z) po1) fun W' s' H' a b e x r q => ⟨q, fun ⟨W2, s2, a2, _, x2, r2, q2, po2⟩ => po2.ok r2 ⟨_, _, rfl, RD.mono (x2.tk r1) _ q1, q2⟩⟩⟩⟩⟩
theorem evs_app : ∀ (es1 es2 : List E) (f : Fr) (s : Sto), evs M (es1 ++ es2) f s = (evs M es1 f s).bind fun ds s => (evs M es2 f s).bind fun ds2 s => .ok (ds ++ ds2) s
  | [], es2, f, s => by
    show evs M es2 f s = (evs M es2 f s).bind fun ds2 s => .ok ([] ++ ds2) s
    cases evs M es2 f s <;> rfl
  | e :: es1, es2, f, s => by
    show ((ev M e f s).bind fun x s => (evs M (es1 ++ es2) f s).bind fun xs s => .ok (x :: xs) s) = ((ev M e f s).bind fun x s => (evs M es1 f s).bind fun xs s => .ok (x :: xs) s).bind _
    cases ev M e f s with
    | ok x s1 =>
      show ((evs M (es1 ++ es2) f s1).bind fun xs s => .ok (x :: xs) s) = ((evs M es1 f s1).bind fun xs s => .ok (x :: xs) s).bind _
      rw [evs_app es1 es2 f s1]
      cases evs M es1 f s1 with
      | ok ys s2 =>
        show ((evs M es2 f s2).bind fun ds2 s => .ok (ys ++ ds2) s).bind _ = ((evs M es2 f s2).bind fun ds2 s => .ok (x :: ys ++ ds2) s)
        cases evs M es2 f s2 <;> rfl
      | ex _ _ => rfl
      | bad => rfl
    | ex _ _ => rfl
    | bad => rfl
/-- f(e, .., k = v, ..) -/
theorem s_callK (S : Sx Z M c X Wx) {x : Str} {p : Pos} {f : Nat} {as : List Expr} {kws : List Keyword} {es1 es2 : List E} {ks : List Str} {perm : List Nat} (hg : glB c.sc x = true) (hl : c.gl.lookup x = some (.fn f)) (hn : okName x = true)
    (ha : PA X as (tA Z M Wx es1)) (hs : as.all notStar = true) (hlen : as.length = es1.length) (hk : PK X kws (tA Z M Wx es2)) (hks : kwOk kws ks = true) (hl2 : ks.length = es2.length) (hq : (as.length, ks, perm) ∈ Z.kws f) (hp : ∀ i ∈ perm, i < es1.length + es2.length) (hpn : perm ≠ []) :
    PP Z M X Wx (.Call (.Name x p) as kws pos) (.call f perm (es1 ++ es2)) := by
  obtain ⟨hm, hpr⟩ := S.fx.fn x f hl
  have F := S.fx.pr f hpr
  obtain ⟨h1, _, _⟩ := okName_ok hn
  have pe : PE X (.Call (.Name x p) as kws pos) (tE Z M Wx (.call f perm (es1 ++ es2))) := by
    refine ⟨fun pins s σ H Q I h => ?_⟩
    obtain ⟨W, s0, fr, rs, rf, po⟩ := h
    obtain ⟨n1, n2, n3⟩ := kw_names (env := X.env) (pos := pos) hks
    have po : Po Z (atS Wx σ) W H ((evs M es1 fr s0).bind fun ds s => (evs M es2 fr s).bind fun ds2 s => M.call f (permD (ds ++ ds2) perm) s) (RD Z) Q := by
      have e : ev M (.call f perm (es1 ++ es2)) fr s0 = ((evs M es1 fr s0).bind fun ds s => (evs M es2 fr s).bind fun ds2 s => M.call f (permD (ds ++ ds2) perm) s) := by
        show ((evs M (es1 ++ es2) fr s0).bind fun ds s => M.call f (permA perm ds) s) = _
        rw [evs_app]
        have e2 : ∀ ds : List D, permA perm ds = permD ds perm := by
          intro ds
          cases perm with
          | nil => exact absurd rfl hpn
          | cons a b => rfl
        simp only [e2]
        cases evs M es1 fr s0 with
        | ok ys s2 =>
          show ((evs M es2 fr s2).bind fun ds2 s => .ok (ys ++ ds2) s).bind _ = ((evs M es2 fr s2).bind fun ds2 s => M.call f (permD (ys ++ ds2) perm) s)
          cases evs M es2 fr s2 <;> rfl
        | ex _ _ => rfl
        | bad => rfl
      rw [← e]
      exact po
    -- behind the positional ones: the keywords' values, then the call
    have step : ∀ {W1 : Wd} {s1 : Sto} {H1 : Hp} {ds1 : List D} {vs1 : List V} {sh : Shared} {us : List Value}, evs M es1 fr s0 = .ok ds1 s1 → Ex W H W1 H1 → RS Z W1 s1 H1 → RDs Z W1 H1 ds1 vs1 → Vals vs1 us → us.length = as.length → Inv X pins σ H1 sh →
        Po Z (atS Wx σ) W1 H1 ((evs M es2 fr s1).bind fun ds2 s => M.call f (permD (ds1 ++ ds2) perm) s) (RD Z) Q →
        wpAny (model X.prog X.w) X.A (evalAll ((backToKw pos (keywordEach kws X.env)).map (·.2))) (fun ws s2 => X.K.In s2.heap ∧ wpAny (model X.prog X.w) X.A (call (.ref (Z.fa f)) us (((backToKw pos (keywordEach kws X.env)).filterMap (·.1)).zip ws)) (EP X pins σ Q) X.xe s2) X.xe sh := by
      intro W1 s1 H1 ds1 vs1 sh us e1 x1 r1 q1 rv hul I1 po1
      have hK : tA Z M Wx es2 σ H1 (fun zs H2 => ∃ W2 s2 ds2, RS Z W2 s2 H2 ∧ RDs Z W2 H2 ds1 vs1 ∧ RDs Z W2 H2 ds2 zs ∧ ds2.length = es2.length ∧ Po Z (atS Wx σ) W2 H2 (M.call f (permD (ds1 ++ ds2) perm) s2) (RD Z) Q) :=
        ⟨W1, s1, fr, r1, rf.mono (x1.tk rs), Po.imp (Po.bind (rel1 := RDs Z) po1) fun W' s' H' a b e x r q => ⟨q, fun ⟨W2, s2, a2, e2, x2, r2, q2, po2⟩ => ⟨W2, s2, a2, r2, RDs.mono (x2.tk r1) _ q1, q2, evs_len _ _ _ _ _ e2, po2⟩⟩⟩
      refine thn (hk.run pos pins sh σ H1 _ I1 hK) fun ws s2 ⟨zs, H2, I2, rz, W2, st2, ds2, r2, q2, q3, hl3, po2⟩ => ⟨I2.kIn, ?_⟩
      rw [n1]
      have hd1 : ds1.length = es1.length := evs_len _ _ _ _ _ e1
      refine run_fnK (q := (as.length, ks, perm)) S.tk F hq I2 rv rz hul ?_ ⟨W2, st2, _, r2, RDs.perm (RDs.append q2 q3) perm fun i hi => by rw [List.length_append, hd1, hl3]; exact hp i hi, po2⟩
      show ws.length = ks.length
      rw [← rz.length, q3.length, hl3, hl2]
    refine wpAny_Call_Name_kw (ld_glob I (S.gl hg) hm ?_ h1)
    cases as with
    | nil =>
      cases es1 with
      | cons e es => cases hlen
      | nil =>
        refine PySem.W.callWith_KW0 (h₀ := X.base) I.ok.mod.kin (keep_of F) n2 ?_ (by rw [n3]; rfl)
        exact step (us := []) (ds1 := []) rfl Ex.refl rs rfl .nil rfl I po
    | cons a as =>
      rw [List.all_cons, Bool.and_eq_true] at hs
      have hA : tA Z M Wx es1 σ H (fun vs1 H1 => ∃ W1 s1 ds1, evs M es1 fr s0 = .ok ds1 s1 ∧ Ex W H W1 H1 ∧ RS Z W1 s1 H1 ∧ RDs Z W1 H1 ds1 vs1 ∧ Po Z (atS Wx σ) W1 H1 ((evs M es2 fr s1).bind fun ds2 s => M.call f (permD (ds1 ++ ds2) perm) s) (RD Z) Q) :=
        ⟨W, s0, fr, rs, rf, Po.imp (Po.bind (rel1 := RDs Z) po) fun W' s' H' a b e x r q => ⟨q, fun ⟨W1, s1, a1, e1, x1, r1, q1, po1⟩ => ⟨W1, s1, a1, e1, x1, r1, q1, po1⟩⟩⟩
      refine PySem.W.callWith_KW (h₀ := X.base) I.ok.mod.kin (keep_of F) n2 (thn (ha.run pos pins s σ H _ I hA) fun us s1 ⟨vs1, H1, I1, r, W1, st1, ds1, e1, x1, r1, q1, po1⟩ => ?_) (by rw [n3, Bool.or_false]; exact star_none (es := a :: as) (by rw [List.all_cons, hs.1, hs.2]; rfl)) (star_cons hs.1)
      refine step e1 x1 r1 q1 r ?_ I1 po1
      show us.length = (a :: as).length
      rw [← r.length, q1.length, evs_len _ _ _ _ _ e1, hlen]
  exact ⟨pe, pt_plain S.fx.K pe fun _ => rfl⟩
/-- f(e, ..), f a name of the def's own that holds a def -/
theorem s_calv (S : Sx Z M c X Wx) {x : Str} {p : Pos} {i : Nat} {a : Expr} {as : List Expr} {es : List E} (hN : c.N[i]? = some x) (hv : visB c.sc x = true) (hn : okName x = true) (ha : PA X (a :: as) (tA Z M Wx es)) (hs : (a :: as).all notStar = true) :
    PP Z M X Wx (.Call (.Name x p) (a :: as) [] pos) (.calv i es) := by
  obtain ⟨h1, h2, _⟩ := okName_ok hn
  have pe : PE X (.Call (.Name x p) (a :: as) [] pos) (tE Z M Wx (.calv i es)) := by
    refine ⟨fun pins s σ H Q I h => ?_⟩
    obtain ⟨W, s0, fr, rs, rf, po⟩ := h
    have po' : Po Z (atS Wx σ) W H (match fr[i]? with
      | some (some (.fn n)) => (evs M es fr s0).bind fun ds s => M.call n ds s
      | _ => .bad) (RD Z) Q := po
    split at po'
    · rename_i n hf
      obtain ⟨v, e, r⟩ := rf.at_ _ _ hf
      obtain ⟨rfl, hpr⟩ := r
      have hA : tA Z M Wx es σ H (fun vs H1 => spF Z M.call n vs H1 Q (atS Wx σ)) := ⟨W, s0, fr, rs, rf, Po.imp (Po.bind (rel1 := RDs Z) po') fun W' s' H' a b e x r q => ⟨q, fun ⟨W1, s1, a1, e1, x1, r1, q1, po1⟩ => ⟨W1, s1, a1, r1, q1, po1⟩⟩⟩
      rw [List.all_cons, Bool.and_eq_true] at hs
      refine wpAny_Call_Name_kw (thn ((pe_var (pos := p) (i := i) (by rw [S.N]; exact hN) (S.vis hv) h1 h2).run pins s σ H (fun v H1 => v = .ref (Z.fa n) ∧ H1 = H) I ⟨.ref (Z.fa n), e, rfl, rfl⟩) fun u s1 ⟨v, H1, I1, r1, q1⟩ => ?_)
      obtain ⟨rfl, rfl⟩ := q1
      cases r1
      · have F := S.fx.pr n hpr
        refine PySem.W.callWith_K (h₀ := X.base) I.ok.mod.kin (keep_of F) (thn (ha.run pos pins s1 σ _ _ I1 hA) fun us s2 ⟨vs, H2, I2, r, q⟩ => ⟨I2.kIn, ?_⟩) (star_cons hs.1) (star_none hs.2)
        exact run_fnZ S.tk F I2 r q
    · exact po'.elim
  exact ⟨pe, pt_plain S.fx.K pe fun _ => rfl⟩
end
end TR
set_option autoImplicit false
set_option linter.all false
set_option maxRecDepth 100000
/-! enumerate of a list or of a tuple. -/
namespace TR
open PySem PySem.Spec PyProof.Rows L2
set_option maxHeartbeats 1000000 in
theorem enum_new1 {v : Value} {o : Obj} {P : Heap → Prop} (B : Begins v o P) :
    Meets (Builtin.«enumerate.__new__» ⟨[.type "enumerate", v], []⟩) (fun _ R s => P s.heap ∧
      R (.ok (.ret (.ref (s.heap.push o).objs.size))) { s with heap := (s.heap.push o).push { cls := .type "enumerate", data := .fields #[.none, .bool false, .ref s.heap.objs.size, rawInt 0, .none, .none] } }) :=
  .of_wp fun prog w A R s hh => by
    obtain ⟨hp, g, d, tk, os⟩ := s
    obtain ⟨h1, go⟩ := hh
    have es := sub_enumerate
    have first : ∀ {A' : Around} {E : Value → Shared → Prop} {Q : Value → Shared → Prop}, Q (.ref hp.objs.size) ⟨hp.push o, g, d, tk, os⟩ → wpAny (model prog w) A' (pyIter v) Q E ⟨hp, g, d, tk, os⟩ := fun q => B.iter prog w _ _ _ _ h1 q
    wp_walk using first
    refine wpAny_stack_any fun _ => wpAny_pure ?_
    split
    · rename_i k _ _ _ _ _
      cases k == Value.type "enumerate" <;> (wp_walk using first; exact ⟨_, rfl, go⟩)
    · wp_walk using first
      exact ⟨_, rfl, go⟩
theorem enum_tuple {prog : Program} {w : World} {A : Around} {E : Value → Shared → Prop} {s : Shared} {l : Addr} {items : Array Value} {Q : Value → Shared → Prop} (hT : s.heap.IsTuple l items)
    (go : ∀ h', IsEnum h' (s.heap.objs.size + 1) s.heap.objs.size 0 .none → h'.IsTupleIter s.heap.objs.size l 0 → (∀ b o, s.heap.get? b = some o → h'.get? b = some o) → Q (.ref (s.heap.objs.size + 1)) { s with heap := h' }) :
    wpAny (model prog w) A (call (.type "enumerate") [.ref l]) Q E s := by
  have B := begins_tuple l items
  refine callType_new F.called_enumerate (by decide) (F.typeCall_enumerate_1 _) (F.newCall_enumerate_1 _) (fun obj => F.args_object_init_2 obj _) F.entry_enumerate_new (enum_new1 B) ⟨hT, ?_⟩
  generalize ho : ({ cls := .type "tuple_iterator", data := .fields #[.ref l, .int 0 0] } : Obj) = o at B ⊢
  have sz : (s.heap.push o).objs.size = s.heap.objs.size + 1 := Heap.size_push ..
  show _ ∧ _
  rw [sz]
  have at1 : IsEnum ((s.heap.push o).push { cls := .type "enumerate", data := .fields #[.none, .bool false, .ref s.heap.objs.size, rawInt 0, .none, .none] }) (s.heap.objs.size + 1) s.heap.objs.size 0 .none := by
    rw [← sz]
    exact Heap.get?_push_size _ rfl
  exact ⟨⟨_, at1, rfl⟩, go _ at1 ⟨o, Heap.get?_push_of_some _ (Heap.get?_push_size _ B.free), by rw [← ho], by rw [← ho]; rfl⟩ fun b ob x => Heap.get?_push_of_some _ (Heap.get?_push_of_some _ x)⟩
/-- the tuple at a, each item in a new pair behind its number -/
def IteT (K : PySem.W.Frag) (a : Addr) : L2.It :=
  ⟨fun i H => ∃ (xs : List V) (x : V), SqT K H a xs ∧ xs[i]? = some x, fun i H v H' => ∃ T x, v = .ref T ∧ H T = none ∧ H' = upd H T (.tup [.int (i : Nat), x]) ∧ ∀ xs, SqT K H a xs → xs[i]? = some x, fun i H => ∃ xs : List V, SqT K H a xs ∧ xs.length ≤ i⟩
theorem turn_enT {P : Program} {w : World} {K : PySem.W.Frag} {elts : List Expr} {kk : Nat} {tpos : Pos} (a e it : Addr) :
    Turn P w K (.Tuple elts kk tpos) (IteT K a) [e, it] e (fun i h => (∃ old, IsEnum h e it ((i : Nat) : Int) old) ∧ h.IsTupleIter it a i ∧ e ≠ it) where
  mem := List.mem_cons_self
  obj := fun i h ⟨⟨old, g⟩, ⟨o, go, _, gd⟩, _⟩ b hb => by
    rcases List.mem_cons.mp hb with rfl | hb
    · exact ⟨_, g, fun _ q => nomatch q⟩
    · rw [List.mem_singleton.mp hb]
      exact ⟨o, go, fun _ q => by rw [gd] at q; cases q⟩
  keep := fun i h h' ⟨⟨old, g⟩, gi, n⟩ k => ⟨⟨old, k e List.mem_cons_self _ g⟩, gi.at fun o q => k it (List.mem_cons_of_mem _ List.mem_cons_self) o q, n⟩
  item := by
    intro X hP hw hK hc i pins s σ H E I free st go
    subst hP hw hK
    obtain ⟨⟨old, ge⟩, gi, n⟩ := st
    obtain ⟨xs, x, hq, hx⟩ := go
    obtain ⟨its, rv, p, _⟩ := I.tuple hq
    obtain ⟨u, hu, ru⟩ := rv.get hx
    have le : e < s.heap.objs.size := Heap.lt_size ge
    have li : it < s.heap.objs.size := by obtain ⟨_, q, _⟩ := gi; exact Heap.lt_size q
    by_cases ta : a = it
    · exfalso
      obtain ⟨o1, g1, c1, _⟩ := gi
      obtain ⟨o2, g2, c2, _⟩ := p
      rw [ta, g1] at g2
      cases g2
      rw [c1] at c2
      injection c2 with c2
      exact absurd c2 (by decide)
    · have hd : X.A.in1.handled = none := I.ok.hd hc
      by_cases ea : e = a
      · exfalso
        obtain ⟨o2, g2, c2, _⟩ := p
        rw [← ea, ge] at g2
        cases g2
        injection c2 with c2
        exact absurd c2 (by decide)
      · have D := Draws.tuple (prog := X.prog) (w := X.w) hd it a ta its.toArray
        have lt : i < its.toArray.size := by
          rw [List.size_toArray]
          exact (List.getElem?_eq_some_iff.mp hu).1
        refine wpAny_pyNext_enum_itemC D ge ⟨gi, p⟩ lt n (by simp [n, ea]) fun u' h' tk hu' ho hs' hT _ hk => ?_
        obtain rfl : u' = u := by
          have : its.toArray[i]? = some u := by simpa using hu
          rw [this] at hu'
          exact (Option.some.inj hu').symm
        refine ⟨_, rfl, wpAny_letOwnedTupleGo_enum (s := { s with heap := h', toks := tk + 1 }) ho fun h'' he' sb => ?_⟩
        have hT2 : h''.get? s.heap.objs.size = some { cls := .type "tuple", data := .seq #[.int i tk, u'] } := (sb.2 _ (Nat.ne_of_gt le)).trans hT
        have made : ObjOk X.prog X.w (upd H s.heap.objs.size (.tup [.int (i : Nat), x])) h'' s.heap.objs.size (.tup [.int (i : Nat), x]) := ⟨by show 2 ≤ sizeLine; decide, [.int i tk, u'], .cons ⟨_, rfl⟩ (.cons ru .nil), ⟨_, hT2, rfl, _, rfl⟩⟩
        have out : ∀ b, b ∉ [e, it] → b ≠ e ∧ b ≠ it := fun b hb => ⟨fun z => hb (by simp [z]), fun z => hb (by simp [z])⟩
        have J : L2.Inv X pins σ (upd H s.heap.objs.size (.tup [.int (i : Nat), x])) { s with heap := h'', toks := tk + 1 } :=
          I.turnedNew (ch := [e, it]) (fun b ob hb q => (sb.2 b (out b hb).1).trans (hk b ob (out b hb).1 (out b hb).2 q)) free (Nat.le_refl _) made
        refine ⟨.ref s.heap.objs.size, _, J, rfl, ⟨_, x, rfl, I.hok.fresh (Nat.le_refl _), rfl, fun ys hy => by rw [I.tuple_inj hy hq]; exact hx⟩, ⟨⟨u', ?_⟩, hs'.1.at fun o q => (sb.2 it n.symm).trans q, n⟩, fun b hb => ?_⟩
        · rw [show ((i + 1 : Nat) : Int) = (i : Int) + 1 by omega]
          exact he'
        · have lb : b < s.heap.objs.size := by
            rcases List.mem_cons.mp hb with rfl | hb
            · exact le
            · rw [List.mem_singleton.mp hb]; exact li
          rw [upd_ne (Nat.ne_of_lt lb)]
          exact (free b hb).1
  done := by
    intro X hP hw hK hc i pins s σ H E I free st stop
    subst hP hw hK
    obtain ⟨⟨old, ge⟩, gi, n⟩ := st
    obtain ⟨xs, hq, hx⟩ := stop
    obtain ⟨its, rv, p, _⟩ := I.tuple hq
    have hl := rv.length
    obtain ⟨f0, f1, f2, f3, f4, f5⟩ := free it (List.mem_cons_of_mem _ List.mem_cons_self)
    have hT : s.TypeIs (.ref e) "enumerate" := ⟨_, ge, rfl⟩
    have hd : X.A.in1.handled = none := I.ok.hd hc
    unfold pyNext
    refine wpAny_bind (wpAny_attempt (wpAny_callSpecial?_slot (name := Str.ofString "__next__") hT F.slot_enumerate_next (wpAny_call_entry F.slot_enumerate_next hT F.entry_enumerate_next ?_ (F.args_enumerate_next_1 _))))
    show wpAny _ _ (field (.ref e) 2 >>= _) _ _ _
    refine wpAny_bind (wpAny_field ge rfl (x := .ref it) rfl ?_)
    refine wpAny_bind (wpAny_nextOf_tuple_end hd gi p (by simp; omega) fun h' x eb hx' => ?_)
    obtain ⟨o, ho, hc'⟩ := hx'
    refine wpAny_bind (wpAny_isInstance (T := "StopIteration") (b := true) ⟨o, ho, hc'⟩ isSubtype_stop ?_)
    exact wpAny_pure ⟨rfl, I.turned (t' := s.toks) (fun b o hb q => eb b o hb q) f0 f1 f3 f4 f5⟩
  self := fun A i s Q E ⟨⟨_, ge⟩, _⟩ h => wpAny_pyIter_enum ge h
def iEnum2 (K : PySem.W.Frag) (ta : TA) : TI := fun σ H R => ta σ H fun vs H1 => ∃ a, vs = [.ref a] ∧ ((∃ xs, SqL K H1 a xs ∧ R (Ite K a) H1) ∨ ∃ xs, SqT K H1 a xs ∧ R (IteT K a) H1)
theorem pi_enum2 {X : Cx} {e : Expr} {ta : TA} {p pos tpos : Pos} {elts : List Expr} {kk : Nat} (hg : Gl X "enumerate") (hm : X.mg "enumerate" = none) (ha : PA X [e] ta) (hs : starEach [e] X.env = [(false, eval e X.env)]) :
    PI X (.Tuple elts kk tpos) (.Call (.Name "enumerate" p) [e] [] pos) (iEnum2 X.K ta) := by
  refine ⟨fun pins s σ H R I h => ?_⟩
  refine Call_ (ld_blt I hg hm boot_enumerate (PyProof.Rows.callWith_type1 (thn (ha.run pos pins s σ H _ I h) fun us s1 ⟨vs, H1, I1, r1, a, ex, q⟩ => ?_) hs rfl))
  subst ex
  have new : ∀ b ∈ [s1.heap.objs.size + 1, s1.heap.objs.size], FpOk X pins H1 b := fun b hb => by
    have le : s1.heap.objs.size ≤ b := by
      rcases List.mem_cons.mp hb with rfl | hb
      · exact Nat.le_succ _
      · rw [List.mem_singleton.mp hb]
        exact Nat.le_refl _
    exact I1.fpOk le (I1.hok.fresh le)
  cases r1 with
  | cons r rr =>
    cases rr
    cases r
    rcases q with ⟨xs, hq, q⟩ | ⟨xs, hq, q⟩
    · obtain ⟨its, rv, p', _⟩ := I1.list hq
      exact call_enumerate_list p'.isList fun h' he hit _ hk => wpAny_pyIter_enum he ⟨s1.heap.objs.size + 1, [s1.heap.objs.size + 1, s1.heap.objs.size], _, _, H1, rfl, I1.kept (t' := s1.toks) hk, turn_enum a (s1.heap.objs.size + 1) s1.heap.objs.size, ⟨⟨.none, he⟩, hit, Nat.succ_ne_self _⟩, new, q⟩
    · obtain ⟨its, rv, p', _⟩ := I1.tuple hq
      exact enum_tuple p' fun h' he hit hk => wpAny_pyIter_enum he ⟨s1.heap.objs.size + 1, [s1.heap.objs.size + 1, s1.heap.objs.size], _, _, H1, rfl, I1.kept (t' := s1.toks) hk, turn_enT a (s1.heap.objs.size + 1) s1.heap.objs.size, ⟨⟨.none, he⟩, hit, Nat.succ_ne_self _⟩, new, q⟩
end TR
set_option autoImplicit false
set_option linter.all false
set_option maxRecDepth 100000
/-! What loops and comprehensions go through. -/
namespace TR
open PySem PySem.Spec PyProof.Rows L2
theorem Tk.trans {W W' W'' : Wd} {H H' H'' : Hp} (a : Tk W H W' H') (b : Tk W' H' W'' H'') : Tk W H W'' H'' :=
  ⟨Nat.le_trans a.le b.le, fun i h => (b.ρ i (Nat.lt_of_lt_of_le h a.le)).trans (a.ρ i h), fun x o h e => b.tp x o h (a.tp x o h e)⟩
def ItOk (Z : Zn) (W0 : Wd) (H0 : Hp) (q : Src) (J : L2.It) : Prop :=
  ∀ (i : Nat) (W : Wd) (s : Sto) (H : Hp), Tk W0 H0 W H → RS Z W s H → (nxt q i s = some none → J.stop i H) ∧ ∀ d, nxt q i s = some (some d) → J.go i H ∧ ∀ x H', J.yld i H x H' → Ex W H W H' ∧ RS Z W s H' ∧ RD Z W H' d x
def ItR (Z : Zn) : Rel (Src × Nat) L2.It := fun W H p J => ItOk Z W H p.1 J ∧ p.2 ≤ SZ
section
variable {Z : Zn} {M : Sem} {c : Cc} {X : Cx} {Wx : WX} {pos : Pos}
def tI (Z : Zn) (M : Sem) (Wx : WX) (i : It) : TI := fun σ H R => ∃ W s f, RS Z W s H ∧ RF Z W H f σ ∧ Po Z (atS Wx σ) W H (evi M i f s) (ItR Z) R
theorem tE.imp {e : E} {σ : L2.St} {H : Hp} {Q Q' : VK} (h : tE Z M Wx e σ H Q) (hq : ∀ x H1, Q x H1 → Q' x H1) : tE Z M Wx e σ H Q' := by
  obtain ⟨W, s, f, rs, rf, po⟩ := h
  exact ⟨W, s, f, rs, rf, Po.imp po fun W' s' H' a b e x r q => ⟨q, hq b H'⟩⟩
theorem tA.imp {e : List E} {σ : L2.St} {H : Hp} {Q Q' : List V → Hp → Prop} (h : tA Z M Wx e σ H Q) (hq : ∀ x H1, Q x H1 → Q' x H1) : tA Z M Wx e σ H Q' := by
  obtain ⟨W, s, f, rs, rf, po⟩ := h
  exact ⟨W, s, f, rs, rf, Po.imp po fun W' s' H' a b e x r q => ⟨q, hq b H'⟩⟩
/-- rows have no more items than a row may have -/
def tB (K : PySem.W.Frag) (t : TE) : TE := fun σ H Q => t σ H fun x H1 => (∀ a xs, x = .ref a → SqL K H1 a xs ∨ SqT K H1 a xs → xs.length ≤ SZ) → Q x H1
theorem SZ_eq : SZ = sizeLine := by decide
theorem peB {a : Expr} {t : TE} (h : PE X a t) : PE X a (tB X.K t) := ⟨fun pins s σ H Q I q => thn (h.run pins s σ H _ I q) fun v s1 ⟨x, H1, I1, r1, q1⟩ => ⟨x, H1, I1, r1, q1 fun p xs _ h => by
  rw [SZ_eq]
  rcases h with h | h
  · obtain ⟨_, _, _, z⟩ := I1.list h
    exact z
  · obtain ⟨_, _, _, z⟩ := I1.tuple h
    exact z⟩⟩
def taB (K : PySem.W.Frag) (t : TA) : TA := fun σ H Q => t σ H fun vs H1 => (∀ a xs, V.ref a ∈ vs → SqL K H1 a xs ∨ SqT K H1 a xs → xs.length ≤ SZ) → Q vs H1
theorem paB {a : List Expr} {t : TA} (h : PA X a t) : PA X a (taB X.K t) := ⟨fun pos pins s σ H Q I q => thn (h.run pos pins s σ H _ I q) fun v s1 ⟨x, H1, I1, r1, q1⟩ => ⟨x, H1, I1, r1, q1 fun p xs _ h => by
  rw [SZ_eq]
  rcases h with h | h
  · obtain ⟨_, _, _, z⟩ := I1.list h
    exact z
  · obtain ⟨_, _, _, z⟩ := I1.tuple h
    exact z⟩⟩
/-- a term, then a step on its value: what the reading of the term is -/
theorem det1 {α β : Type} {e : E} {k : D → Sto → R α} {rel : Rel α β} {R : β → Hp → Prop} {σ : L2.St} {H : Hp} {W : Wd} {s : Sto} {f : Fr} (rs : RS Z W s H) (rf : RF Z W H f σ) (po : Po Z (atS Wx σ) W H ((ev M e f s).bind k) rel R) :
    (∃ d s1, ev M e f s = .ok d s1 ∧ tE Z M Wx e σ H fun v H1 => ∃ W1, Ex W H W1 H1 ∧ RS Z W1 s1 H1 ∧ RF Z W1 H1 f σ ∧ RD Z W1 H1 d v ∧ Po Z (atS Wx σ) W1 H1 (k d s1) rel R) ∨ ∀ Q, tE Z M Wx e σ H Q := by
  cases he : ev M e f s with
  | ok d s1 =>
    rw [he] at po
    refine .inl ⟨d, s1, rfl, W, s, f, rs, rf, ?_⟩
    rw [he]
    exact fun W' H' b x r q => ⟨W', x, r, rf.mono (x.tk rs), q, Po.later (r := k d s1) po x⟩
  | ex e1 s1 =>
    rw [he] at po
    refine .inr fun Q => ⟨W, s, f, rs, rf, ?_⟩
    rw [he]
    exact po
  | bad => rw [he] at po; exact po.elim
theorem detA {α β : Type} {e : List E} {k : List D → Sto → R α} {rel : Rel α β} {R : β → Hp → Prop} {σ : L2.St} {H : Hp} {W : Wd} {s : Sto} {f : Fr} (rs : RS Z W s H) (rf : RF Z W H f σ) (po : Po Z (atS Wx σ) W H ((evs M e f s).bind k) rel R) :
    (∃ d s1, evs M e f s = .ok d s1 ∧ tA Z M Wx e σ H fun v H1 => ∃ W1, Ex W H W1 H1 ∧ RS Z W1 s1 H1 ∧ RF Z W1 H1 f σ ∧ RDs Z W1 H1 d v ∧ Po Z (atS Wx σ) W1 H1 (k d s1) rel R) ∨ ∀ Q, tA Z M Wx e σ H Q := by
  cases he : evs M e f s with
  | ok d s1 =>
    rw [he] at po
    refine .inl ⟨d, s1, rfl, W, s, f, rs, rf, ?_⟩
    rw [he]
    exact fun W' H' b x r q => ⟨W', x, r, rf.mono (x.tk rs), q, Po.later (r := k d s1) po x⟩
  | ex e1 s1 =>
    rw [he] at po
    refine .inr fun Q => ⟨W, s, f, rs, rf, ?_⟩
    rw [he]
    exact po
  | bad => rw [he] at po; exact po.elim
theorem Po.of0 {α β : Type} {Ew : XK} {W : Wd} {H : Hp} {s : Sto} {o : Option α} {rel : Rel α β} {Q : β → Hp → Prop} (h : Po Z Ew W H (R.ofO o s) rel Q) : ∃ a, o = some a ∧ Po Z Ew W H (.ok a s) rel Q := by
  cases o with
  | none => exact h.elim
  | some a => exact ⟨a, rfl, h⟩
/-! ### iterators -/
theorem it_tup {W0 : Wd} {H0 : Hp} {p : Addr} {vs : List V} {ds : List D} (h : SqT Z.K H0 p vs) (r : RDs Z W0 H0 ds vs) : ItOk Z W0 H0 (.fix ds) (Itt Z.K p) := by
  intro i W s H tk rs
  have h' := tk.sqT h
  have r' := RDs.mono tk ds r
  refine ⟨fun e => ⟨vs, h', ?_⟩, fun d e => ?_⟩
  · have e : ds[i]? = none := Option.some.inj e
    rw [r'.length]
    simpa using e
  · have e : ds[i]? = some d := Option.some.inj e
    obtain ⟨v, e1, q⟩ := r'.get e
    refine ⟨⟨vs, v, h', e1⟩, fun x H' ⟨eH, y⟩ => ?_⟩
    subst eH
    have := y vs h'
    rw [e1] at this
    cases this
    exact ⟨Ex.refl, rs, q⟩
theorem it_rol {W0 : Wd} {H0 : Hp} {p : Addr} {vs : List V} {ds : List D} (h : SqR Z.K H0 p vs) (r : RDs Z W0 H0 ds vs) : ItOk Z W0 H0 (.fix ds) (Itl Z.K p) := by
  intro i W s H tk rs
  have h' := tk.sqR h
  have r' := RDs.mono tk ds r
  refine ⟨fun e => ⟨vs, h'.l, ?_⟩, fun d e => ?_⟩
  · have e : ds[i]? = none := Option.some.inj e
    rw [r'.length]
    simpa using e
  · have e : ds[i]? = some d := Option.some.inj e
    obtain ⟨v, e1, q⟩ := r'.get e
    refine ⟨⟨vs, v, h'.l, e1⟩, fun x H' ⟨eH, y⟩ => ?_⟩
    subst eH
    have := y vs h'.l
    rw [e1] at this
    cases this
    exact ⟨Ex.refl, rs, q⟩
theorem it_lst {W0 : Wd} {H0 : Hp} {n : Nat} (hn : n < W0.n) : ItOk Z W0 H0 (.lv n) (Itl Z.K (W0.ρ n)) := by
  intro i W s H tk rs
  have en := tk.ρ n hn
  have cell : ∀ {z : Option D}, nxt (.lv n) i s = some z → ∃ ds vs, s.get n = some (.lst ds) ∧ ds[i]? = z ∧ SqL Z.K H (W0.ρ n) vs ∧ RDs Z W H ds vs := by
    intro z e
    have e : (match s.get n with
      | some (.lst ds) => some ds[i]?
      | _ => none) = some z := e
    split at e
    · rename_i ds hx
      obtain ⟨vs, t1, t2⟩ := rs.cell hx
      rw [en] at t1
      exact ⟨ds, vs, hx, Option.some.inj e, .of t1, t2⟩
    · cases e
  refine ⟨fun e => ?_, fun d e => ?_⟩
  · obtain ⟨ds, vs, _, e1, h', r'⟩ := cell e
    refine ⟨vs, h', ?_⟩
    rw [r'.length]
    simpa using e1
  · obtain ⟨ds, vs, _, e1, h', r'⟩ := cell e
    obtain ⟨v, e2, q⟩ := r'.get e1
    refine ⟨⟨vs, v, h', e2⟩, fun x H' ⟨eH, y⟩ => ?_⟩
    subst eH
    have := y vs h'
    rw [e2] at this
    cases this
    exact ⟨Ex.refl, rs, q⟩
theorem it_rev {W0 : Wd} {H0 : Hp} {n m : Nat} (hn : n < W0.n) : ItOk Z W0 H0 (.rv n m) (Itv Z.K (W0.ρ n) m) := by
  intro i W s H tk rs
  have en := tk.ρ n hn
  have cell : ∀ {z : Option D}, nxt (.rv n m) i s = some z → ∃ ds vs, s.get n = some (.lst ds) ∧ ((i < m ∧ ∃ d, z = some d ∧ ds[m - 1 - i]? = some d) ∨ (m ≤ i ∧ z = none)) ∧ SqL Z.K H (W0.ρ n) vs ∧ RDs Z W H ds vs := by
    intro z e
    have e : (match s.get n with
      | some (.lst ds) => cond (Nat.blt i m) (match ds[m - 1 - i]? with
        | some d => some (some d)
        | none => none) (some none)
      | _ => none) = some z := e
    split at e
    · rename_i ds hx
      obtain ⟨vs, t1, t2⟩ := rs.cell hx
      rw [en] at t1
      refine ⟨ds, vs, hx, ?_, .of t1, t2⟩
      cases hb : Nat.blt i m with
      | true =>
        rw [hb] at e
        have e : (match ds[m - 1 - i]? with
          | some d => some (some d)
          | none => none) = some z := e
        cases hd : ds[m - 1 - i]? with
        | none => rw [hd] at e; cases e
        | some d => rw [hd] at e; exact .inl ⟨by simpa [Nat.blt_eq] using hb, d, (Option.some.inj e).symm, rfl⟩
      | false =>
        rw [hb] at e
        refine .inr ⟨?_, (Option.some.inj e).symm⟩
        have : ¬ i < m := fun h => by rw [← Nat.blt_eq, hb] at h; cases h
        omega
    · cases e
  refine ⟨fun e => ?_, fun d e => ?_⟩
  · obtain ⟨ds, vs, _, e1, h', r'⟩ := cell e
    rcases e1 with ⟨_, _, h1, _⟩ | ⟨h1, _⟩
    · cases h1
    · exact h1
  · obtain ⟨ds, vs, _, e1, h', r'⟩ := cell e
    rcases e1 with ⟨h1, d', e0, e1⟩ | ⟨_, h1⟩
    · cases e0
      obtain ⟨v, e2, q⟩ := r'.get e1
      refine ⟨⟨h1, vs, v, h', e2⟩, fun x H' ⟨eH, y⟩ => ?_⟩
      subst eH
      have := y vs h'
      rw [e2] at this
      cases this
      exact ⟨Ex.refl, rs, q⟩
    · cases h1
theorem rngD_at : ∀ (n : Nat) (lo : Int) (i : Nat), (rngD lo n)[i]? = if i < n then some (.int (lo + (i : Nat) * 1)) else none
  | 0, lo, i => by simp [rngD]
  | n + 1, lo, 0 => by simp [rngD]
  | n + 1, lo, i + 1 => by
    show (rngD (lo + 1) n)[i]? = _
    rw [rngD_at n (lo + 1) i]
    by_cases h : i < n
    · rw [if_pos h, if_pos (Nat.succ_lt_succ h)]
      congr 2
      omega
    · rw [if_neg h, if_neg (fun q => h (Nat.lt_of_succ_lt_succ q))]
theorem rngDn_at : ∀ (n : Nat) (lo : Int) (i : Nat), (rngDn lo n)[i]? = if i < n then some (.int (lo + (i : Nat) * (-1))) else none
  | 0, lo, i => by simp [rngDn]
  | n + 1, lo, 0 => by simp [rngDn]
  | n + 1, lo, i + 1 => by
    show (rngDn (lo - 1) n)[i]? = _
    rw [rngDn_at n (lo - 1) i]
    by_cases h : i < n
    · rw [if_pos h, if_pos (Nat.succ_lt_succ h)]
      congr 2
      omega
    · rw [if_neg h, if_neg (fun q => h (Nat.lt_of_succ_lt_succ q))]
theorem rngD_len (n : Nat) (lo : Int) : (rngD lo n).length = n := by
  induction n generalizing lo with
  | zero => rfl
  | succ n ih => exact congrArg Nat.succ (ih _)
theorem rngDn_len (n : Nat) (lo : Int) : (rngDn lo n).length = n := by
  induction n generalizing lo with
  | zero => rfl
  | succ n ih => exact congrArg Nat.succ (ih _)
theorem it_rng {W0 : Wd} {H0 : Hp} {lo : Int} {n : Nat} : ItOk Z W0 H0 (.fix (rngD lo n)) (Itr lo n) := by
  intro i W s H tk rs
  refine ⟨fun e => ?_, fun d e => ?_⟩
  · have e : (rngD lo n)[i]? = none := Option.some.inj e
    rw [rngD_at] at e
    split at e
    · cases e
    · exact Nat.not_lt.mp ‹_›
  · have e : (rngD lo n)[i]? = some d := Option.some.inj e
    rw [rngD_at] at e
    split at e
    · cases e
      refine ⟨‹_›, fun x H' ⟨eH, y⟩ => ?_⟩
      subst eH
      refine ⟨Ex.refl, rs, ?_⟩
      rw [Int.mul_one]
      exact y
    · cases e
theorem it_rngn {W0 : Wd} {H0 : Hp} {lo : Int} {n : Nat} : ItOk Z W0 H0 (.fix (rngDn lo n)) (Itc lo (-1) n) := by
  intro i W s H tk rs
  refine ⟨fun e => ?_, fun d e => ?_⟩
  · have e : (rngDn lo n)[i]? = none := Option.some.inj e
    rw [rngDn_at] at e
    split at e
    · cases e
    · exact Nat.not_lt.mp ‹_›
  · have e : (rngDn lo n)[i]? = some d := Option.some.inj e
    rw [rngDn_at] at e
    split at e
    · cases e
      refine ⟨‹_›, fun x H' ⟨eH, y⟩ => ?_⟩
      subst eH
      exact ⟨Ex.refl, rs, y⟩
    · cases e
/-- the list behind a source: its items, at each turn -/
def LsOk (Z : Zn) (W0 : Wd) (H0 : Hp) (q : Src) (a : Addr) : Prop :=
  ∀ (i : Nat) (W : Wd) (s : Sto) (H : Hp) (z : Option D), Tk W0 H0 W H → RS Z W s H → nxt q i s = some z → ∃ ds vs, SqL Z.K H a vs ∧ RDs Z W H ds vs ∧ ds[i]? = z
theorem ls_rol {W0 : Wd} {H0 : Hp} {p : Addr} {vs : List V} {ds : List D} (h : SqR Z.K H0 p vs) (r : RDs Z W0 H0 ds vs) : LsOk Z W0 H0 (.fix ds) p := by
  intro i W s H z tk rs e
  exact ⟨ds, vs, (tk.sqR h).l, RDs.mono tk ds r, Option.some.inj e⟩
theorem ls_lst {W0 : Wd} {H0 : Hp} {n : Nat} (hn : n < W0.n) : LsOk Z W0 H0 (.lv n) (W0.ρ n) := by
  intro i W s H z tk rs e
  have en := tk.ρ n hn
  have e : (match s.get n with
      | some (.lst ds) => some ds[i]?
      | _ => none) = some z := e
  split at e
  · rename_i ds hx
    obtain ⟨vs, t1, t2⟩ := rs.cell hx
    rw [en] at t1
    exact ⟨ds, vs, .of t1, t2, Option.some.inj e⟩
  · cases e
theorem it_en {W0 : Wd} {H0 : Hp} {q : Src} {a : Addr} (h : LsOk Z W0 H0 q a) : ItOk Z W0 H0 (.en q) (Ite Z.K a) := by
  intro i W s H tk rs
  refine ⟨fun e => ?_, fun d e => ?_⟩
  · have e : (match nxt q i s with
      | some (some d) => some (some (.tup [.int i, d]))
      | some none => some none
      | none => none) = (some none : Option (Option D)) := e
    split at e
    · cases e
    · obtain ⟨ds, vs, h1, h2, h3⟩ := h i W s H _ tk rs ‹_›
      refine ⟨vs, h1, ?_⟩
      rw [h2.length]
      simpa using h3
    · cases e
  · have e : (match nxt q i s with
      | some (some d) => some (some (.tup [.int i, d]))
      | some none => some none
      | none => none) = some (some d) := e
    split at e
    · cases e
      obtain ⟨ds, vs, h1, h2, h3⟩ := h i W s H _ tk rs ‹_›
      obtain ⟨v, e1, q1⟩ := h2.get h3
      refine ⟨⟨vs, v, h1, e1⟩, fun x H' ⟨T, y, ex, hT, eH, hy⟩ => ?_⟩
      subst ex
      subst eH
      have := hy vs h1
      rw [e1] at this
      cases this
      exact ⟨ex_lay hT, rs.lay hT, T, _, rfl, .of upd_same, _, _, rfl, rfl, _, _, rfl, RD.mono (tk_lay hT) _ q1, rfl⟩
    · cases e
    · cases e
theorem zp_of {q r : Src} {i : Nat} {s : Sto} {z : Option D} (e : nxt (.zp q r) i s = some z) : ∃ u v, nxt q i s = some u ∧ nxt r i s = some v ∧ z = (match u with
    | some d => (match v with
      | some e => some (.tup [d, e])
      | none => none)
    | none => none) := by
  have e : (match nxt q i s with
    | some u => match nxt r i s with
      | some v => some (match u with
        | some d => (match v with
          | some e => some (.tup [d, e])
          | none => none)
        | none => none)
      | none => none
    | none => none) = some z := e
  split at e
  · rename_i u h1
    split at e
    · rename_i v h2
      exact ⟨u, v, h1, h2, (Option.some.inj e).symm⟩
    · cases e
  · cases e
theorem it_zip {W0 : Wd} {H0 : Hp} {q r : Src} {a b : Addr} (h : LsOk Z W0 H0 q a) (g : LsOk Z W0 H0 r b) : ItOk Z W0 H0 (.zp q r) (Itz Z.K a b) := by
  intro i W s H tk rs
  refine ⟨fun e => ?_, fun d e => ?_⟩
  · obtain ⟨u, v, h1, h2, h3⟩ := zp_of e
    obtain ⟨ds, vs, p1, p2, p3⟩ := h i W s H _ tk rs h1
    obtain ⟨es, ws, q1, q2, q3⟩ := g i W s H _ tk rs h2
    refine ⟨vs, ws, p1, q1, ?_⟩
    rw [p2.length, q2.length]
    cases u with
    | none => exact .inl (by simpa using p3)
    | some d => cases v with
      | none => exact .inr (by simpa using q3)
      | some e => exact (nomatch h3)
  · obtain ⟨u, v, h1, h2, h3⟩ := zp_of e
    cases u with
    | none => cases h3
    | some d1 => cases v with
      | none => cases h3
      | some d2 =>
        obtain rfl := Option.some.inj h3
        obtain ⟨ds, vs, p1, p2, p3⟩ := h i W s H _ tk rs h1
        obtain ⟨es, ws, q1, q2, q3⟩ := g i W s H _ tk rs h2
        obtain ⟨x, e1, m1⟩ := p2.get p3
        obtain ⟨y, e2, m2⟩ := q2.get q3
        refine ⟨⟨vs, ws, x, y, p1, q1, e1, e2⟩, fun v H' ⟨T, x', y', ev, hT, eH, hx, hy⟩ => ?_⟩
        subst ev
        subst eH
        have z1 := hx vs p1
        rw [e1] at z1
        cases z1
        have z2 := hy ws q1
        rw [e2] at z2
        cases z2
        exact ⟨ex_lay hT, rs.lay hT, T, _, rfl, .of upd_same, _, _, rfl, RD.mono (tk_lay hT) _ m1, _, _, rfl, RD.mono (tk_lay hT) _ m2, rfl⟩
theorem it_zipT {W0 : Wd} {H0 : Hp} {ds es : List D} {vs ws : List V} {a b : Addr} (h1 : SqT Z.K H0 a vs) (r1 : RDs Z W0 H0 ds vs) (h2 : SqT Z.K H0 b ws) (r2 : RDs Z W0 H0 es ws) : ItOk Z W0 H0 (.zp (.fix ds) (.fix es)) (RZ.ItzT Z.K a b) := by
  intro i W s H tk rs
  have p1 := tk.sqT h1
  have p2 := RDs.mono tk ds r1
  have q1 := tk.sqT h2
  have q2 := RDs.mono tk es r2
  refine ⟨fun e => ?_, fun d e => ?_⟩
  · obtain ⟨u, v, e1, e2, h3⟩ := zp_of e
    have p3 : ds[i]? = u := Option.some.inj e1
    have q3 : es[i]? = v := Option.some.inj e2
    refine ⟨vs, ws, p1, q1, ?_⟩
    rw [p2.length, q2.length]
    cases u with
    | none => exact .inl (by simpa using p3)
    | some d => cases v with
      | none => exact .inr (by simpa using q3)
      | some e => exact (nomatch h3)
  · obtain ⟨u, v, e1, e2, h3⟩ := zp_of e
    have p3 : ds[i]? = u := Option.some.inj e1
    have q3 : es[i]? = v := Option.some.inj e2
    cases u with
    | none => cases h3
    | some d1 => cases v with
      | none => cases h3
      | some d2 =>
        obtain rfl := Option.some.inj h3
        obtain ⟨x, e1, m1⟩ := p2.get p3
        obtain ⟨y, e2, m2⟩ := q2.get q3
        refine ⟨⟨vs, ws, x, y, p1, q1, e1, e2⟩, fun v H' ⟨T, x', y', ev, hT, eH, hx, hy⟩ => ?_⟩
        subst ev
        subst eH
        have z1 := hx vs p1
        rw [e1] at z1
        cases z1
        have z2 := hy ws q1
        rw [e2] at z2
        cases z2
        exact ⟨ex_lay hT, rs.lay hT, T, _, rfl, .of upd_same, _, _, rfl, RD.mono (tk_lay hT) _ m1, _, _, rfl, RD.mono (tk_lay hT) _ m2, rfl⟩
/-! ### as the program has them -/
theorem s_iseq (S : Sx Z M c X Wx) {tg a : Expr} {e : E} (ha : PP Z M X Wx a e) : PI X tg a (tI Z M Wx (.seq e)) := by
  refine ⟨fun pins s σ H R I ⟨W, s0, f, rs, rf, po⟩ => ?_⟩
  have po : Po Z (atS Wx σ) W H ((ev M e f s0).bind fun x s => TR.R.ofO (srcOf s x) s) (ItR Z) R := po
  have eK : X.K = Z.K := S.fx.K
  rcases det1 rs rf po with ⟨d, s1, _, h⟩ | h
  · cases d with
    | tup ds =>
      refine (pi_tup (peB ha.pe)).run pins s σ H R I (h.imp fun v H1 ⟨W1, x1, r1, f1, ⟨p, vs, ev, q1, q2⟩, po1⟩ hB => ?_)
      refine ⟨p, ev, ⟨vs, by rw [eK]; exact q1⟩, ?_⟩
      rw [eK]
      have po1 : Po Z (atS Wx σ) W1 H1 (.ok (.fix ds, ds.length) s1) (ItR Z) R := po1
      refine po1.ok r1 ⟨it_tup q1 q2, ?_⟩
      rw [← q2.length]
      exact hB p vs ev (.inr (by rw [eK]; exact q1))
    | rol ds =>
      refine (pi_list (peB ha.pe)).run pins s σ H R I (h.imp fun v H1 ⟨W1, x1, r1, f1, ⟨p, vs, ev, q1, q2⟩, po1⟩ hB => ?_)
      refine ⟨p, ev, ⟨vs, by rw [eK]; exact q1.l⟩, ?_⟩
      rw [eK]
      have po1 : Po Z (atS Wx σ) W1 H1 (.ok (.fix ds, ds.length) s1) (ItR Z) R := po1
      refine po1.ok r1 ⟨it_rol q1 q2, ?_⟩
      rw [← q2.length]
      exact hB p vs ev (.inl (by rw [eK]; exact q1.l))
    | ref n =>
      refine (pi_list (peB ha.pe)).run pins s σ H R I (h.imp fun v H1 ⟨W1, x1, r1, f1, ⟨hn, ev⟩, po1⟩ hB => ?_)
      have po1 : Po Z (atS Wx σ) W1 H1 (TR.R.ofO (match s1.get n with
        | some (.lst _) => some (.lv n, SZ)
        | _ => none) s1) (ItR Z) R := po1
      obtain ⟨z, hz, po1⟩ := Po.of0 po1
      split at hz
      · rename_i hx
        cases hz
        obtain ⟨vs, t1, t2⟩ := r1.cell hx
        refine ⟨_, ev, ⟨vs, .of t1⟩, ?_⟩
        rw [eK]
        exact po1.ok r1 ⟨it_lst hn, Nat.le_refl _⟩
      · cases hz
    | _ =>
      refine (pi_list (peB ha.pe)).run pins s σ H R I (h.imp fun v H1 ⟨W1, x1, r1, f1, _, po1⟩ hB => ?_)
      exact po1.elim
  · exact (pi_list ha.pe).run pins s σ H R I (h _)
theorem boot_rev : bootBuiltins "reversed" = some (.type "reversed") := PyProof.Rows.boot_reversed
theorem inB {x : String} (h : (bltNames.contains (Str.ofString x)) = true) : Str.ofString x ∈ bltNames := List.contains_iff_mem.mp h
theorem Sx.nob (S : Sx Z M c X Wx) {x : Str} (h : bltNames.contains x = true) : X.mg x = none := S.fx.blt x (List.contains_iff_mem.mp h)
theorem rngOk_of {a b : Int} (h : rngOk a b = true) : -(2 ^ 62) ≤ a ∧ a < 2 ^ 62 ∧ -(2 ^ 62) ≤ b ∧ b < 2 ^ 62 := by
  unfold rngOk at h
  simp only [Bool.and_eq_true, decide_eq_true_eq] at h
  omega
theorem one_of {W : Wd} {H : Hp} {n : Int} {vs : List V} (h : RDs Z W H [.int n] vs) : vs = [.int n] := by
  obtain ⟨v, t, ev, e1, et⟩ := h
  rw [ev, show t = [] from et, show v = .int n from e1]
theorem two_of {W : Wd} {H : Hp} {n m : Int} {vs : List V} (h : RDs Z W H [.int n, .int m] vs) : vs = [.int n, .int m] := by
  obtain ⟨v, t, ev, e1, et⟩ := h
  rw [ev, one_of et, show v = .int n from e1]
theorem three_of {W : Wd} {H : Hp} {n m k : Int} {vs : List V} (h : RDs Z W H [.int n, .int m, .int k] vs) : vs = [.int n, .int m, .int k] := by
  obtain ⟨v, t, ev, e1, et⟩ := h
  rw [ev, two_of et, show v = .int n from e1]
theorem len1 {α : Type} {l : List α} (h : l.length = 1) : ∃ a, l = [a] := by
  match l, h with
  | [a], _ => exact ⟨a, rfl⟩
theorem len2 {α : Type} {l : List α} (h : l.length = 2) : ∃ a b, l = [a, b] := by
  match l, h with
  | [a, b], _ => exact ⟨a, b, rfl⟩
theorem len3 {α : Type} {l : List α} (h : l.length = 3) : ∃ a b c, l = [a, b, c] := by
  match l, h with
  | [a, b, c], _ => exact ⟨a, b, c, rfl⟩
def rngR (ds : List D) (s : Sto) : TR.R (Src × Nat) := match rngOf ds with
  | some r => .ok (.fix r, r.length) s
  | none => .bad
theorem s_irng1 (S : Sx Z M c X Wx) {tg a : Expr} {p : Pos} {e : E} (ha : PA X [a] (tA Z M Wx [e])) (hg : glB c.sc "range" = true) (hs : notStar a = true) : PI X tg (.Call (.Name "range" p) [a] [] pos) (tI Z M Wx (.rng [e])) := by
  refine ⟨fun pins s σ H R I ⟨W, s0, f, rs, rf, po⟩ => ?_⟩
  have po : Po Z (atS Wx σ) W H ((evs M [e] f s0).bind rngR) (ItR Z) R := po
  refine (pi_range1 (S.gl hg) (S.nob (by decide +kernel)) ha (star_cons hs)).run pins s σ H R I ?_
  rcases detA rs rf po with ⟨ds, s1, hev, h⟩ | h
  · obtain ⟨d, rfl⟩ := len1 (evs_len _ _ _ _ _ hev)
    refine h.imp fun vs H1 ⟨W1, x1, r1, f1, q1, po1⟩ => ?_
    cases d with
    | int n =>
      have po1 : Po Z (atS Wx σ) W1 H1 (match cond (rngOk 0 n && Nat.ble n.toNat SZ) (some (rngD 0 n.toNat)) none with
        | some r => .ok (.fix r, r.length) s1
        | none => .bad) (ItR Z) R := po1
      cases hc : (rngOk 0 n && Nat.ble n.toNat SZ) with
      | false => rw [hc] at po1; exact po1.elim
      | true =>
        rw [hc] at po1
        rw [Bool.and_eq_true] at hc
        obtain ⟨_, _, b1, b2⟩ := rngOk_of hc.1
        refine ⟨n, one_of q1, b1, b2, Po.ok po1 r1 ⟨it_rng, ?_⟩⟩
        show (rngD 0 n.toNat).length ≤ SZ
        rw [rngD_len]
        exact Nat.le_of_ble_eq_true hc.2
    | _ => exact po1.elim
  · exact h _
theorem s_irng2 (S : Sx Z M c X Wx) {tg a b : Expr} {p : Pos} {e g : E} (ha : PA X [a, b] (tA Z M Wx [e, g])) (hg : glB c.sc "range" = true) (hs : notStar a = true) (hs2 : notStar b = true) : PI X tg (.Call (.Name "range" p) [a, b] [] pos) (tI Z M Wx (.rng [e, g])) := by
  refine ⟨fun pins s σ H R I ⟨W, s0, f, rs, rf, po⟩ => ?_⟩
  have po : Po Z (atS Wx σ) W H ((evs M [e, g] f s0).bind rngR) (ItR Z) R := po
  refine (pi_range2 (S.gl hg) (S.nob (by decide +kernel)) ha (by rw [star_cons hs, star_cons hs2]; rfl) (star_cons hs2)).run pins s σ H R I ?_
  rcases detA rs rf po with ⟨ds, s1, hev, h⟩ | h
  · obtain ⟨d, d2, rfl⟩ := len2 (evs_len _ _ _ _ _ hev)
    refine h.imp fun vs H1 ⟨W1, x1, r1, f1, q1, po1⟩ => ?_
    cases d with
    | int n => cases d2 with
      | int m =>
        have po1 : Po Z (atS Wx σ) W1 H1 (match cond (rngOk n m && Nat.ble (m - n).toNat SZ) (some (rngD n (m - n).toNat)) none with
          | some r => .ok (.fix r, r.length) s1
          | none => .bad) (ItR Z) R := po1
        cases hc : (rngOk n m && Nat.ble (m - n).toNat SZ) with
        | false => rw [hc] at po1; exact po1.elim
        | true =>
          rw [hc] at po1
          rw [Bool.and_eq_true] at hc
          refine ⟨n, m, two_of q1, rngOk_of hc.1, Po.ok po1 r1 ⟨it_rng, ?_⟩⟩
          show (rngD n (m - n).toNat).length ≤ SZ
          rw [rngD_len]
          exact Nat.le_of_ble_eq_true hc.2
      | _ => exact po1.elim
    | _ => cases d2 <;> exact po1.elim
  · exact h _
theorem s_irng3 (S : Sx Z M c X Wx) {tg a b d : Expr} {p : Pos} {e g k : E} (ha : PA X [a, b, d] (tA Z M Wx [e, g, k])) (hg : glB c.sc "range" = true) (hs : notStar a = true) (hs2 : notStar b = true) (hs3 : notStar d = true) : PI X tg (.Call (.Name "range" p) [a, b, d] [] pos) (tI Z M Wx (.rng [e, g, k])) := by
  refine ⟨fun pins s σ H R I ⟨W, s0, f, rs, rf, po⟩ => ?_⟩
  have po : Po Z (atS Wx σ) W H ((evs M [e, g, k] f s0).bind rngR) (ItR Z) R := po
  refine (pi_range3 (S.gl hg) (S.nob (by decide +kernel)) ha (star_cons hs) (star_none (by simp [hs2, hs3]))).run pins s σ H R I ?_
  rcases detA rs rf po with ⟨ds, s1, hev, h⟩ | h
  · obtain ⟨d, d2, d3, rfl⟩ := len3 (evs_len _ _ _ _ _ hev)
    refine h.imp fun vs H1 ⟨W1, x1, r1, f1, q1, po1⟩ => ?_
    cases d with
    | int n => cases d2 with
      | int m => cases d3 with
        | int j =>
          have po3 : Po Z (atS Wx σ) W1 H1 (match cond (j == -1 && rngOk n m && Nat.ble (n - m).toNat SZ) (some (rngDn n (n - m).toNat)) none with
            | some r => .ok (.fix r, r.length) s1
            | none => .bad) (ItR Z) R := po1
          cases hc : (j == -1 && rngOk n m && Nat.ble (n - m).toNat SZ) with
          | false => rw [hc] at po3; exact po3.elim
          | true =>
            rw [hc] at po3
            rw [Bool.and_eq_true, Bool.and_eq_true] at hc
            obtain rfl : j = -1 := eq_of_beq hc.1.1
            obtain ⟨b1, b2, b3, b4⟩ := rngOk_of hc.1.2
            refine ⟨n, m, -1, _, three_of q1, RgC.neg b1 b2 b3 b4, Po.ok po3 r1 ⟨it_rngn, ?_⟩⟩
            show (rngDn n (n - m).toNat).length ≤ SZ
            rw [rngDn_len]
            exact Nat.le_of_ble_eq_true hc.2
        | _ => exact po1.elim
      | _ => cases d3 <;> exact po1.elim
    | _ => cases d2 <;> cases d3 <;> exact po1.elim
  · exact h _
/-- a list, as a source: where it lies -/
theorem srcL_of {W : Wd} {H : Hp} {s : Sto} {d : D} {v : V} {q : Src × Nat} (rs : RS Z W s H) (r : RD Z W H d v) (h : srcL s d = some q) (hB : ∀ a xs, v = .ref a → SqL Z.K H a xs ∨ SqT Z.K H a xs → xs.length ≤ SZ) :
    ∃ a xs, v = .ref a ∧ SqL Z.K H a xs ∧ LsOk Z W H q.1 a ∧ q.2 ≤ SZ := by
  unfold srcL at h
  split at h
  · cases h
    obtain ⟨p, vs, ev, q1, q2⟩ := r
    refine ⟨p, vs, ev, q1.l, ls_rol q1 q2, ?_⟩
    rw [← q2.length]
    exact hB p vs ev (.inl q1.l)
  · obtain ⟨hn, ev⟩ := r
    split at h
    · rename_i hx
      cases h
      obtain ⟨vs, t1, t2⟩ := rs.cell hx
      exact ⟨_, vs, ev, .of t1, ls_lst hn, Nat.le_refl _⟩
    · cases h
  · cases h
theorem it_enT {W0 : Wd} {H0 : Hp} {p : Addr} {vs : List V} {ds : List D} (h : SqT Z.K H0 p vs) (r : RDs Z W0 H0 ds vs) : ItOk Z W0 H0 (.en (.fix ds)) (IteT Z.K p) := by
  intro i W s H tk rs
  have h' := tk.sqT h
  have r' := RDs.mono tk ds r
  have en : nxt (.en (.fix ds)) i s = some ((ds[i]?).map fun d => D.tup [.int i, d]) := by
    show (match some ds[i]? with
      | some (some d) => some (some (D.tup [.int i, d]))
      | some none => some none
      | none => none) = _
    cases ds[i]? <;> rfl
  refine ⟨fun e => ⟨vs, h', ?_⟩, fun d e => ?_⟩
  · rw [en] at e
    have e := Option.some.inj e
    rw [r'.length]
    simpa using e
  · rw [en] at e
    have e := Option.some.inj e
    cases q : ds[i]? with
    | none => rw [q] at e; cases e
    | some d0 =>
      rw [q] at e
      cases e
      obtain ⟨v, e1, q1⟩ := r'.get q
      refine ⟨⟨vs, v, h', e1⟩, fun x H' ⟨T, y, ex, hT, eH, hy⟩ => ?_⟩
      subst ex
      subst eH
      have := hy vs h'
      rw [e1] at this
      cases this
      exact ⟨ex_lay hT, rs.lay hT, T, _, rfl, .of upd_same, _, _, rfl, rfl, _, _, rfl, RD.mono (tk_lay hT) _ q1, rfl⟩
theorem s_ienum (S : Sx Z M c X Wx) {elts : List Expr} {kk : Nat} {tpos : Pos} {a : Expr} {p : Pos} {e : E} (ha : PA X [a] (tA Z M Wx [e])) (hg : glB c.sc "enumerate" = true) (hs : notStar a = true) :
    PI X (.Tuple elts kk tpos) (.Call (.Name "enumerate" p) [a] [] pos) (tI Z M Wx (.enum e)) := by
  refine ⟨fun pins s σ H R I ⟨W, s0, f, rs, rf, po⟩ => ?_⟩
  have po : Po Z (atS Wx σ) W H ((ev M e f s0).bind fun x s => (TR.R.ofO (srcE s x) s).bind fun p s => .ok (.en p.1, p.2) s) (ItR Z) R := po
  refine (pi_enum2 (S.gl hg) (S.nob (by decide +kernel)) (paB ha) (star_cons hs)).run pins s σ H R I ⟨W, s0, f, rs, rf, ?_⟩
  have po2 : Po Z (atS Wx σ) W H ((evs M [e] f s0).bind fun ds s => match ds with
    | [x] => (TR.R.ofO (srcE s x) s).bind fun p s => .ok (.en p.1, p.2) s
    | _ => .bad) (ItR Z) R := by
    have e1 : evs M [e] f s0 = (ev M e f s0).bind fun x s => .ok [x] s := rfl
    rw [e1]
    cases h : ev M e f s0 <;> rw [h] at po <;> exact po
  refine Po.imp (Po.bind (rel1 := RDs Z) po2) fun W' s' H' ds vs ee x r q => ⟨q, fun ⟨W1, s1, a1, e1, x1, r1, q1, po1⟩ hB => ?_⟩
  obtain ⟨d, rfl⟩ := len1 (evs_len _ _ _ _ _ e1)
  obtain ⟨z, hz, po1⟩ := po1.ofO
  obtain ⟨v, t, ev', e2, et⟩ := q1
  obtain rfl : t = [] := et
  subst ev'
  have hz0 : srcE s1 d = some z := hz
  unfold srcE at hz
  split at hz
  · rename_i ds2
    cases hz
    obtain ⟨p', vs', ev2, t1, t2⟩ := e2
    refine ⟨p', by rw [ev2], .inr ⟨vs', by rw [S.fx.K]; exact t1, ?_⟩⟩
    have hsz : ds2.length ≤ SZ := by
      rw [← t2.length]
      exact hB p' vs' (by rw [ev2]; exact List.mem_cons_self) (.inr (by rw [S.fx.K]; exact t1))
    rw [S.fx.K]
    exact Po.ok po1 r1 ⟨it_enT t1 t2, hsz⟩
  · obtain ⟨p', xs, rfl, h1, h2, h3⟩ := srcL_of r1 e2 hz fun a' xs ev' h => hB a' xs (by rw [ev']; exact List.mem_cons_self) (by rw [S.fx.K]; exact h)
    refine ⟨p', rfl, .inl ⟨xs, by rw [S.fx.K]; exact h1, ?_⟩⟩
    rw [S.fx.K]
    exact Po.ok po1 r1 ⟨it_en h2, h3⟩
theorem s_izip (S : Sx Z M c X Wx) {elts : List Expr} {kk : Nat} {tpos : Pos} {a b : Expr} {p : Pos} {e g : E} (ha : PA X [a, b] (tA Z M Wx [e, g])) (hg : glB c.sc "zip" = true) (hs : notStar a = true) (hs2 : notStar b = true) :
    PI X (.Tuple elts kk tpos) (.Call (.Name "zip" p) [a, b] [] pos) (tI Z M Wx (.zip e g)) := by
  refine ⟨fun pins s σ H R I ⟨W, s0, f, rs, rf, po⟩ => ?_⟩
  have po : Po Z (atS Wx σ) W H ((ev M e f s0).bind fun x s => (ev M g f s).bind fun y s => TR.R.ofO (srcZ s x y) s) (ItR Z) R := po
  refine (RZ.pi_zipA (S.gl hg) (S.nob (by decide +kernel)) (paB ha) (star_cons hs) (star_none (by simp [hs2]))).run pins s σ H R I ⟨W, s0, f, rs, rf, ?_⟩
  have po2 : Po Z (atS Wx σ) W H ((evs M [e, g] f s0).bind fun ds s => match ds with
    | [x, y] => TR.R.ofO (srcZ s x y) s
    | _ => .bad) (ItR Z) R := by
    have e1 : evs M [e, g] f s0 = (ev M e f s0).bind fun x s => ((ev M g f s).bind fun y s => .ok [y] s).bind fun xs s => .ok (x :: xs) s := rfl
    rw [e1]
    cases h : ev M e f s0 with
    | ok x s1 =>
      rw [h] at po
      have po : Po Z (atS Wx σ) W H ((ev M g f s1).bind fun y s => TR.R.ofO (srcZ s x y) s) (ItR Z) R := po
      show Po Z (atS Wx σ) W H ((((ev M g f s1).bind fun y s => .ok [y] s).bind fun xs s => .ok (x :: xs) s).bind _) (ItR Z) R
      cases h2 : ev M g f s1 <;> rw [h2] at po <;> exact po
    | ex _ _ => rw [h] at po; exact po
    | bad => rw [h] at po; exact po
  refine Po.imp (Po.bind (rel1 := RDs Z) po2) fun W' s' H' ds vs ee x r q => ⟨q, fun ⟨W1, s1, a1, e1, x1, r1, q1, po1⟩ hB => ?_⟩
  obtain ⟨d, d2, rfl⟩ := len2 (evs_len _ _ _ _ _ e1)
  obtain ⟨z, hz, po1⟩ := Po.of0 po1
  obtain ⟨v, t, ev', e2, v2, t2, et, e3, et2⟩ := q1
  obtain rfl : t2 = [] := et2
  subst et
  subst ev'
  rw [S.fx.K] at hB
  rw [S.fx.K]
  unfold srcZ at hz
  split at hz
  · rename_i z1 hz1
    split at hz
    · rename_i z2 hz2
      cases hz
      obtain ⟨a1, xs1, rfl, h1, h2, h3⟩ := srcL_of r1 e2 hz1 fun a' xs ev' h => hB a' xs (by rw [ev']; exact List.mem_cons_self) h
      obtain ⟨a2, xs2, rfl, g1, g2, g3⟩ := srcL_of r1 e3 hz2 fun a' xs ev' h => hB a' xs (by rw [ev']; exact List.mem_cons_of_mem _ List.mem_cons_self) h
      exact ⟨a1, a2, xs1, xs2, rfl, .inl ⟨h1, g1, Po.ok po1 r1 ⟨it_zip h2 g2, h3⟩⟩⟩
    · cases hz
  · split at hz
    · split at hz
      · cases hz
        obtain ⟨a1, xs1, rfl, h1, h2⟩ := e2
        obtain ⟨a2, xs2, rfl, g1, g2⟩ := e3
        refine ⟨a1, a2, xs1, xs2, rfl, .inr ⟨h1, g1, Po.ok po1 r1 ⟨it_zipT h1 h2 g1 g2, ?_⟩⟩⟩
        show _ ≤ SZ
        rw [← h2.length]
        exact hB a1 xs1 List.mem_cons_self (.inr h1)
      · cases hz
    · cases hz
theorem it_revT {W0 : Wd} {H0 : Hp} {p : Addr} {vs : List V} {ds : List D} (h : SqT Z.K H0 p vs) (r : RDs Z W0 H0 ds vs) : ItOk Z W0 H0 (.fix ds.reverse) (RT.ItvT Z.K p vs.length) := by
  intro i W s H tk rs
  have h' := tk.sqT h
  have r' := RDs.mono tk ds r
  have el := r'.length
  refine ⟨fun e => ?_, fun d e => ?_⟩
  · have e : ds.reverse[i]? = none := Option.some.inj e
    have : ds.length ≤ i := by simpa using e
    show vs.length ≤ i
    omega
  · have e : ds.reverse[i]? = some d := Option.some.inj e
    have hi : i < ds.length := by
      have := (List.getElem?_eq_some_iff.mp e).1
      simpa using this
    rw [List.getElem?_reverse hi, ← el] at e
    obtain ⟨v, e1, q⟩ := r'.get e
    refine ⟨⟨by omega, vs, v, h', e1⟩, fun x H' ⟨eH, y⟩ => ?_⟩
    subst eH
    have := y vs h'
    rw [e1] at this
    cases this
    exact ⟨Ex.refl, rs, q⟩
theorem s_irvs (S : Sx Z M c X Wx) {tg a : Expr} {p : Pos} {e : E} (ha : PP Z M X Wx a e) (hg : glB c.sc "reversed" = true) (hs : notStar a = true) : PI X tg (.Call (.Name "reversed" p) [a] [] pos) (tI Z M Wx (.rvs e)) := by
  refine ⟨fun pins s σ H R I ⟨W, s0, f, rs, rf, po⟩ => ?_⟩
  have po : Po Z (atS Wx σ) W H ((ev M e f s0).bind fun x s => TR.R.ofO (srcR s x) s) (ItR Z) R := po
  refine (RT.pi_revA (S.gl hg) (S.nob (by decide +kernel)) (peB ha.pe) (star_cons hs)).run pins s σ H R I ⟨W, s0, f, rs, rf, ?_⟩
  refine Po.imp (Po.bind (rel1 := RD Z) po) fun W' s' H' ds vs ee x r q => ⟨q, fun ⟨W1, s1, a1, e1, x1, r1, q1, po1⟩ hB => ?_⟩
  obtain ⟨z, hz, po1⟩ := Po.of0 po1
  rw [S.fx.K] at hB
  rw [S.fx.K]
  unfold srcR at hz
  split at hz
  · cases hz
    obtain ⟨p', xs, rfl, h1, h2⟩ := q1
    refine ⟨p', xs, rfl, .inr ⟨h1, Po.ok po1 r1 ⟨it_revT h1 h2, ?_⟩⟩⟩
    show _ ≤ SZ
    rw [List.length_reverse, ← h2.length]
    exact hB p' xs rfl (.inr h1)
  · split at hz
    · rename_i hx
      cases hz
      obtain ⟨hn, rfl⟩ := q1
      obtain ⟨xs, t1, t2⟩ := r1.cell hx
      refine ⟨_, xs, rfl, .inl ⟨.of t1, ?_⟩⟩
      rw [t2.length]
      refine Po.ok po1 r1 ⟨it_rev hn, ?_⟩
      show _ ≤ SZ
      rw [← t2.length]
      exact hB _ xs rfl (.inl (.of t1))
    · cases hz
  · cases hz
end
end TR
set_option autoImplicit false
set_option linter.all false
set_option maxRecDepth 100000
/-! What is stored where. -/
namespace TR
open PySem PySem.Spec PyProof.Rows L2
abbrev noE : XK := fun _ _ _ => False
section
variable {Z : Zn} {M : Sem} {c : Cc} {X : Cx} {Wx : WX} {pos : Pos}
/-- the slots that a target writes -/
def Keep (w : List Nat) (σ σ' : L2.St) : Prop := σ'.length = σ.length ∧ ∀ j, j ∉ w → σ'[j]? = σ[j]?
theorem Keep.refl {w : List Nat} {σ : L2.St} : Keep w σ σ := ⟨rfl, fun _ _ => rfl⟩
theorem Keep.trans {w w' : List Nat} {σ σ' σ'' : L2.St} (a : Keep w σ σ') (b : Keep w' σ' σ'') : Keep (w ++ w') σ σ'' := ⟨b.1.trans a.1, fun j h => (b.2 j fun m => h (List.mem_append_right _ m)).trans (a.2 j fun m => h (List.mem_append_left _ m))⟩
theorem Keep.set {i : Nat} {σ : L2.St} {v : Option V} : Keep [i] σ (σ.set i v) := ⟨List.length_set, fun j h => List.getElem?_set_ne fun e => h (by rw [e]; exact List.mem_cons_self)⟩
mutual
def tslots : Tg → List Nat
  | .n i => [i]
  | .t ts => tsslots ts
  | .a _ _ => []
  | .s _ _ => []
def tsslots : List Tg → List Nat
  | [] => []
  | t :: ts => tslots t ++ tsslots ts
end
def RFt (Z : Zn) (w : List Nat) (σ : L2.St) : Rel Fr L2.St := fun W H f σ' => RF Z W H f σ' ∧ Keep w σ σ'
def tG (Z : Zn) (M : Sem) (t : Tg) : TG := fun x σ H R => ∃ W s f d, RS Z W s H ∧ RF Z W H f σ ∧ RD Z W H d x ∧ Po Z noE W H (asg M t d f s) (RFt Z (tslots t) σ) R
def tGs (Z : Zn) (M : Sem) (ts : List Tg) : TGs := fun xs σ H R => ∃ W s f ds, RS Z W s H ∧ RF Z W H f σ ∧ RDs Z W H ds xs ∧ Po Z noE W H (asgs M ts ds f s) (RFt Z (tsslots ts) σ) R
theorem pgI {e : Expr} {t u : TG} (h : PG X e t) (i : ∀ x σ H Q, u x σ H Q → t x σ H Q) : PG X e u := ⟨fun pins s σ H v w Q I r q => h.run pins s σ H v w Q I r (i v σ H Q q)⟩
theorem pgsI {e : List Expr} {t u : TGs} (h : PGs X e t) (i : ∀ x σ H Q, u x σ H Q → t x σ H Q) : PGs X e u := ⟨fun pins s σ H v w Q I r q => h.run pins s σ H v w Q I r (i v σ H Q q)⟩
def locB (sc : Scope) (x : Str) : Bool := match sc.names.lookup x with
  | some .local => true
  | _ => false
theorem locB_ok {sc : Scope} {x : Str} (h : locB sc x = true) : sc.names.lookup x = some .local := by
  unfold locB at h
  split at h
  · assumption
  · cases h
def stoB (c : Cc) (x : Str) : Bool := match c.sc.names.lookup x with
  | some .local => true
  | some .cell => c.own x
  | _ => false
theorem stoB_ok (S : Sx Z M c X Wx) {x : Str} (h : stoB c x = true) : L2.Loc X.env.scope x ∧ (X.fn x = true ∨ X.env.scope.names.lookup x = some .local) := by
  unfold stoB at h
  unfold L2.Loc
  rw [S.sc]
  split at h
  · rename_i e
    exact ⟨.inl e, .inr e⟩
  · rename_i e
    exact ⟨.inr e, .inl (S.fnc _ h)⟩
  · cases h
theorem g_name (S : Sx Z M c X Wx) {i : Nat} {x : Str} (hN : c.N[i]? = some x) (hv : stoB c x = true) : PG X (.Name x pos) (tG Z M (.n i)) := by
  obtain ⟨h1, h2⟩ := stoB_ok S hv
  exact pgI (pg_name (i := i) S.fx.nd (by rw [S.N]; exact hN) h1 h2) fun x σ H Q ⟨W, s, f, d, rs, rf, rd, po⟩ => Po.ok po rs ⟨rf.set i rd, Keep.set⟩
theorem gs_nil : PGs X [] (tGs Z M []) := pgsI pgs_nil fun xs σ H Q ⟨W, s, f, ds, rs, rf, rd, po⟩ => by
  cases ds with
  | nil => exact ⟨rd, Po.ok po rs ⟨rf, Keep.refl⟩⟩
  | cons d ds => exact po.elim
theorem assign_cons {e : Expr} {es : List Expr} {env : Env} (h : notStar e = true) : assignEach (e :: es) env = (false, assign e env) :: assignEach es env := by
  cases e <;> first | rfl | cases h
theorem gs_cons {e : Expr} {es : List Expr} {t : Tg} {ts : List Tg} (hs : notStar e = true) (h1 : PG X e (tG Z M t)) (h2 : PGs X es (tGs Z M ts)) : PGs X (e :: es) (tGs Z M (t :: ts)) := pgsI (pgs_cons h1 h2 (by rw [assign_cons hs]; rfl)) fun xs σ H Q ⟨W, s, f, ds, rs, rf, rd, po⟩ => by
  cases ds with
  | nil => exact po.elim
  | cons d ds =>
    obtain ⟨v, r, rfl, h1, h2⟩ := rd
    replace po : Po Z noE W H ((asg M t d f s).bind fun f s => asgs M ts ds f s) (RFt Z (tslots t ++ tsslots ts) σ) Q := po
    exact ⟨v, r, rfl, W, s, f, d, rs, rf, h1, Po.imp (Po.bind (rel1 := RFt Z (tslots t) σ) po) fun W' s' H' a b e x r q => ⟨q, fun ⟨W1, s1, a1, e1, x1, r1, ⟨q1, k1⟩, po1⟩ => ⟨W1, s1, a1, ds, r1, q1, RDs.mono (x1.tk rs) _ h2,
      Po.imp po1 fun W' s' H' a b e x r q => ⟨⟨q.1, k1.trans q.2⟩, id⟩⟩⟩⟩
theorem NoEx.nox {α : Type} {r : TR.R α} : NoEx (TR.R.nox r) := by
  cases r with
  | ok a s => exact NoEx.ok
  | ex e s => exact NoEx.bad
  | bad => exact NoEx.bad
theorem noex_stD {a b d : D} {s : Sto} : NoEx (stD a b d s) := by
  unfold stD
  repeat' (first | exact NoEx.bad | exact NoEx.ok | exact NoEx.cond NoEx.ok NoEx.bad | split)
mutual
theorem noex_asg : ∀ (t : Tg) (d : D) (f : Fr) (s : Sto), NoEx (asg M t d f s)
  | .n i, d, f, s => NoEx.ok
  | .t ts, d, f, s => by
    show NoEx (match rowOf s d with
    | some ds => cond (Nat.beq ds.length ts.length) (asgs M ts ds f s) .bad
    | none => .bad)
    cases rowOf s d with
    | some ds => exact NoEx.cond (noex_asgs ts ds f s) NoEx.bad
    | none => exact NoEx.bad
  | .a o n, d, f, s => by
    refine NoEx.bind NoEx.nox fun x s => ?_
    split
    · split
      · exact NoEx.ok
      · exact NoEx.bad
    · exact NoEx.bad
  | .s o i, d, f, s => NoEx.bind NoEx.nox fun x s => NoEx.bind NoEx.nox fun y s => NoEx.bind noex_stD fun _ s => NoEx.ok
theorem noex_asgs : ∀ (ts : List Tg) (ds : List D) (f : Fr) (s : Sto), NoEx (asgs M ts ds f s)
  | [], [], _, _ => NoEx.ok
  | [], _ :: _, _, _ => NoEx.bad
  | _ :: _, [], _, _ => NoEx.bad
  | t :: ts, d :: ds, f, s => NoEx.bind (noex_asg t d f s) fun f s => noex_asgs ts ds f s
end
theorem assign_none {es : List Expr} {env : Env} (h : es.all notStar = true) : (assignEach es env).length = es.length ∧ (assignEach es env).findIdx? (·.1) = none := by
  induction es with
  | nil => exact ⟨rfl, rfl⟩
  | cons e es ih =>
    rw [List.all_cons, Bool.and_eq_true] at h
    obtain ⟨i1, i2⟩ := ih h.2
    rw [assign_cons h.1]
    refine ⟨congrArg Nat.succ i1, ?_⟩
    rw [List.findIdx?_cons, i2]
    rfl
theorem g_tup (S : Sx Z M c X Wx) {es : List Expr} {ts : List Tg} {k : Nat} (hs : es.all notStar = true) (hl : es.length = ts.length) (h : PGs X es (tGs Z M ts)) : PG X (.Tuple es k pos) (tG Z M (.t ts)) := by
  refine ⟨fun pins s σ H v u Q I r ⟨W, s0, f, d, rs, rf, rd, po⟩ => ?_⟩
  obtain ⟨n1, n2⟩ := assign_none (env := X.env) hs
  replace po : Po Z noE W H (match rowOf s0 d with
    | some ds => cond (Nat.beq ds.length ts.length) (asgs M ts ds f s0) .bad
    | none => .bad) (RFt Z (tsslots ts) σ) Q := po
  split at po
  · rename_i ds hd
    cases hb : Nat.beq ds.length ts.length with
    | false => rw [hb] at po; exact po.elim
    | true =>
      rw [hb] at po
      replace po : Po Z noE W H (asgs M ts ds f s0) (RFt Z (tsslots ts) σ) Q := po
      have hb := Nat.eq_of_beq_eq_true hb
      unfold rowOf at hd
      split at hd
      · cases hd
        obtain ⟨p, vs, ev, h1, h2⟩ := rd
        exact (pg_tup S.fx.calm h n1 n2).run pins s σ H v u Q I r ⟨p, vs, ev, by rw [S.fx.K]; exact h1, by rw [h2.length, hb, hl], W, s0, f, _, rs, rf, h2, po⟩
      · cases hd
        obtain ⟨p, vs, ev, h1, h2⟩ := rd
        exact (pg_unl S.fx.calm h n1 n2).run pins s σ H v u Q I r ⟨p, vs, ev, by rw [S.fx.K]; exact h1.l, by rw [h2.length, hb, hl], W, s0, f, _, rs, rf, h2, po⟩
      · split at hd
        · rename_i hx
          cases hd
          obtain ⟨hn, ev⟩ := rd
          obtain ⟨vs, t1, t2⟩ := rs.cell hx
          exact (pg_unl S.fx.calm h n1 n2).run pins s σ H v u Q I r ⟨_, vs, ev, .of t1, by rw [t2.length, hb, hl], W, s0, f, _, rs, rf, t2, po⟩
        · cases hd
      · cases hd
  · exact po.elim
theorem RDs.setAt {W : Wd} {H : Hp} {d : D} {v : V} : ∀ {ds : List D} {vs : List V} (n : Nat), RDs Z W H ds vs → RD Z W H d v → RDs Z W H (ds.set n d) (vs.set n v)
  | [], _, _, h, _ => by
    obtain rfl := (show _ = [] from h)
    exact rfl
  | e :: es, _, 0, ⟨w, r, rfl, h1, h2⟩, q => ⟨v, r, rfl, q, h2⟩
  | e :: es, _, n + 1, ⟨w, r, rfl, h1, h2⟩, q => ⟨w, _, rfl, h1, RDs.setAt n h2 q⟩
theorem RKs.keys {W : Wd} {H : Hp} : ∀ {kvs : List (D × D)} {gs : List (Key × V)}, RKs Z W H kvs gs → gs.length = kvs.length
  | [], _, h => by rw [show _ = [] from h]; rfl
  | (k, d) :: r, _, ⟨q, v, t, e, _, _, h⟩ => by rw [e]; exact congrArg Nat.succ (RKs.keys h)
theorem RKs.append {W : Wd} {H : Hp} : ∀ {ds es : List (D × D)} {vs ws : List (Key × V)}, RKs Z W H ds vs → RKs Z W H es ws → RKs Z W H (ds ++ es) (vs ++ ws)
  | [], _, _, _, h, q => by rw [show _ = [] from h]; exact q
  | (k, d) :: ds, _, _, _, ⟨p, v, r, e, h0, h1, h2⟩, q => ⟨p, v, _, by rw [e]; rfl, h0, h1, RKs.append h2 q⟩
theorem RKs.any {W : Wd} {H : Hp} {p : PyData} {q : Key} (hk : ∀ k' q', keyV k' = some q' → keyEq p k' = decide (q' = q)) : ∀ {kvs : List (D × D)} {gs : List (Key × V)}, RKs Z W H kvs gs → dhas p kvs = gs.any fun kv => decide (kv.1 = q)
  | [], _, h => by rw [show _ = [] from h]; rfl
  | (k, d) :: r, _, ⟨q', v, t, e, h0, h1, h2⟩ => by
    subst e
    show (keyEq p k || dhas p r) = _
    rw [hk k q' h0, RKs.any hk h2]
    rfl
theorem RKs.put {W : Wd} {H : Hp} {p : PyData} {q : Key} {k d : D} {v : V} (hk : ∀ k' q', keyV k' = some q' → keyEq p k' = decide (q' = q)) (e : keyV k = some q) (rd : RD Z W H d v) {kvs : List (D × D)} {gs : List (Key × V)} (h : RKs Z W H kvs gs) : RKs Z W H (dput p k d kvs) (putK gs q v) := by
  unfold dput putK
  rw [RKs.any hk h]
  cases (gs.any fun kv => decide (kv.1 = q)) with
  | false =>
    rw [if_neg Bool.false_ne_true]
    exact RKs.append h ⟨q, v, [], rfl, e, rd, rfl⟩
  | true =>
    rw [if_pos rfl]
    show RKs Z W H (dset p d kvs) _
    clear e
    induction kvs generalizing gs with
    | nil => rw [show gs = [] from h]; rfl
    | cons x r ih =>
      obtain ⟨k', d'⟩ := x
      obtain ⟨q', v', t, rfl, h0, h1, h2⟩ := h
      have ih := ih h2
      by_cases hq : q' = q
      · refine ⟨q', v, _, ?_, h0, ?_, ih⟩
        · rw [List.map_cons]
          simp only [hq, if_true]
        · rw [hk k' q' h0, decide_eq_true hq]
          exact rd
      · refine ⟨q', v', _, ?_, h0, ?_, ih⟩
        · rw [List.map_cons]
          simp only [hq, if_false]
        · rw [hk k' q' h0, decide_eq_false hq]
          exact h1
/-- o[i] = v, by values -/
def rSt (Z : Zn) : TSet := fun o i v H Q => ∃ W s a b d, RS Z W s H ∧ RD Z W H a o ∧ RD Z W H b i ∧ RD Z W H d v ∧ Po Z noE W H (stD a b d s) (fun _ _ (_ : Unit) (_ : Unit) => True) (fun _ H' => Q H')
theorem st_sim {gl : List (Str × Gv)} (F : Fx Z M gl X) : PSet X (rSt Z) := by
  intro pins s σ H o i v ov iv u Q I ro ri rv ⟨W, s0, a, b, d, rs, ra, rb, rd, po⟩
  unfold stD at po
  split at po
  · rename_i n
    obtain ⟨hn, rfl⟩ := ra
    split at po
    · rename_i ds hx
      obtain ⟨vs, t1, t2⟩ := rs.cell hx
      split at po
      · rename_i k
        obtain rfl : i = .int k := rb
        split at po
        · rename_i j hj
          refine set_list pins s σ H _ _ _ ov iv u Q I ro ri rv ⟨_, vs, k, j, rfl, rfl, t1, ?_, ?_⟩
          · rw [t2.length]
            exact hj
          · exact po _ _ () (ex_put hn) (rs.put hn ⟨_, upd_same, RDs.setAt j (RDs.mono (tk_put (rs.cell hx).soft) _ t2) (RD.mono (tk_put (rs.cell hx).soft) _ rd)⟩) trivial
        · exact po.elim
      · exact po.elim
    · rename_i kvs hx
      obtain ⟨gs, t1, t2⟩ := rs.cell hx
      split at po
      · rename_i p hp
        obtain ⟨q, hq, hk⟩ := key_keyV hp
        obtain rfl := keyV_rel hq rb
        cases hl : Nat.blt kvs.length SZ with
        | false => rw [hl] at po; exact po.elim
        | true =>
          rw [hl] at po
          refine set_dict (by have := F.hu; omega) pins s σ H _ _ _ ov iv u Q I ro ri rv ⟨_, _, rfl, DPut.k t1 ?_, ?_⟩
          · rw [t2.keys, ← SZ_eq]
            simpa [Nat.blt_eq] using hl
          · exact po _ _ () (ex_put hn) (rs.put hn ⟨_, upd_same, RKs.put hk hq (RD.mono (tk_put (rs.cell hx).soft) _ rd) (RKs.mono (tk_put (rs.cell hx).soft) _ t2)⟩) trivial
      · exact po.elim
    · exact po.elim
  · exact po.elim
theorem Po.ofNox {α β : Type} {Ew : XK} {W : Wd} {H : Hp} {r : TR.R α} {rel : Rel α β} {Q : β → Hp → Prop} (h : Po Z noE W H (TR.R.nox r) rel Q) : Po Z Ew W H r rel Q := by
  cases r with
  | ok a s => exact h
  | ex e s => exact h.elim
  | bad => exact h
theorem nox_ok {α : Type} {r : TR.R α} {a : α} {s : Sto} (h : TR.R.nox r = .ok a s) : r = .ok a s := by
  cases r <;> first | exact h | cases h
theorem g_sub (S : Sx Z M c X Wx) {o i : Expr} {eo ei : E} (ho : PP Z M X Wx o eo) (hi : PP Z M X Wx i ei) (hp : plainIx i = true) : PG X (.Subscript o i pos) (tG Z M (.s eo ei)) := by
  have ha : ∀ v, assign (.Subscript o i pos) X.env v = (do
      let ov ← holding [v] (eval o X.env)
      let iv ← holding [v, ov] (eval i X.env)
      standAt pos
      holding [v, ov, iv] (setItem ov iv v)
      release [v, ov, iv] []) := by
    intro v
    cases i <;> first | rfl | cases hp
  refine pgI (pg_sub ho.pe hi.pe (st_sim S.fx) ha) fun x σ H Q ⟨W, s, f, d, rs, rf, rd, po⟩ => ?_
  replace po : Po Z noE W H ((TR.R.nox (ev M eo f s)).bind fun x s => (TR.R.nox (ev M ei f s)).bind fun y s => (stD x y d s).bind fun _ s => .ok f s) (RFt Z [] σ) Q := po
  refine ⟨W, s, f, rs, rf, Po.imp (Po.ofNox (Po.bind (rel1 := RD Z) po)) fun W' s' H' a b e x r q => ⟨q, fun ⟨W1, s1, a1, e1, x1, r1, q1, po1⟩ => ?_⟩⟩
  refine ⟨W1, s1, f, r1, rf.mono (x1.tk rs), Po.imp (Po.ofNox (Po.bind (rel1 := RD Z) po1)) fun W' s' H' a b e x r q => ⟨q, fun ⟨W2, s2, a2, e2, x2, r2, q2, po2⟩ => ?_⟩⟩
  refine ⟨W2, s2, a1, a2, d, r2, RD.mono (x2.tk r1) _ q1, q2, RD.mono (x2.tk r1) _ (RD.mono (x1.tk rs) _ rd), Po.imp (Po.bind (rel1 := fun _ _ (_ : Unit) (_ : Unit) => True) po2) fun W' s' H' a b e x r q => ⟨q, fun ⟨W3, s3, a3, e3, x3, r3, q3, po3⟩ => ?_⟩⟩
  exact Po.ok po3 r3 ⟨((rf.mono (x1.tk rs)).mono (x2.tk r1)).mono (x3.tk r2), Keep.refl⟩
end
end TR
set_option autoImplicit false
set_option linter.all false
set_option maxRecDepth 100000
/-! Comprehensions. -/
namespace TR
open PySem PySem.Spec PyProof.Rows L2
section
variable {Z : Zn} {M : Sem} {c : Cc} {X : Cx} {Wx : WX} {pos : Pos}
abbrev noW : WX := fun _ _ _ _ => False
def Cc.blk (c : Cc) (scope : Scope) : Cc := ⟨c.N, relS scope c.sc, c.gl, fun x => scope.names.lookup x == some .cell, c.kw, false⟩
theorem Sx.blk (S : Sx Z M c X Wx) (s : Shared) (H : Hp) (scope : Scope) (C : Addr) (cl : List (Str × Addr)) (fp : List Addr) : Sx Z M (c.blk scope) (X.blk s H scope (compEnvC scope cl C X.env) fp) noW := by
  refine ⟨⟨S.fx.K, S.fx.calm, S.fx.hu, S.fx.hd, S.fx.nd, S.fx.fn, fun f h => ?_, S.fx.con, S.fx.gd, S.fx.gdo, S.fx.blt, S.fx.exc, S.fx.xcc, S.fx.xcm, S.fx.gds⟩, S.N, ?_, ?_, fun x h => h, S.kw, fun h => nomatch h⟩
  · obtain ⟨k, fd, ps, h1, h2, h3, h4, h5⟩ := (S.fx.pr f h).ex
    exact ⟨k, fd, ps, h1, h2, h3, h4, h5⟩
  · show relS scope X.env.scope = relS scope c.sc
    rw [S.sc]
  · rintro u s' ⟨_, _, _, _, _, _, _, _, _, _, _, _, _, _, _, _, w⟩
    exact w.elim
/-- the tests of a clause -/
def tTs (Z : Zn) (M : Sem) (es : List E) : TT := fun σ H Q => ∃ W s f, RS Z W s H ∧ RF Z W H f σ ∧ Po Z noE W H (evt M es f s) RB Q
theorem ptsI {e : List Expr} {t u : TT} (h : PTs X e t) (i : ∀ σ H Q, u σ H Q → t σ H Q) : PTs X e u := ⟨fun pins s σ H Q I q => h.run pins s σ H Q I (i σ H Q q)⟩
theorem ts_nil : PTs X [] (tTs Z M []) := ptsI pts_nil fun σ H Q ⟨W, s, f, rs, rf, po⟩ => Po.ok (a := true) po rs rfl
theorem ts_one {a : Expr} {e : E} (h : PT X a (tT Z M noW e)) : PTs X [a] (tTs Z M [e]) := ptsI (pts_one h) fun σ H Q ⟨W, s, f, rs, rf, po⟩ => ⟨W, s, f, rs, rf, by
  have e1 : evt M [e] f s = tru (ev M e f s) := by
    show ((tru (ev M e f s)).bind fun b s => cond b (.ok true s) (.ok false s)) = _
    cases tru (ev M e f s) with
    | ok b s => cases b <;> rfl
    | ex _ _ => rfl
    | bad => rfl
  rw [e1] at po
  exact po⟩
/-- a row made, not yet the store's -/
def RQ (Z : Zn) (H0 : Hp) : Rel (List D) V := fun W H ds v => ∃ a vs, v = .ref a ∧ H0 a = none ∧ H a = some (.lst vs) ∧ (∀ i, i < W.n → W.ρ i ≠ a) ∧ RDs Z W H ds vs
def tQ (Z : Zn) (M : Sem) (Wx : WX) (q : Sq) : TE := fun σ H Q => ∃ W s f, RS Z W s H ∧ RF Z W H f σ ∧ Po Z (atS Wx σ) W H (evq M q f s) (RQ Z H) Q
theorem R.bind_assoc {α β γ : Type} {r : TR.R α} {k : α → Sto → TR.R β} {l : β → Sto → TR.R γ} : (r.bind k).bind l = r.bind fun a s => (k a s).bind l := by
  cases r <;> rfl
theorem Po.bind0 {α β γ δ : Type} {Ew : XK} {W0 W : Wd} {H0 H : Hp} {r : TR.R α} {k : α → Sto → TR.R β} {rel1 : Rel α γ} {rel : Rel β δ} {Q : δ → Hp → Prop} (h : Po Z Ew W0 H0 (r.bind k) rel Q) (x : Ex W0 H0 W H) :
    Po Z Ew W H r rel1 (fun g H' => ∃ W' s' a, r = .ok a s' ∧ Ex W H W' H' ∧ RS Z W' s' H' ∧ rel1 W' H' a g ∧ Po Z Ew W0 H0 (k a s') rel Q) := by
  cases r with
  | ok a s' => exact fun W' H' b y q1 q2 => ⟨W', s', a, rfl, y, q1, q2, h⟩
  | ex e s' => exact Po.later (r := TR.R.ex (α := α) e s') (rel := rel1) (Q := fun _ _ => True) h x
  | bad => exact h
theorem Po.map {α β δ : Type} {Ew : XK} {W : Wd} {H : Hp} {r : TR.R α} {g : α → β} {rel : Rel β δ} {Q : δ → Hp → Prop} (h : Po Z Ew W H (r.bind fun a s => .ok (g a) s) rel Q) : Po Z Ew W H r (fun W' H' a b => rel W' H' (g a) b) Q := by
  cases r <;> exact h
theorem Ex.out {W W' : Wd} {H H' : Hp} {a : Addr} {o : HO} (x : Ex W H W' H') (h : ∀ i, i < W.n → W.ρ i ≠ a) (e : H a = some o) : (∀ i, i < W'.n → W'.ρ i ≠ a) ∧ H' a = some o := by
  refine ⟨fun i hi q => ?_, x.kp a o e h⟩
  by_cases h1 : i < W.n
  · rw [x.ρ i h1] at q
    exact h i h1 q
  · have := x.new i (Nat.not_lt.mp h1) hi
    rw [q, e] at this
    cases this
theorem Ex.mod {W W' : Wd} {H H' : Hp} {a : Addr} {o : HO} (x : Ex W H W' H') (h : H a = none) : Ex W H W' (upd H' a o) := by
  refine ⟨x.le, x.ρ, x.new, fun b ob e n => ?_, fun b e => ?_⟩
  · have hb : b ≠ a := fun z => by rw [z, h] at e; cases e
    rw [upd_ne hb]
    exact x.kp b ob e n
  · by_cases hb : b = a
    · rw [hb, upd_same]
      exact Option.some_ne_none _
    · rw [upd_ne hb]
      exact x.th b e
theorem RS.mod {W : Wd} {H : Hp} {s : Sto} {a : Addr} {o : HO} (r : RS Z W s H) (hs : Soft (H a)) (h : ∀ i, i < W.n → W.ρ i ≠ a) : RS Z W s (upd H a o) := by
  refine ⟨r.n, r.inj, fun i hi => ?_, r.lt⟩
  obtain ⟨c, e, q⟩ := r.has i hi
  exact ⟨c, e, q.mono (tk_put hs) (upd_ne (h i hi))⟩
theorem soft_lst {H : Hp} {a : Addr} {vs : List V} (e : H a = some (.lst vs)) : Soft (H a) := ⟨fun _ q => (nomatch e.symm.trans q), fun _ _ q => (nomatch e.symm.trans q)⟩
theorem RS.free {W : Wd} {H : Hp} {s : Sto} {a : Addr} (r : RS Z W s H) (h : H a = none) : ∀ i, i < W.n → W.ρ i ≠ a := fun i hi e => by
  obtain ⟨c, _, q⟩ := r.has i hi
  obtain ⟨u, q⟩ := q.isome
  rw [e, h] at q
  cases q
theorem RF.wipe {W : Wd} {H : Hp} {f : Fr} {σ : L2.St} (r : RF Z W H f σ) : ∀ w : List Nat, RF Z W H (TR.wipe f w) (L2.wipe σ w)
  | [] => r
  | v :: vs => (RF.wipe r vs).unset v
theorem wipe_keep {w : List Nat} {σ σ' : L2.St} (k : Keep w (L2.wipe σ w) σ') : L2.wipe σ' w = L2.wipe σ w := by
  have ev : ∀ (vs : List Nat) (σ : L2.St) (i : Nat), i ∈ vs → i < σ.length → (L2.wipe σ vs)[i]? = some none := by
    intro vs
    induction vs with
    | nil => intro σ i h; cases h
    | cons v vs ih =>
      intro σ i h hi
      show ((L2.wipe σ vs).set v none)[i]? = some none
      by_cases e : v = i
      · subst e
        rw [List.getElem?_set_self (by rw [wipe_length]; exact hi)]
      · rw [List.getElem?_set_ne e]
        rcases List.mem_cons.mp h with z | z
        · exact absurd z.symm e
        · exact ih σ i z hi
  apply List.ext_getElem?
  intro i
  by_cases h : i ∈ w
  · by_cases hi : i < σ.length
    · rw [ev w σ' i h (by rw [k.1, wipe_length]; exact hi), ev w σ i h hi]
    · rw [List.getElem?_eq_none, List.getElem?_eq_none]
      · rw [wipe_length]; exact Nat.not_lt.mp hi
      · rw [wipe_length, k.1, wipe_length]; exact Nat.not_lt.mp hi
  · rw [wipe_out h]
    exact k.2 i h
theorem Keep.sub {w w' : List Nat} {σ σ' : L2.St} (k : Keep w σ σ') (h : ∀ j ∈ w, j ∈ w') : Keep w' σ σ' := ⟨k.1, fun j hj => k.2 j fun m => hj (h j m)⟩
def bodyC (M : Sem) (x : E) (t : Tg) (w : List Nat) (cs : List E) (f : Fr) : D → Sto → TR.R (Option D) := fun d s => (asg M t d (TR.wipe f w) s).bind fun g s => (TR.R.nox (evt M cs g s)).bind fun b s =>
      cond b ((TR.R.nox (ev M x g s)).bind fun y s => .ok (some y) s) (.ok none s)
theorem tQ_lc {x : E} {t : Tg} {w : List Nat} {i : It} {cs : List E} {σ : L2.St} {H : Hp} {Q : VK} (hw : ∀ j ∈ tslots t, j ∈ w) (h : tQ Z M Wx (.comp x t w i cs) σ H Q) : tLc (tI Z M Wx i) (tG Z M t) (tTs Z M cs) (tE Z M noW x) w σ H Q := by
  obtain ⟨W, s, f, rs, rf, po⟩ := h
  replace po : Po Z (atS Wx σ) W H ((evi M i f s).bind fun p s => loopC (nxt p.1) (bodyC M x t w cs f) 0 p.2 s) (RQ Z H) Q := po
  refine ⟨W, s, f, rs, rf, Po.imp (Po.bind (rel1 := ItR Z) po) fun W9 s9 H1 a9 J e9 x9 r9 q => ⟨q, fun ⟨W1, s1, p, e1, x1, r1, ⟨ok, hm⟩, po1⟩ => ?_⟩⟩
  intro D hD
  have hDH : H D = none := by
    cases e : H D with
    | none => rfl
    | some o => exact absurd hD (x1.th D (by rw [e]; exact Option.some_ne_none _))
  have rf1 := rf.mono (x1.tk rs)
  refine ⟨fun i m H' => ∃ W2 s2 acc vs, Ex W1 H1 W2 H' ∧ RS Z W2 s2 H' ∧ (∀ j, j < W2.n → W2.ρ j ≠ D) ∧ H' D = some (.lst vs) ∧ RDs Z W2 H' acc vs ∧ acc.length ≤ i ∧ i + m ≤ SZ ∧
    Po Z (atS Wx σ) W1 H1 (loopC (nxt p.1) (bodyC M x t w cs f) i m s2) (fun W' H' xs v => RQ Z H W' H' (acc ++ xs) v) Q, ⟨p.2, W1, s1, [], [], ex_lay hD, r1.lay hD, r1.free hD, upd_same, rfl, Nat.le_refl _, by rw [Nat.zero_add]; exact hm, po1⟩, ?_⟩
  rintro i m H2 ⟨W2, s2, acc, vs, x2, r2, out, eD, racc, hl, him, po2⟩
  have ok2 := ok i W2 s2 H2 (x2.tk r1) r2
  cases hn : nxt p.1 i s2 with
  | none =>
    unfold loopC at po2
    rw [hn] at po2
    exact po2.elim
  | some z =>
    cases z with
    | none =>
      unfold loopC at po2
      rw [hn] at po2
      refine .inl ⟨ok2.1 hn, Po.ok' po2 x2 r2 ⟨D, vs, rfl, hDH, eD, out, ?_⟩⟩
      rw [List.append_nil]
      exact racc
    | some d =>
      cases m with
      | zero =>
        unfold loopC at po2
        rw [hn] at po2
        exact po2.elim
      | succ m =>
        unfold loopC at po2
        rw [hn] at po2
        obtain ⟨go, yl⟩ := ok2.2 d hn
        refine .inr ⟨go, fun H' => ∃ W2 s2 acc vs, Ex W1 H1 W2 H' ∧ RS Z W2 s2 H' ∧ (∀ j, j < W2.n → W2.ρ j ≠ D) ∧ H' D = some (.lst vs) ∧ RDs Z W2 H' acc vs ∧ acc.length ≤ i + 1 ∧ i + 1 + m ≤ SZ ∧
          Po Z (atS Wx σ) W1 H1 (loopC (nxt p.1) (bodyC M x t w cs f) (i + 1) m s2) (fun W' H' xs v => RQ Z H W' H' (acc ++ xs) v) Q, fun H' h => ⟨m, Nat.lt_succ_self m, h⟩, fun v H3 yv => ?_⟩
        obtain ⟨x3, r3, q3⟩ := yl v H3 yv
        replace po2 : Po Z (atS Wx σ) W1 H1 (((asg M t d (TR.wipe f w) s2).bind fun g s => (TR.R.nox (evt M cs g s)).bind fun b s =>
          cond b ((TR.R.nox (ev M x g s)).bind fun y s => .ok (some y) s) (.ok none s)).bind fun u s1 => (loopC (nxt p.1) (bodyC M x t w cs f) (i + 1) m s1).bind fun xs s2 => .ok (match u with
            | some x => x :: xs
            | none => xs) s2) (fun W' H' xs v => RQ Z H W' H' (acc ++ xs) v) Q := po2
        rw [R.bind_assoc] at po2
        have x13 := x2.trans x3
        have tk3 := x13.tk r1
        refine ⟨W2, s2, TR.wipe f w, d, r3, (rf1.mono tk3).wipe w, q3, Po.imp (Po.noex (noex_asg _ _ _ _) (Po.bind0 (rel1 := RFt Z (tslots t) (L2.wipe σ w)) po2 x13)) fun W9 s9 H4 a9 σ4 e9 x9 r9 q => ⟨q, fun ⟨W4, s4, g, e4, x4, r4, ⟨f4, k4⟩, po4⟩ => ?_⟩⟩
        refine ⟨wipe_keep (k4.sub hw), ?_⟩
        rw [R.bind_assoc] at po4
        have x14 := x13.trans x4
        obtain ⟨out3, eD3⟩ := x3.out out eD
        obtain ⟨out4, eD4⟩ := x4.out out3 eD3
        refine ⟨W4, s4, g, r4, f4, Po.imp (Po.ofNox (Po.noex NoEx.nox (Po.bind0 (rel1 := RB) po4 x14))) fun W9 s9 H5 a9 b e9 x9 r9 q => ⟨q, fun ⟨W5, s5, b', e5, x5, r5, eb, po5⟩ => ?_⟩⟩
        obtain rfl : b' = b := eb
        have x15 := x14.trans x5
        obtain ⟨out5, eD5⟩ := x5.out out4 eD4
        have racc5 : RDs Z W5 H5 acc vs := RDs.mono (x5.tk r4) _ (RDs.mono (x4.tk r3) _ (RDs.mono (x3.tk r2) _ racc))
        cases b' with
        | false =>
          rw [if_neg Bool.false_ne_true]
          replace po5 : Po Z (atS Wx σ) W1 H1 ((loopC (nxt p.1) (bodyC M x t w cs f) (i + 1) m s5).bind fun xs s2 => .ok xs s2) (fun W' H' xs v => RQ Z H W' H' (acc ++ xs) v) Q := po5
          exact ⟨W5, s5, acc, vs, x15, r5, out5, eD5, racc5, Nat.le_succ_of_le hl, by omega, Po.map (g := fun xs => xs) (rel := fun W' H' xs v => RQ Z H W' H' (acc ++ xs) v) po5⟩
        | true =>
          rw [if_pos rfl]
          replace po5 : Po Z (atS Wx σ) W1 H1 (((TR.R.nox (ev M x g s5)).bind fun y s => .ok (some y) s).bind fun u s1 => (loopC (nxt p.1) (bodyC M x t w cs f) (i + 1) m s1).bind fun xs s2 => .ok (match u with
            | some x => x :: xs
            | none => xs) s2) (fun W' H' xs v => RQ Z H W' H' (acc ++ xs) v) Q := po5
          rw [R.bind_assoc] at po5
          refine ⟨W5, s5, g, r5, f4.mono (x5.tk r4), Po.imp (Po.ofNox (Po.noex NoEx.nox (Po.bind0 (rel1 := RD Z) po5 x15))) fun W9 s9 H6 a9 yv e9 x9 r9 q => ⟨q, fun ⟨W6, s6, y, e6, x6, r6, q6, po6⟩ => ?_⟩⟩
          obtain ⟨out6, eD6⟩ := x6.out out5 eD5
          have x16 := x15.trans x6
          have racc6 := RDs.mono (x6.tk r5) _ racc5
          replace po6 : Po Z (atS Wx σ) W1 H1 ((loopC (nxt p.1) (bodyC M x t w cs f) (i + 1) m s6).bind fun xs s2 => .ok (y :: xs) s2) (fun W' H' xs v => RQ Z H W' H' (acc ++ xs) v) Q := po6
          refine ⟨vs, eD6, by rw [racc6.length, ← SZ_eq]; omega, ?_⟩
          have sf := soft_lst eD6
          refine ⟨W6, s6, acc ++ [y], vs ++ [yv], x16.mod hD, r6.mod sf out6, out6, upd_same, RDs.mono (tk_put sf) _ (RDs.append racc6 ⟨yv, [], rfl, q6, rfl⟩), by rw [List.length_append]; exact Nat.succ_le_succ hl, by omega, ?_⟩
          refine Po.imp (Po.map (g := fun xs => y :: xs) (rel := fun W' H' xs v => RQ Z H W' H' (acc ++ xs) v) po6) fun W' s' H' a b e x r q => ⟨?_, id⟩
          rw [List.append_assoc] at q
          exact q
theorem s_lc (S : Sx Z M c X Wx) {elt tg iter : Expr} {ifs : List Expr} {scope : Scope} {own : List (Str × Nat)} {x : E} {t : Tg} {w : List Nat} {i : It} {cs : List E} (hi : PI X tg iter (tI Z M Wx i)) (hb : blkC c.N c.sc scope own = true) (hw : own.map (·.2) = w) (hw2 : ∀ j ∈ tslots t, j ∈ w)
    (hg : ∀ (X : Cx), Sx Z M (c.blk scope) X noW → PG X tg (tG Z M t)) (ht : ∀ (X : Cx), Sx Z M (c.blk scope) X noW → PTs X ifs (tTs Z M cs)) (he : ∀ (X : Cx), Sx Z M (c.blk scope) X noW → PE X elt (tE Z M noW x)) (hs : ∀ (env : Env) (x : Value), foldedSetIterable iter env x = pure x) :
    PE X (.ListComp elt [⟨tg, iter, ifs, 0⟩] scope pos) (tQ Z M Wx (.comp x t w i cs)) := by
  subst hw
  have ok : BlkOk X.N X.env.scope scope own := by rw [S.N, S.sc]; exact blkOk_by hb
  exact peI (pe_lc S.fx.calm S.fx.nd hi ok (fun s H C cl fp => hg _ (S.blk s H scope C cl fp)) (fun s H C cl fp => ht _ (S.blk s H scope C cl fp)) (fun s H C cl fp => he _ (S.blk s H scope C cl fp)) (hs X.env)) fun σ H Q h => tQ_lc hw2 h
/-! ### a row made becomes the store's -/
theorem adopt {W0 W1 : Wd} {H0 H1 : Hp} {s1 : Sto} {ds : List D} {v : V} (x : Ex W0 H0 W1 H1) (r : RS Z W1 s1 H1) (q : RQ Z H0 W1 H1 ds v) : ∃ W', Ex W0 H0 W' H1 ∧ RS Z W' (s1.new (.lst ds)) H1 ∧ RD Z W' H1 (D.ref s1.next) v := by
  obtain ⟨a, vs, rfl, h0, e, out, rr⟩ := q
  have tk : Tk W1 H1 (W1.new a) H1 := ⟨Nat.le_succ _, fun i h => Wd.new_old h, fun _ _ _ e => e⟩
  refine ⟨W1.new a, ⟨Nat.le_succ_of_le x.le, fun i h => (Wd.new_old (Nat.lt_of_lt_of_le h x.le)).trans (x.ρ i h), fun i h1 h2 => ?_, x.kp, x.th⟩, ?_, ?_⟩
  · rcases Nat.lt_succ_iff_lt_or_eq.mp h2 with h | rfl
    · rw [Wd.new_old h]
      exact x.new i h1 h
    · rw [Wd.new_at]
      exact h0
  · refine ⟨congrArg Nat.succ r.n, fun i j hi hj e => ?_, fun i hi => ?_, fun i c' e => ?_⟩
    · rcases Nat.lt_succ_iff_lt_or_eq.mp hi with hi' | rfl <;> rcases Nat.lt_succ_iff_lt_or_eq.mp hj with hj' | rfl
      · rw [Wd.new_old hi', Wd.new_old hj'] at e
        exact r.inj i j hi' hj' e
      · rw [Wd.new_old hi', Wd.new_at] at e
        exact absurd e (out i hi')
      · rw [Wd.new_old hj', Wd.new_at] at e
        exact absurd e.symm (out j hj')
      · rfl
    · rcases Nat.lt_succ_iff_lt_or_eq.mp hi with hi' | rfl
      · obtain ⟨c', e', hc'⟩ := r.has i hi'
        refine ⟨c', ?_, ?_⟩
        · rw [look_new, if_neg (by rw [← r.n]; exact (Nat.ne_of_lt hi').symm)]
          exact e'
        · rw [Wd.new_old hi']
          exact hc'.mono tk rfl
      · refine ⟨.lst ds, ?_, ?_⟩
        · rw [look_new, if_pos r.n.symm]
        · rw [Wd.new_at]
          exact ⟨vs, e, RDs.mono tk _ rr⟩
    · rw [look_new] at e
      by_cases h : s1.next = i
      · show i < W1.n + 1
        rw [r.n, h]
        exact Nat.lt_succ_self _
      · rw [if_neg h] at e
        exact Nat.lt_succ_of_lt (r.lt i c' e)
  · refine ⟨?_, ?_⟩
    · show s1.next < W1.n + 1
      rw [r.n]
      exact Nat.lt_succ_self _
    · rw [← r.n, Wd.new_at]
/-- a row made, as a list -/
theorem tQ_E {q : Sq} {σ : L2.St} {H : Hp} {Q : VK} (h : tE Z M Wx (.comp q) σ H Q) : tQ Z M Wx q σ H Q := by
  obtain ⟨W, s, f, rs, rf, po⟩ := h
  replace po : Po Z (atS Wx σ) W H ((evq M q f s).bind fun ds s => .ok (.ref s.next) (s.new (.lst ds))) (RD Z) Q := po
  refine ⟨W, s, f, rs, rf, ?_⟩
  cases hq : evq M q f s with
  | ok ds s1 =>
    rw [hq] at po
    intro W1 H1 v x r q
    obtain ⟨W', x', r', q'⟩ := adopt x r q
    exact po W' H1 v x' r' q'
  | ex e s1 => rw [hq] at po; exact po
  | bad => rw [hq] at po; exact po
end
end TR
set_option autoImplicit false
set_option linter.all false
set_option maxRecDepth 100000
/-! Comprehensions of a def's own frame whose element (or test) may let an exception out. -/
namespace TR
open PySem PySem.Spec PyProof.Rows L2
/-! ### the frame alone counts -/
theorem note_fr {env env' : Env} (x : env.frame = env'.frame) (e : Value) : noteFrame e env = noteFrame e env' := by
  unfold noteFrame PySem.frameOf
  rw [x]
theorem pass_fr {α : Type} {env env' : Env} (x : env.frame = env'.frame) (t : String) (e : Value) : (PySem.passOn t e env : PySem.Sem α) = PySem.passOn t e env' := by
  unfold PySem.passOn
  rw [x]
section
variable {M : Model} {A : Around} {E₁ : Value → Shared → Prop} {s : Shared} {Z : Obj → Prop} {B : Heap} {env : Env} {outer : List Env} {L a : Addr}
/-- noted by the frame, whatever other flight stood there -/
theorem note_other {fl : Value} {Q : Unit → Shared → Prop} (hZ : HandSPX.Steady Z) (fr : A.frames = some (env :: outer)) (ef : env.frame = some L) (stay : B.StaysIn s.heap) (na : B.get? a = none) (ffr : s.heap.FunFrames B (env :: outer))
    (tz : HandSPX.TracedZ s.heap B a Z fl) (nfl : (fl == rawInt L) = false) (go : ∀ h', HandSPX.HeldZ B (env :: outer) a Z L h' → s.heap.UpToSlots h' → Q () { s with heap := h' }) : wpAny M A (noteFrame (.ref a) env) Q E₁ s := by
  obtain ⟨o, us, T, oT, ts, ga, za, da, u1, bT, Ta, gT, dT, t3⟩ := tz
  have third : 3 < ts.size := (Array.getElem?_eq_some_iff.mp t3).1
  have same : ∀ b, b ≠ T → (s.heap.update T (Obj.mapFields fun x => x.setIfInBounds 3 Value.none)).get? b = s.heap.get? b := fun b n => Heap.get?_update_other _ _ n.symm
  have plain : ∀ b ob, s.heap.get? b = some ob → (∀ z, ob.data ≠ .fields z) → b ≠ T := fun b ob g n q => by
    subst q
    rw [gT] at g
    cases g
    exact n ts dT
  unfold noteFrame
  simp only [ef]
  refine wpAny_bind (wpAny_field ga da u1 ?_)
  rw [if_pos (by simp : (Value.ref T != Value.none) = true)]
  refine wpAny_bind (wpAny_field gT dT t3 ?_)
  rw [if_neg (by rw [nfl]; exact Bool.false_ne_true)]
  refine wpAny_bind (wpAny_setField gT dT third ?_)
  refine HandSPX.wpAny_entryZ hZ fr (ffr.of_keeps fun b ob g n => ⟨ob, by rw [same b (plain b ob g n)]; exact g, rfl⟩) ef (by rw [same a Ta.symm]; exact ga) (fun b ob g => ?_) na da (Array.getElem?_eq_some_iff.mp u1).1 za fun h' k => ?_
  · have n : b ≠ T := fun q => by
      subst q
      rw [bT] at g
      cases g
    show (s.heap.update T _).get? b = _
    rw [same b n]
    exact stay b ob g
  · obtain ⟨k1, k2, k3, k4⟩ := k
    refine go h' ⟨k1, na, k2, k3⟩ fun b ob g n => ?_
    exact k4 b ob (by rw [same b (plain b ob g n)]; exact g) n
end
/-! ### the block's context, its exceptions going on to the def's -/
abbrev blkx (X : Cx) (s : Shared) (H : Hp) (scope : Scope) (ce : Env) (fp : List Addr) : Cx :=
  { X.blk s H scope ce fp with xe := notedBy (model X.prog X.w) X.A ce (CompFails (model X.prog X.w) X.A X.xe ce) }
theorem inv_x {X : Cx} {s3 : Shared} {H3 : Hp} {scope : Scope} {ce : Env} {fp : List Addr} {pins : List (Addr × Obj)} {σ : L2.St} {H : Hp} {s : Shared} (I : L2.Inv (X.blk s3 H3 scope ce fp) pins σ H s) : L2.Inv (blkx X s3 H3 scope ce fp) pins σ H s :=
  ⟨⟨I.ok.mod, I.ok.kind, I.ok.glob, I.ok.blt, I.ok.above, I.ok.inj, I.ok.has, I.ok.cab, I.ok.hd, I.ok.frames, I.ok.stk, I.ok.exf, I.ok.bs, I.ok.bsz, I.ok.noex, I.ok.exfs, I.ok.funs, I.ok.frf⟩, I.os, I.bare, I.base, I.loc, I.cell, I.free, I.freeC, I.pin, I.hok, I.len⟩
theorem inv_b {X : Cx} {s3 : Shared} {H3 : Hp} {scope : Scope} {ce : Env} {fp : List Addr} {pins : List (Addr × Obj)} {σ : L2.St} {H : Hp} {s : Shared} (I : L2.Inv (blkx X s3 H3 scope ce fp) pins σ H s) : L2.Inv (X.blk s3 H3 scope ce fp) pins σ H s :=
  ⟨⟨I.ok.mod, I.ok.kind, I.ok.glob, I.ok.blt, I.ok.above, I.ok.inj, I.ok.has, I.ok.cab, I.ok.hd, I.ok.frames, I.ok.stk, I.ok.exf, I.ok.bs, I.ok.bsz, I.ok.noex, I.ok.exfs, I.ok.funs, I.ok.frf⟩, I.os, I.bare, I.base, I.loc, I.cell, I.free, I.freeC, I.pin, I.hok, I.len⟩
theorem blk_takes {X : Cx} {W : WX} (own : Own X) (tk : Takes X W) {pins : List (Addr × Obj)} {σ : L2.St} {H3 : Hp} {s3 : Shared} {scope : Scope} {cl : List (Str × Addr)} {fp : List Addr} (I3 : L2.Inv X pins σ H3 s3)
    (f3 : ∀ b ∈ fp, FpOk X pins H3 b) : Takes (blkx X s3 H3 scope (compEnvC scope cl s3.heap.objs.size X.env) fp) (fun cls d _ H => W cls d σ H) := by
  rintro u s' ⟨a, B, sI, pinz, σ', H, cls, d, rfl, I, nb, up, sky, na, os, ag, w⟩
  generalize hC : s3.heap.objs.size = C at I nb sky ⊢
  generalize hce : compEnvC scope cl C X.env = ce at I nb sky ⊢
  have cL : ce.locals = C := by rw [← hce]; rfl
  have cF : ce.frame = X.env.frame := by rw [← hce]; rfl
  have frs' : X.A.frames = some (X.env :: X.outer) := by rw [I3.ok.frames, own.st]
  have hHC : H C = none := by
    have z := I.free
    rwa [show (blkx X s3 H3 scope ce fp).env.locals = C from cL] at z
  obtain ⟨mC, nsC, _⟩ := I.loc
  have nsC : sI.heap.Ns C mC := by
    have z : sI.heap.Ns ce.locals mC := nsC
    rwa [cL] at z
  obtain ⟨oC, gC, dC⟩ : ∃ oC, sI.heap.get? C = some oC ∧ ∀ z, oC.data ≠ .fields z := by
    obtain ⟨o, es, ep, g, e, _⟩ := nsC
    exact ⟨o, g, fun z q => by rw [e] at q; cases q⟩
  have Cst : C ∉ frs X.stack := fun hm => by
    obtain ⟨_, o, g, _⟩ := I3.stack.mem hm
    exact absurd (Heap.lt_size g) (by rw [hC]; exact Nat.lt_irrefl _)
  have bC : B.get? C = some oC := nb C oC gC Cst
  have fin : ∀ h1, HandSPX.HeldZ B (X.env :: X.outer) a (Zc cls d) X.env.locals h1 → s'.heap.UpToSlots h1 → CompFails (model X.prog X.w) X.A X.xe ce (.ref a) { s' with heap := h1 } := by
    rintro h1 ⟨st1, nB, ff1, tz1⟩ up1
    have ns1 : h1.Ns C mC := (up.trans up1).ns nsC
    refine ⟨mC, by rw [cL]; exact ns1, fun h' m' _ sb => ?_⟩
    rw [cL] at sb
    have aC : a ≠ C := fun q => by rw [q, bC] at nB; cases nB
    -- the ground without the block's names
    have k0 : ∀ b o, (PySem.W.hideAll B [C]).get? b = some o → B.get? b = some o ∧ b ≠ C := fun b o g => ⟨PySem.W.of_hideAll _ g, fun q => by
      rw [q, PySem.W.hideAll_none [C] (List.mem_singleton.mpr rfl)] at g
      cases g⟩
    have h0 : ∀ b o, (PySem.W.hideAll sI.heap [C]).get? b = some o → sI.heap.get? b = some o ∧ b ≠ C := fun b o g => ⟨PySem.W.of_hideAll _ g, fun q => by
      rw [q, PySem.W.hideAll_none [C] (List.mem_singleton.mpr rfl)] at g
      cases g⟩
    have held : HandSPX.HeldZ (PySem.W.hideAll B [C]) (X.env :: X.outer) a (Zc cls d) X.env.locals h' := by
      refine ⟨fun b o g => ?_, ?_, ?_, ?_⟩
      · obtain ⟨g1, n⟩ := k0 b o g
        rw [sb.2 b n]
        exact st1 b o g1
      · cases q : (PySem.W.hideAll B [C]).get? a with
        | none => rfl
        | some o => exact absurd ((k0 a o q).1.symm.trans nB) nofun
      · have ff : ∀ l : List Env, h1.FunFrames B l → h'.FunFrames (PySem.W.hideAll B [C]) l := by
          intro l
          induction l with
          | nil => exact fun _ => trivial
          | cons e l ih =>
            rintro ⟨hk, ⟨F, o, ef, bF, gF, nd⟩, r⟩
            have n : F ≠ C := fun q => by rw [q, bC] at bF; cases bF
            refine ⟨hk, ⟨F, o, ef, ?_, by rw [sb.2 F n]; exact gF, nd⟩, ih r⟩
            cases q : (PySem.W.hideAll B [C]).get? F with
            | none => rfl
            | some o' => exact absurd ((k0 F o' q).1.symm.trans bF) nofun
        exact ff _ ff1
      · obtain ⟨o, us, T, oT, ts, ga, za, da, u1, bT, Ta, gT, dT, t3⟩ := tz1
        have n : T ≠ C := fun q => by rw [q, bC] at bT; cases bT
        refine ⟨o, us, T, oT, ts, by rw [sb.2 a aC]; exact ga, za, da, u1, ?_, Ta, by rw [sb.2 T n]; exact gT, dT, t3⟩
        cases q : (PySem.W.hideAll B [C]).get? T with
        | none => rfl
        | some o' => exact absurd ((k0 T o' q).1.symm.trans bT) nofun
    have IX : L2.Inv X pins σ H { sI with heap := PySem.W.hideAll sI.heap [C] } := by
      have ub := I.base
      have old : ∀ b o, s3.heap.get? b = some o → b ≠ C := fun b o g => by
        have z := Heap.lt_size g
        rw [hC] at z
        exact Nat.ne_of_lt z
      have hid : ∀ b o, b ≠ C → sI.heap.get? b = some o → (PySem.W.hideAll sI.heap [C]).get? b = some o := fun b o n g => PySem.W.hideAll_get _ g (by simpa using n)
      refine I3.call' (ch := fp) I.os ⟨fun b o g n hb hx => hid b o (old b o g) (ub.keep b o g n hb hx), fun b o g n hb hx => ?_, ub.free, fun b o g hx => ?_, ub.tups, ub.frzs, ub.tbls⟩ (fun b ob q => ?_) I.bare
        fun b hb => ⟨(f3 b hb).2.2.2.1, (f3 b hb).2.1, (f3 b hb).2.2.2.2.1, (f3 b hb).2.2.2.2.2⟩
      · obtain ⟨sl, z⟩ := ub.slot b o g n hb hx
        exact ⟨sl, hid _ _ (old b o g) z⟩
      · obtain ⟨o', z⟩ := ub.there b o g hx
        exact ⟨o', hid _ _ (old b o g) z⟩
      · refine (I.hok b ob q).stay (fun c v hc r => hid c v (fun z => ?_) r) (fun _ r => r) fun _ _ r => r
        rcases hc with hc | hc
        · rw [← hc, z, hHC] at q; cases q
        · rw [z, hHC] at hc; cases hc
    rw [pass_fr cF]
    unfold PySem.passOn
    have held2 := held
    obtain ⟨_, _, _, o, us, T, oT, ts, ga, za, da, u1, _⟩ := held2
    refine wpAny_bind (wpAny_field ga da u1 ?_)
    rw [if_neg (by simp)]
    rw [own.fr]
    refine wpAny_bind (HandSPX.setFlight_onZ held fun h2 held3 up2 => wpAny_throw (tk _ _ ?_))
    refine ⟨a, PySem.W.hideAll B [C], { sI with heap := PySem.W.hideAll sI.heap [C] }, pins, σ, H, cls, d, rfl, IX, fun b ob g hb => ?_, fun b ob g nd => ?_, .inr (.inr (by rw [own.st]; exact held3)), na, os, ag, w⟩
    · obtain ⟨g1, n⟩ := h0 b ob g
      exact PySem.W.hideAll_get _ (nb b ob g1 hb) (by simpa using n)
    · obtain ⟨g1, n⟩ := h0 b ob g
      obtain ⟨sl1, g2⟩ := (up.trans up1) b ob g1 nd
      have g3 : h'.get? b = some { ob with slots := sl1 } := by rw [sb.2 b n]; exact g2
      obtain ⟨sl2, g4⟩ := up2 b _ g3 nd
      exact ⟨sl2, g4⟩
  show wpAny (model X.prog X.w) X.A (noteFrame (.ref a) ce) (fun _ s'' => CompFails (model X.prog X.w) X.A X.xe ce (.ref a) s'') _ s'
  rw [note_fr cF]
  rcases sky with ⟨hB, hn, hl, oe, vs, he, hz, hd, h1⟩ | fl | hd
  · rw [show (blkx X s3 H3 scope ce fp).stack = X.env :: X.outer from own.st] at hl
    exact HandSPX.look_newZ Zc.steady frs' hl own.fr he hB hn hd h1 hz fin
  · rw [show (blkx X s3 H3 scope ce fp).stack = X.env :: X.outer from own.st] at fl
    exact HandSPX.looks_onZ Zc.steady frs' own.fr fl fin
  · obtain ⟨k1, k2, k3, k4⟩ := hd
    rw [show (blkx X s3 H3 scope ce fp).stack = X.env :: X.outer from own.st] at k3
    refine note_other Zc.steady frs' own.fr k1 k2 k3 k4 ?_ fin
    have n : C ≠ X.env.locals := by rw [← hC]; exact Nat.ne_of_gt I3.lt
    rw [show (blkx X s3 H3 scope ce fp).env.locals = C from cL]
    simp only [rawInt, beq_eq_false_iff_ne, ne_eq]
    exact fun q => n (by injection q with q; exact Int.ofNat.inj q)
/-- the comprehension as a value -/
theorem pe_lcx {X : Cx} {W : WX} (own : Own X) (tk : Takes X W) {elt tg iter : Expr} {ifs : List Expr} {scope : Scope} {vs : List (Str × Nat)} {pos : Pos} {wi : TI} {g : TG} {tt : L2.St → TT} {te : L2.St → TE} (calm : X.calm = true) (nd : X.N.Nodup) (hi : PI X tg iter wi)
    (ok : BlkOk X.N X.env.scope scope vs)
    (hg : ∀ (s : Shared) (H : Hp) (cl : List (Str × Addr)) (fp : List Addr), PG (blkx X s H scope (compEnvC scope cl s.heap.objs.size X.env) fp) tg g)
    (ht : ∀ (σ : L2.St) (s : Shared) (H : Hp) (cl : List (Str × Addr)) (fp : List Addr), Takes (blkx X s H scope (compEnvC scope cl s.heap.objs.size X.env) fp) (fun cls d _ H => W cls d σ H) → PTs (blkx X s H scope (compEnvC scope cl s.heap.objs.size X.env) fp) ifs (tt σ))
    (he : ∀ (σ : L2.St) (s : Shared) (H : Hp) (cl : List (Str × Addr)) (fp : List Addr), Takes (blkx X s H scope (compEnvC scope cl s.heap.objs.size X.env) fp) (fun cls d _ H => W cls d σ H) → PE (blkx X s H scope (compEnvC scope cl s.heap.objs.size X.env) fp) elt (te σ))
    (hs : ∀ x : Value, foldedSetIterable iter X.env x = pure x) : PE X (.ListComp elt [⟨tg, iter, ifs, 0⟩] scope pos) (fun σ H Q => tLc wi g (tt σ) (te σ) (vs.map (·.2)) σ H Q) := by
  refine ⟨fun pins s σ H Q I h => ?_⟩
  rw [eval_ListComp]
  have caught : ∀ y ∈ scope.names, y.2 = .free → ∃ c, X.env.cells.lookup y.1 = some c := fun y hy e => (ok.free y hy e).elim (fun k => I.ok.has _ (.inl k)) fun k => I.ok.has _ (.inr k)
  refine comprehension_at (use := none) rfl hs (closure_ok caught) ok.kind (fun y hy e => by rw [ok.uniq y hy, e]) (thn (hi.run pins s σ H _ I h) fun xv s1 got => thn got fun itv s2 came => ?_)
  obtain ⟨it, fp, tn, J, H2, rfl, I2, T, t0, f2, q⟩ := came
  refine wpAny_newObj_type (newEnv_comp ?_) (by show 0 ≤ sizeLine; decide)
  have none2 : H2 s2.heap.objs.size = none := I2.hok.fresh (Nat.le_refl _)
  obtain ⟨V, ⟨m0, v0⟩, turn⟩ := q _ none2
  -- the list made
  let s3 : Shared := { s2 with heap := s2.heap.push { cls := .type "list", data := .seq ([] : List Value).toArray } }
  have push3 : ∀ b o, s2.heap.get? b = some o → s3.heap.get? b = some o := fun b o g => Heap.get?_push_of_some _ g
  have I3 : L2.Inv X pins σ (upd H2 s2.heap.objs.size (.lst [])) s3 := I2.laid (t' := s2.toks) push3 (Nat.le_refl _) ⟨Nat.zero_le _, [], 0, .nil, Heap.get?_push_size _ rfl⟩
  have f3 : ∀ b ∈ fp, FpOk X pins (upd H2 s2.heap.objs.size (.lst [])) b ∧ b < s3.heap.objs.size := fun b hb => by
    obtain ⟨o, g, _⟩ := T.obj _ _ t0 b hb
    have lt := Heap.lt_size g
    obtain ⟨n, r⟩ := f2 b hb
    refine ⟨⟨by rw [upd_ne (Nat.ne_of_lt lt)]; exact n, r⟩, ?_⟩
    show b < (s2.heap.push _).objs.size
    rw [Heap.size_push]
    exact Nat.lt_succ_of_lt lt
  have t3 : tn 0 s3.heap := T.keep _ _ _ t0 fun b _ o g => push3 b o g
  have I4' := block_start I3 ok nd f3
  generalize hD : s2.heap.objs.size = D at *
  generalize hH3 : upd H2 D (.lst []) = H3 at *
  generalize hcl : cellsFrom (s3.heap.objs.size + 1) scope.names (cloFrom X.env.cells scope.names []) = cl at *
  have takes := blk_takes (scope := scope) (cl := cl) own tk I3 fun b hb => (f3 b hb).1
  have pg := hg s3 H3 cl fp
  have pt := ht σ s3 H3 cl fp takes
  have pe := he σ s3 H3 cl fp takes
  have cL : (compEnvC scope cl s3.heap.objs.size X.env).locals = s3.heap.objs.size := rfl
  have I4 := inv_x I4'
  have clear : ∀ b ∈ fp, H3 b = none := fun b hb => (f3 b hb).1.1
  show codeAny _ _ (.compStart (.ListComp elt [⟨tg, iter, ifs, 0⟩] scope pos) 0 (.ref it) (.ref D) (compEnvC scope cl s3.heap.objs.size X.env))
    (compEnds (model X.prog X.w) X.A X.xe none (EP X pins σ Q) (.ref D) (compEnvC scope cl s3.heap.objs.size X.env))
    { s3 with heap := pushCells (s3.heap.push { cls := .type "dict", data := .dict #[] }) scope.names }
  generalize hs4 : ({ s3 with heap := pushCells (s3.heap.push { cls := .type "dict", data := .dict #[] }) scope.names } : Shared) = s4 at *
  have t4 : tn 0 s4.heap := T.keep _ _ _ t3 fun b _ o g => by
    rw [← hs4]
    exact pushCells_keeps _ _ _ _ (Heap.get?_push_of_some _ g)
  generalize hce : compEnvC scope cl s3.heap.objs.size X.env = ce at *
  have stay : ∀ {τ : L2.St} {G : Hp} {s' : Shared}, L2.Inv (blkx X s3 H3 scope ce fp) [] τ G s' → (∀ b ∈ fp, G b = none) → ∀ b ∈ fp, FpOk (blkx X s3 H3 scope ce fp) [] G b := fun {τ G s'} J' n b hb =>
    ⟨n b hb, (J'.ok.exf b hb).1, J'.ok.exfs b hb, .inl hb, fun x c e => (J'.ok.exf b hb).2 x c e, fun p hp => absurd (show p ∈ ([] : List (Addr × Obj)) ++ [] from hp) nofun⟩
  have laps : codeAny (model X.prog X.w) X.A (.compLoop (.ListComp elt [⟨tg, iter, ifs, 0⟩] scope pos) 0 (.ref it) (.ref D) ce) (compEnds (model X.prog X.w) X.A X.xe none (EP X pins σ Q) (.ref D) ce) s4 := by
    refine compLoop_any (fun n s' => ∃ i G, L2.Inv (blkx X s3 H3 scope ce fp) [] (L2.wipe σ (vs.map (·.2))) G s' ∧ tn i s'.heap ∧ (∀ b ∈ fp, G b = none) ∧ V i n G) ?_ m0 ⟨0, H3, I4, t4, clear, v0⟩
    rintro n s5 ⟨i, H5, I5, t5, n5, v5⟩
    rcases turn i n H5 v5 with ⟨stop, last⟩ | ⟨goes, Nx, hNx, next⟩
    · refine thnF (T.done (blkx X s3 H3 scope ce fp) rfl rfl rfl calm i [] s5 _ H5 (fun _ _ => False) I5 (stay I5 n5) t5 stop) fun r s6 ⟨hr, I6⟩ => ?_
      subst hr
      have J6 : L2.Inv X pins σ H5 s6 := I3.call' (ch := fp) I6.os I6.base I6.hok I6.bare fun b hb => ⟨(f3 b hb).1.2.2.2.1, (f3 b hb).1.2.1, (f3 b hb).1.2.2.2.2.1, (f3 b hb).1.2.2.2.2.2⟩
      obtain ⟨mm, hn, _⟩ := I6.loc
      have free6 : H5 ce.locals = none := I6.free
      have hn : s6.heap.Ns ce.locals mm := hn
      refine ⟨mm, hn, fun h'' sb => ?_⟩
      rw [cL] at sb free6
      obtain ⟨e0, e1, e2, e3, e4, e5⟩ := I3.fpOk (Nat.le_refl _) free6
      exact ⟨.ref D, H5, J6.turned (t' := s6.toks) (fun b o hb g => (sb.2 b hb).trans g) e0 e1 e3 e4 e5, rfl, last⟩
    · refine thnF (T.item (blkx X s3 H3 scope ce fp) rfl rfl rfl calm i [] s5 _ H5 (fun _ _ => False) I5 (stay I5 n5) t5 goes) fun r s6 ⟨u, hr, h6⟩ => ?_
      subst hr
      refine thnF h6 fun _ s7 ⟨x, H7, I7, r7, y7, t7, n7⟩ => ?_
      have P7 := I7.pinned (stay I7 n7) (T.obj _ _ t7)
      refine wpAny_mono (pg.run _ s7 _ H7 x u _ P7 r7 (next x H7 y7)) (fun _ s8 ⟨σ8, H8, I8, w8, q8⟩ => ?_) fun _ _ z => z
      refine wpAny_mono (pt.run _ s8 σ8 H8 _ I8 q8) (fun b s9 ⟨H9, I9, q9⟩ => ?_) fun _ _ z => z
      have endT : ∀ {s' : Shared} {G : Hp}, L2.Inv (blkx X s3 H3 scope ce fp) ([] ++ pinsAt fp s7.heap) σ8 G s' → Nx G → ∃ m, m < n ∧ ∃ i G, L2.Inv (blkx X s3 H3 scope ce fp) [] (L2.wipe σ (vs.map (·.2))) G s' ∧ tn i s'.heap ∧ (∀ b ∈ fp, G b = none) ∧ V i m G := fun {s' G} I' nx => by
        obtain ⟨m', hm, w'⟩ := hNx G nx
        have pinned : ∀ b ∈ fp, ∀ o, s7.heap.get? b = some o → s'.heap.get? b = some o ∧ G b = none := fun b hb o e =>
          have z := I'.pin (b, o) (List.mem_append_right _ (List.mem_append_right _ (mem_pinsAt hb e)))
          ⟨z.1, z.2.1⟩
        refine ⟨m', hm, i + 1, G, (I'.unpinned (pins := [])).weak (by rw [← w8, wipe_length]) (fun j v e => ?_), T.keep _ _ _ t7 fun b hb o e => (pinned b hb o e).1, fun b hb => ?_, w'⟩
        · rw [← w8] at e
          exact (wipe_some e).1
        · obtain ⟨o, e, _⟩ := T.obj _ _ t7 b hb
          exact (pinned b hb o e).2
      cases b with
      | false =>
        rw [if_neg Bool.false_ne_true] at q9 ⊢
        exact endT I9 q9
      | true =>
        rw [if_pos rfl] at q9 ⊢
        refine wpAny_mono (pe.run _ s9 σ8 H9 _ I9 q9) (fun z s10 ⟨yv, H10, I10, r10, acc, d10, z10, nx⟩ => ?_) fun _ _ z => z
        exact app_ok (X := blkx X s3 H3 scope ce fp) I10 d10 z10 r10 fun s11 I11 => endT I11 nx
  exact codeAny_compStart_list laps (T.self X.A 0 _ _ _ t4 laps)
section
variable {Z : Zn} {M : TR.Sem} {c : Cc} {X : Cx} {Wx : WX} {pos : Pos}
def bodyCR (M : TR.Sem) (x : E) (t : Tg) (w : List Nat) (cs : List E) (f : Fr) : D → Sto → TR.R (Option D) := fun d s => (asg M t d (TR.wipe f w) s).bind fun g s => (TR.R.nox (evt M cs g s)).bind fun b s =>
      cond b ((ev M x g s).bind fun y s => .ok (some y) s) (.ok none s)
theorem tQ_lcR {x : E} {t : Tg} {w : List Nat} {i : It} {cs : List E} {σ : L2.St} {H : Hp} {Q : VK} (hw : ∀ j ∈ tslots t, j ∈ w) (h : tQ Z M Wx (.compR x t w i cs) σ H Q) : tLc (tI Z M Wx i) (tG Z M t) (tTs Z M cs) (tE Z M (fun cls d _ H => Wx cls d σ H) x) w σ H Q := by
  obtain ⟨W, s, f, rs, rf, po⟩ := h
  replace po : Po Z (atS Wx σ) W H ((evi M i f s).bind fun p s => loopC (nxt p.1) (bodyCR M x t w cs f) 0 p.2 s) (RQ Z H) Q := po
  refine ⟨W, s, f, rs, rf, Po.imp (Po.bind (rel1 := ItR Z) po) fun W9 s9 H1 a9 J e9 x9 r9 q => ⟨q, fun ⟨W1, s1, p, e1, x1, r1, ⟨ok, hm⟩, po1⟩ => ?_⟩⟩
  intro D hD
  have hDH : H D = none := by
    cases e : H D with
    | none => rfl
    | some o => exact absurd hD (x1.th D (by rw [e]; exact Option.some_ne_none _))
  have rf1 := rf.mono (x1.tk rs)
  refine ⟨fun i m H' => ∃ W2 s2 acc vs, Ex W1 H1 W2 H' ∧ RS Z W2 s2 H' ∧ (∀ j, j < W2.n → W2.ρ j ≠ D) ∧ H' D = some (.lst vs) ∧ RDs Z W2 H' acc vs ∧ acc.length ≤ i ∧ i + m ≤ SZ ∧
    Po Z (atS Wx σ) W1 H1 (loopC (nxt p.1) (bodyCR M x t w cs f) i m s2) (fun W' H' xs v => RQ Z H W' H' (acc ++ xs) v) Q, ⟨p.2, W1, s1, [], [], ex_lay hD, r1.lay hD, r1.free hD, upd_same, rfl, Nat.le_refl _, by rw [Nat.zero_add]; exact hm, po1⟩, ?_⟩
  rintro i m H2 ⟨W2, s2, acc, vs, x2, r2, out, eD, racc, hl, him, po2⟩
  have ok2 := ok i W2 s2 H2 (x2.tk r1) r2
  cases hn : nxt p.1 i s2 with
  | none =>
    unfold loopC at po2
    rw [hn] at po2
    exact po2.elim
  | some z =>
    cases z with
    | none =>
      unfold loopC at po2
      rw [hn] at po2
      refine .inl ⟨ok2.1 hn, Po.ok' po2 x2 r2 ⟨D, vs, rfl, hDH, eD, out, ?_⟩⟩
      rw [List.append_nil]
      exact racc
    | some d =>
      cases m with
      | zero =>
        unfold loopC at po2
        rw [hn] at po2
        exact po2.elim
      | succ m =>
        unfold loopC at po2
        rw [hn] at po2
        obtain ⟨go, yl⟩ := ok2.2 d hn
        refine .inr ⟨go, fun H' => ∃ W2 s2 acc vs, Ex W1 H1 W2 H' ∧ RS Z W2 s2 H' ∧ (∀ j, j < W2.n → W2.ρ j ≠ D) ∧ H' D = some (.lst vs) ∧ RDs Z W2 H' acc vs ∧ acc.length ≤ i + 1 ∧ i + 1 + m ≤ SZ ∧
          Po Z (atS Wx σ) W1 H1 (loopC (nxt p.1) (bodyCR M x t w cs f) (i + 1) m s2) (fun W' H' xs v => RQ Z H W' H' (acc ++ xs) v) Q, fun H' h => ⟨m, Nat.lt_succ_self m, h⟩, fun v H3 yv => ?_⟩
        obtain ⟨x3, r3, q3⟩ := yl v H3 yv
        replace po2 : Po Z (atS Wx σ) W1 H1 (((asg M t d (TR.wipe f w) s2).bind fun g s => (TR.R.nox (evt M cs g s)).bind fun b s =>
          cond b ((ev M x g s).bind fun y s => .ok (some y) s) (.ok none s)).bind fun u s1 => (loopC (nxt p.1) (bodyCR M x t w cs f) (i + 1) m s1).bind fun xs s2 => .ok (match u with
            | some x => x :: xs
            | none => xs) s2) (fun W' H' xs v => RQ Z H W' H' (acc ++ xs) v) Q := po2
        rw [R.bind_assoc] at po2
        have x13 := x2.trans x3
        have tk3 := x13.tk r1
        refine ⟨W2, s2, TR.wipe f w, d, r3, (rf1.mono tk3).wipe w, q3, Po.imp (Po.noex (noex_asg _ _ _ _) (Po.bind0 (rel1 := RFt Z (tslots t) (L2.wipe σ w)) po2 x13)) fun W9 s9 H4 a9 σ4 e9 x9 r9 q => ⟨q, fun ⟨W4, s4, g, e4, x4, r4, ⟨f4, k4⟩, po4⟩ => ?_⟩⟩
        refine ⟨wipe_keep (k4.sub hw), ?_⟩
        rw [R.bind_assoc] at po4
        have x14 := x13.trans x4
        obtain ⟨out3, eD3⟩ := x3.out out eD
        obtain ⟨out4, eD4⟩ := x4.out out3 eD3
        refine ⟨W4, s4, g, r4, f4, Po.imp (Po.ofNox (Po.noex NoEx.nox (Po.bind0 (rel1 := RB) po4 x14))) fun W9 s9 H5 a9 b e9 x9 r9 q => ⟨q, fun ⟨W5, s5, b', e5, x5, r5, eb, po5⟩ => ?_⟩⟩
        obtain rfl : b' = b := eb
        have x15 := x14.trans x5
        obtain ⟨out5, eD5⟩ := x5.out out4 eD4
        have racc5 : RDs Z W5 H5 acc vs := RDs.mono (x5.tk r4) _ (RDs.mono (x4.tk r3) _ (RDs.mono (x3.tk r2) _ racc))
        cases b' with
        | false =>
          rw [if_neg Bool.false_ne_true]
          replace po5 : Po Z (atS Wx σ) W1 H1 ((loopC (nxt p.1) (bodyCR M x t w cs f) (i + 1) m s5).bind fun xs s2 => .ok xs s2) (fun W' H' xs v => RQ Z H W' H' (acc ++ xs) v) Q := po5
          exact ⟨W5, s5, acc, vs, x15, r5, out5, eD5, racc5, Nat.le_succ_of_le hl, by omega, Po.map (g := fun xs => xs) (rel := fun W' H' xs v => RQ Z H W' H' (acc ++ xs) v) po5⟩
        | true =>
          rw [if_pos rfl]
          replace po5 : Po Z (atS Wx σ) W1 H1 (((ev M x g s5).bind fun y s => .ok (some y) s).bind fun u s1 => (loopC (nxt p.1) (bodyCR M x t w cs f) (i + 1) m s1).bind fun xs s2 => .ok (match u with
            | some x => x :: xs
            | none => xs) s2) (fun W' H' xs v => RQ Z H W' H' (acc ++ xs) v) Q := po5
          rw [R.bind_assoc] at po5
          refine ⟨W5, s5, g, r5, f4.mono (x5.tk r4), Po.imp (Po.bind0 (rel1 := RD Z) po5 x15) fun W9 s9 H6 a9 yv e9 x9 r9 q => ⟨q, fun ⟨W6, s6, y, e6, x6, r6, q6, po6⟩ => ?_⟩⟩
          obtain ⟨out6, eD6⟩ := x6.out out5 eD5
          have x16 := x15.trans x6
          have racc6 := RDs.mono (x6.tk r5) _ racc5
          replace po6 : Po Z (atS Wx σ) W1 H1 ((loopC (nxt p.1) (bodyCR M x t w cs f) (i + 1) m s6).bind fun xs s2 => .ok (y :: xs) s2) (fun W' H' xs v => RQ Z H W' H' (acc ++ xs) v) Q := po6
          refine ⟨vs, eD6, by rw [racc6.length, ← SZ_eq]; omega, ?_⟩
          have sf := soft_lst eD6
          refine ⟨W6, s6, acc ++ [y], vs ++ [yv], x16.mod hD, r6.mod sf out6, out6, upd_same, RDs.mono (tk_put sf) _ (RDs.append racc6 ⟨yv, [], rfl, q6, rfl⟩), by rw [List.length_append]; exact Nat.succ_le_succ hl, by omega, ?_⟩
          refine Po.imp (Po.map (g := fun xs => y :: xs) (rel := fun W' H' xs v => RQ Z H W' H' (acc ++ xs) v) po6) fun W' s' H' a b e x r q => ⟨?_, id⟩
          rw [List.append_assoc] at q
          exact q
theorem Sx.blkx (S : Sx Z M c X Wx) {W : WX} (s : Shared) (H : Hp) (scope : Scope) (C : Addr) (cl : List (Str × Addr)) (fp : List Addr) (tk : Takes (blkx X s H scope (compEnvC scope cl C X.env) fp) W) : Sx Z M (c.blk scope) (blkx X s H scope (compEnvC scope cl C X.env) fp) W := by
  have B := S.blk s H scope C cl fp
  refine ⟨⟨B.fx.K, B.fx.calm, B.fx.hu, B.fx.hd, B.fx.nd, B.fx.fn, fun f h => ?_, B.fx.con, B.fx.gd, B.fx.gdo, B.fx.blt, B.fx.exc, B.fx.xcc, B.fx.xcm, B.fx.gds⟩, B.N, B.sc, tk, B.fnc, B.kw, fun h => nomatch h⟩
  obtain ⟨k, fd, ps, h1, h2, h3, h4, h5⟩ := (B.fx.pr f h).ex
  exact ⟨k, fd, ps, h1, h2, h3, h4, h5⟩
theorem Po.any {α β : Type} {Ew : XK} {W : Wd} {H : Hp} {r : TR.R α} {rel : Rel α β} {Q : β → Hp → Prop} (h : Po Z noE W H r rel Q) : Po Z Ew W H r rel Q := by
  cases r with
  | ok a s => exact h
  | ex e s => exact fun W' H' cls dd x r q => (h W' H' cls dd x r q).elim
  | bad => exact h
theorem ts_oneW {W : WX} {a : Expr} {e : E} (h : PT X a (tT Z M W e)) : PTs X [a] (tTs Z M [e]) := ptsI (pts_one h) fun σ H Q ⟨W, s, f, rs, rf, po⟩ => ⟨W, s, f, rs, rf, Po.any (by
  have e1 : evt M [e] f s = tru (ev M e f s) := by
    show ((tru (ev M e f s)).bind fun b s => cond b (.ok true s) (.ok false s)) = _
    cases tru (ev M e f s) with
    | ok b s => cases b <;> rfl
    | ex _ _ => rfl
    | bad => rfl
  rw [e1] at po
  exact po)⟩
theorem takes_no {X : Cx} : Takes X noW := fun u s' ⟨_, _, _, _, _, _, _, _, _, _, _, _, _, _, _, _, w⟩ => w.elim
theorem s_lcR (S : Sx Z M c X Wx) (own : Own X) {elt tg iter : Expr} {ifs : List Expr} {scope : Scope} {vs : List (Str × Nat)} {x : E} {t : Tg} {w : List Nat} {i : It} {cs : List E} (hi : PI X tg iter (tI Z M Wx i)) (hb : blkC c.N c.sc scope vs = true) (hw : vs.map (·.2) = w) (hw2 : ∀ j ∈ tslots t, j ∈ w)
    (hg : ∀ (X : Cx) (W : WX), Sx Z M (c.blk scope) X W → PG X tg (tG Z M t)) (ht : ∀ (X : Cx) (W : WX), Sx Z M (c.blk scope) X W → PTs X ifs (tTs Z M cs)) (he : ∀ (X : Cx) (W : WX), Sx Z M (c.blk scope) X W → PE X elt (tE Z M W x)) (hs : ∀ (env : Env) (x : Value), foldedSetIterable iter env x = pure x) :
    PE X (.ListComp elt [⟨tg, iter, ifs, 0⟩] scope pos) (tQ Z M Wx (.compR x t w i cs)) := by
  subst hw
  have ok : BlkOk X.N X.env.scope scope vs := by rw [S.N, S.sc]; exact blkOk_by hb
  exact peI (pe_lcx (tt := fun _ => tTs Z M cs) (te := fun σ => tE Z M (fun cls d _ H => Wx cls d σ H) x) own S.tk S.fx.calm S.fx.nd hi ok (fun s H cl fp => hg _ noW (S.blkx s H scope _ cl fp takes_no)) (fun σ s H cl fp tk => ht _ _ (S.blkx s H scope _ cl fp tk)) (fun σ s H cl fp tk => he _ _ (S.blkx s H scope _ cl fp tk)) (hs X.env)) fun σ H Q h => tQ_lcR hw2 h
end
end TR
set_option autoImplicit false
set_option linter.all false
set_option maxRecDepth 100000
/-! Comprehensions of two clauses. -/
namespace TR
open PySem PySem.Spec PyProof.Rows L2
section
variable {Z : Zn} {M : Sem} {c : Cc} {X : Cx} {Wx : WX} {pos : Pos}
def bodyC2 (M : Sem) (x : E) (t : Tg) (w : List Nat) (t2 : Tg) (w2 : List Nat) (i2 : It) (cs : List E) (f : Fr) : D → Sto → TR.R (List D) := fun d s => (asg M t d (TR.wipe f w) s).bind fun g s => (TR.R.nox (evi M i2 g s)).bind fun p s => loopC (nxt p.1) (bodyC M x t2 w2 cs g) 0 p.2 s
def evq2 (M : Sem) (x : E) (t : Tg) (w : List Nat) (i : It) (t2 : Tg) (w2 : List Nat) (i2 : It) (cs : List E) (f : Fr) (s : Sto) : TR.R (List D) :=
  (evi M i f s).bind fun p s => (loopC2 (nxt p.1) (bodyC2 M x t w t2 w2 i2 cs f) 0 p.2 s).bind fun xs s => finC xs s
theorem noex_bodyC {x : E} {t : Tg} {w : List Nat} {cs : List E} {f : Fr} {d : D} {s : Sto} : NoEx (bodyC M x t w cs f d s) :=
  NoEx.bind (noex_asg _ _ _ _) fun _ _ => NoEx.bind NoEx.nox fun _ _ => NoEx.cond (NoEx.bind NoEx.nox fun _ _ => NoEx.ok) NoEx.ok
theorem noex_loopC {nx : Nat → Sto → Option (Option D)} {b : D → Sto → TR.R (Option D)} (hb : ∀ d s, NoEx (b d s)) : ∀ (m i : Nat) (s : Sto), NoEx (loopC nx b i m s)
  | m, i, s => by
    unfold loopC
    split
    · exact NoEx.bad
    · exact NoEx.ok
    · cases m with
      | zero => exact NoEx.bad
      | succ m => exact NoEx.bind (hb _ _) fun _ _ => NoEx.bind (noex_loopC hb m (i + 1) _) fun _ _ => NoEx.ok
theorem noex_bodyC2 {x : E} {t : Tg} {w : List Nat} {t2 : Tg} {w2 : List Nat} {i2 : It} {cs : List E} {f : Fr} {d : D} {s : Sto} : NoEx (bodyC2 M x t w t2 w2 i2 cs f d s) :=
  NoEx.bind (noex_asg _ _ _ _) fun _ _ => NoEx.bind NoEx.nox fun _ _ => noex_loopC (fun _ _ => noex_bodyC) _ _ _
theorem noex_loopC2 {nx : Nat → Sto → Option (Option D)} {b : D → Sto → TR.R (List D)} (hb : ∀ d s, NoEx (b d s)) : ∀ (m i : Nat) (s : Sto), NoEx (loopC2 nx b i m s)
  | m, i, s => by
    unfold loopC2
    split
    · exact NoEx.bad
    · exact NoEx.ok
    · cases m with
      | zero => exact NoEx.bad
      | succ m => exact NoEx.bind (hb _ _) fun _ _ => NoEx.bind (noex_loopC2 hb m (i + 1) _) fun _ _ => NoEx.ok
theorem Po.len {β : Type} {Ew : XK} {W : Wd} {H : Hp} {r : TR.R (List D)} {acc : List D} {rel : Rel (List D) β} {Q : β → Hp → Prop} (n : NoEx r) (h : Po Z Ew W H (r.bind fun xs s => finC (acc ++ xs) s) rel Q) : acc.length ≤ SZ := by
  cases r with
  | ok xs s =>
    have h : Po Z Ew W H (cond (Nat.ble (acc ++ xs).length SZ) (.ok (acc ++ xs) s) .bad) rel Q := h
    cases hb : Nat.ble (acc ++ xs).length SZ with
    | false => rw [hb] at h; exact h.elim
    | true =>
      have := Nat.le_of_ble_eq_true hb
      rw [List.length_append] at this
      omega
  | ex e s => exact absurd rfl (n e s)
  | bad => exact h.elim
def tQ2 (Z : Zn) (M : Sem) (Wx : WX) (x : E) (t : Tg) (w : List Nat) (i : It) (t2 : Tg) (w2 : List Nat) (i2 : It) (cs : List E) : TE := fun σ H Q => ∃ W s f, RS Z W s H ∧ RF Z W H f σ ∧ Po Z (atS Wx σ) W H (evq2 M x t w i t2 w2 i2 cs f s) (RQ Z H) Q
theorem evq2_eq {x : E} {t : Tg} {w : List Nat} {i : It} {t2 : Tg} {w2 : List Nat} {i2 : It} {cs : List E} {f : Fr} {s : Sto} : evq M (.comp2 x t w i t2 w2 i2 cs) f s = evq2 M x t w i t2 w2 i2 cs f s := rfl
theorem tQ_lc2 {x : E} {t : Tg} {w : List Nat} {i : It} {t2 : Tg} {w2 : List Nat} {i2 : It} {cs : List E} {σ : L2.St} {H : Hp} {Q : VK} (hw : ∀ j ∈ tslots t, j ∈ w) (hw2 : ∀ j ∈ tslots t2, j ∈ w2) (h : tQ2 Z M Wx x t w i t2 w2 i2 cs σ H Q) :
    tLc2 (tI Z M Wx i) (tG Z M t) (tTs Z M []) (tI Z M noW i2) (tG Z M t2) (tTs Z M cs) (tE Z M noW x) w w2 σ H Q := by
  obtain ⟨W, s, f, rs, rf, po⟩ := h
  replace po : Po Z (atS Wx σ) W H ((evi M i f s).bind fun p s => (loopC2 (nxt p.1) (bodyC2 M x t w t2 w2 i2 cs f) 0 p.2 s).bind fun xs s => finC xs s) (RQ Z H) Q := po
  refine ⟨W, s, f, rs, rf, Po.imp (Po.bind (rel1 := ItR Z) po) fun W9 s9 H1 a9 J e9 x9 r9 q => ⟨q, fun ⟨W1, s1, p, e1, x1, r1, ⟨ok, hm⟩, po1⟩ => ?_⟩⟩
  intro D hD
  have hDH : H D = none := by
    cases e : H D with
    | none => rfl
    | some o => exact absurd hD (x1.th D (by rw [e]; exact Option.some_ne_none _))
  have rf1 := rf.mono (x1.tk rs)
  refine ⟨fun i m H' => ∃ W2 s2 acc vs, Ex W1 H1 W2 H' ∧ RS Z W2 s2 H' ∧ (∀ j, j < W2.n → W2.ρ j ≠ D) ∧ H' D = some (.lst vs) ∧ RDs Z W2 H' acc vs ∧
    Po Z (atS Wx σ) W1 H1 ((loopC2 (nxt p.1) (bodyC2 M x t w t2 w2 i2 cs f) i m s2).bind fun xs s => finC (acc ++ xs) s) (RQ Z H) Q, ⟨p.2, W1, s1, [], [], ex_lay hD, r1.lay hD, r1.free hD, upd_same, rfl, po1⟩, ?_⟩
  rintro i m H2 ⟨W2, s2, acc, vs, x2, r2, out, eD, racc, po2⟩
  have ok2 := ok i W2 s2 H2 (x2.tk r1) r2
  unfold loopC2 at po2
  cases hn : nxt p.1 i s2 with
  | none => rw [hn] at po2; exact po2.elim
  | some z =>
    rw [hn] at po2
    cases z with
    | none =>
      replace po2 : Po Z (atS Wx σ) W1 H1 (finC (acc ++ []) s2) (RQ Z H) Q := po2
      rw [List.append_nil] at po2
      unfold finC at po2
      cases hb : Nat.ble acc.length SZ with
      | false => rw [hb] at po2; exact po2.elim
      | true =>
        rw [hb] at po2
        exact .inl ⟨ok2.1 hn, Po.ok' po2 x2 r2 ⟨D, vs, rfl, hDH, eD, out, racc⟩⟩
    | some d =>
      cases m with
      | zero => exact po2.elim
      | succ m =>
        obtain ⟨go, yl⟩ := ok2.2 d hn
        refine .inr ⟨go, fun H' => ∃ W2 s2 acc vs, Ex W1 H1 W2 H' ∧ RS Z W2 s2 H' ∧ (∀ j, j < W2.n → W2.ρ j ≠ D) ∧ H' D = some (.lst vs) ∧ RDs Z W2 H' acc vs ∧
          Po Z (atS Wx σ) W1 H1 ((loopC2 (nxt p.1) (bodyC2 M x t w t2 w2 i2 cs f) (i + 1) m s2).bind fun xs s => finC (acc ++ xs) s) (RQ Z H) Q, fun H' h => ⟨m, Nat.lt_succ_self m, h⟩, fun v H3 yv => ?_⟩
        obtain ⟨x3, r3, q3⟩ := yl v H3 yv
        have po3 : Po Z (atS Wx σ) W1 H1 ((asg M t d (TR.wipe f w) s2).bind fun g s => (TR.R.nox (evi M i2 g s)).bind fun p2 s => (loopC (nxt p2.1) (bodyC M x t2 w2 cs g) 0 p2.2 s).bind fun ys s =>
            (loopC2 (nxt p.1) (bodyC2 M x t w t2 w2 i2 cs f) (i + 1) m s).bind fun xs s => finC (acc ++ (ys ++ xs)) s) (RQ Z H) Q := by
          replace po2 : Po Z (atS Wx σ) W1 H1 ((((asg M t d (TR.wipe f w) s2).bind fun g s => (TR.R.nox (evi M i2 g s)).bind fun p2 s => loopC (nxt p2.1) (bodyC M x t2 w2 cs g) 0 p2.2 s).bind fun ys s =>
            (loopC2 (nxt p.1) (bodyC2 M x t w t2 w2 i2 cs f) (i + 1) m s).bind fun xs s => .ok (ys ++ xs) s).bind fun xs s => finC (acc ++ xs) s) (RQ Z H) Q := po2
          simp only [R.bind_assoc] at po2
          exact po2
        clear po2
        have x13 := x2.trans x3
        have tk3 := x13.tk r1
        refine ⟨W2, s2, TR.wipe f w, d, r3, (rf1.mono tk3).wipe w, q3, Po.imp (Po.noex (noex_asg _ _ _ _) (Po.bind0 (rel1 := RFt Z (tslots t) (L2.wipe σ w)) po3 x13)) fun W9 s9 H4 a9 σ4 e9 x9 r9 q => ⟨q, fun ⟨W4, s4, g, e4, x4, r4, ⟨f4, k4⟩, po4⟩ => ?_⟩⟩
        refine ⟨wipe_keep (k4.sub hw), ?_⟩
        have x14 := x13.trans x4
        obtain ⟨out3, eD3⟩ := x3.out out eD
        obtain ⟨out4, eD4⟩ := x4.out out3 eD3
        have racc4 : RDs Z W4 H4 acc vs := RDs.mono (x4.tk r3) _ (RDs.mono (x3.tk r2) _ racc)
        refine ⟨W4, s4, g, r4, f4, ?_⟩
        show Po Z noE W4 H4 (TR.R.ok true s4) RB _
        intro Wt Ht bt xt rt et
        obtain rfl : true = bt := et
        rw [if_pos rfl]
        have x1t := x14.trans xt
        obtain ⟨outt, eDt⟩ := xt.out out4 eD4
        have racct : RDs Z Wt Ht acc vs := RDs.mono (xt.tk r4) _ racc4
        have ft := f4.mono (xt.tk r4)
        refine ⟨Wt, s4, g, rt, ft, Po.imp (Po.ofNox (Po.noex NoEx.nox (Po.bind0 (rel1 := ItR Z) po4 x1t))) fun W9 s9 H5 a9 J1 e9 x9 r9 q => ⟨q, fun ⟨W5, s5, p2, e5, x5, r5, ⟨okB, hmB⟩, po5⟩ => ?_⟩⟩
        have x15 := x1t.trans x5
        obtain ⟨out5, eD5⟩ := x5.out outt eDt
        have racc5 : RDs Z W5 H5 acc vs := RDs.mono (x5.tk rt) _ racct
        have f5 := ft.mono (x5.tk rt)
        refine ⟨fun j k H' => ∃ W6 s6 acc vs, Ex W1 H1 W6 H' ∧ Tk W5 H5 W6 H' ∧ RS Z W6 s6 H' ∧ (∀ j, j < W6.n → W6.ρ j ≠ D) ∧ H' D = some (.lst vs) ∧ RDs Z W6 H' acc vs ∧
          Po Z (atS Wx σ) W1 H1 ((loopC (nxt p2.1) (bodyC M x t2 w2 cs g) j k s6).bind fun ys s => (loopC2 (nxt p.1) (bodyC2 M x t w t2 w2 i2 cs f) (i + 1) m s).bind fun xs s => finC (acc ++ (ys ++ xs)) s) (RQ Z H) Q,
          ⟨p2.2, W5, s5, acc, vs, x15, Ex.refl.tk r5, r5, out5, eD5, racc5, po5⟩, ?_⟩
        rintro j k H6 ⟨W6, s6, acc, vs, x16, k6, r6, out6, eD6, racc6, po6⟩
        have okC := okB j W6 s6 H6 k6 r6
        unfold loopC at po6
        cases hn2 : nxt p2.1 j s6 with
        | none => rw [hn2] at po6; exact po6.elim
        | some z2 =>
          rw [hn2] at po6
          cases z2 with
          | none =>
            refine .inl ⟨okC.1 hn2, W6, s6, acc, vs, x16, r6, out6, eD6, racc6, po6⟩
          | some d2 =>
            cases k with
            | zero => exact po6.elim
            | succ k =>
              obtain ⟨go2, yl2⟩ := okC.2 d2 hn2
              refine .inr ⟨go2, fun H' => ∃ W6 s6 acc vs, Ex W1 H1 W6 H' ∧ Tk W5 H5 W6 H' ∧ RS Z W6 s6 H' ∧ (∀ j, j < W6.n → W6.ρ j ≠ D) ∧ H' D = some (.lst vs) ∧ RDs Z W6 H' acc vs ∧
                Po Z (atS Wx σ) W1 H1 ((loopC (nxt p2.1) (bodyC M x t2 w2 cs g) (j + 1) k s6).bind fun ys s => (loopC2 (nxt p.1) (bodyC2 M x t w t2 w2 i2 cs f) (i + 1) m s).bind fun xs s => finC (acc ++ (ys ++ xs)) s) (RQ Z H) Q, fun H' h => ⟨k, Nat.lt_succ_self k, h⟩, fun v2 H7 yv2 => ?_⟩
              obtain ⟨x7, r7, q7⟩ := yl2 v2 H7 yv2
              have po7 : Po Z (atS Wx σ) W1 H1 ((asg M t2 d2 (TR.wipe g w2) s6).bind fun g2 s => (TR.R.nox (evt M cs g2 s)).bind fun b s => (cond b ((TR.R.nox (ev M x g2 s)).bind fun y s => .ok (some y) s) (.ok none s)).bind fun u s =>
                  (loopC (nxt p2.1) (bodyC M x t2 w2 cs g) (j + 1) k s).bind fun ys s => (loopC2 (nxt p.1) (bodyC2 M x t w t2 w2 i2 cs f) (i + 1) m s).bind fun xs s => finC (acc ++ ((match u with
                    | some x => x :: ys
                    | none => ys) ++ xs)) s) (RQ Z H) Q := by
                replace po6 : Po Z (atS Wx σ) W1 H1 ((((asg M t2 d2 (TR.wipe g w2) s6).bind fun g2 s => (TR.R.nox (evt M cs g2 s)).bind fun b s => cond b ((TR.R.nox (ev M x g2 s)).bind fun y s => .ok (some y) s) (.ok none s)).bind fun u s =>
                  (loopC (nxt p2.1) (bodyC M x t2 w2 cs g) (j + 1) k s).bind fun ys s => .ok (match u with
                    | some x => x :: ys
                    | none => ys) s).bind fun ys s => (loopC2 (nxt p.1) (bodyC2 M x t w t2 w2 i2 cs f) (i + 1) m s).bind fun xs s => finC (acc ++ (ys ++ xs)) s) (RQ Z H) Q := po6
                simp only [R.bind_assoc] at po6
                exact po6
              clear po6
              have x17 := x16.trans x7
              have k57 := k6.trans (x7.tk r6)
              obtain ⟨out7, eD7⟩ := x7.out out6 eD6
              have racc7 : RDs Z W6 H7 acc vs := RDs.mono (x7.tk r6) _ racc6
              have f7 := f5.mono k57
              refine ⟨W6, s6, TR.wipe g w2, d2, r7, f7.wipe w2, q7, Po.imp (Po.noex (noex_asg _ _ _ _) (Po.bind0 (rel1 := RFt Z (tslots t2) (L2.wipe σ4 w2)) po7 x17)) fun W9 s9 H8 a9 σ8 e9 x9 r9 q => ⟨q, fun ⟨W8, s8, g2, e8, x8, r8, ⟨f8, k8⟩, po8⟩ => ?_⟩⟩
              refine ⟨wipe_keep (k8.sub hw2), ?_⟩
              have x18 := x17.trans x8
              have k58 := k57.trans (x8.tk r7)
              obtain ⟨out8, eD8⟩ := x8.out out7 eD7
              have racc8 : RDs Z W8 H8 acc vs := RDs.mono (x8.tk r7) _ racc7
              refine ⟨W8, s8, g2, r8, f8, Po.imp (Po.ofNox (Po.noex NoEx.nox (Po.bind0 (rel1 := RB) po8 x18))) fun W9 s9 H9 a9 b e9 x9 r9 q => ⟨q, fun ⟨Wa, sa, b', ea, xa, ra, eb, poa⟩ => ?_⟩⟩
              obtain rfl : b' = b := eb
              have x1a := x18.trans xa
              have k5a := k58.trans (xa.tk r8)
              obtain ⟨outa, eDa⟩ := xa.out out8 eD8
              have racca : RDs Z Wa H9 acc vs := RDs.mono (xa.tk r8) _ racc8
              cases b' with
              | false =>
                rw [if_neg Bool.false_ne_true]
                exact ⟨Wa, sa, acc, vs, x1a, k5a, ra, outa, eDa, racca, poa⟩
              | true =>
                rw [if_pos rfl]
                replace poa : Po Z (atS Wx σ) W1 H1 (((TR.R.nox (ev M x g2 sa)).bind fun y s => .ok (some y) s).bind fun u s =>
                  (loopC (nxt p2.1) (bodyC M x t2 w2 cs g) (j + 1) k s).bind fun ys s => (loopC2 (nxt p.1) (bodyC2 M x t w t2 w2 i2 cs f) (i + 1) m s).bind fun xs s => finC (acc ++ ((match u with
                    | some x => x :: ys
                    | none => ys) ++ xs)) s) (RQ Z H) Q := poa
                rw [R.bind_assoc] at poa
                refine ⟨Wa, sa, g2, ra, f8.mono (xa.tk r8), Po.imp (Po.ofNox (Po.noex NoEx.nox (Po.bind0 (rel1 := RD Z) poa x1a))) fun W9 s9 Hb a9 yv e9 x9 r9 q => ⟨q, fun ⟨Wb, sb, y, eb, xb, rb, qb, pob⟩ => ?_⟩⟩
                obtain ⟨outb, eDb⟩ := xb.out outa eDa
                have x1b := x1a.trans xb
                have k5b := k5a.trans (xb.tk ra)
                have raccb : RDs Z Wb Hb acc vs := RDs.mono (xb.tk ra) _ racca
                have pob' : Po Z (atS Wx σ) W1 H1 ((loopC (nxt p2.1) (bodyC M x t2 w2 cs g) (j + 1) k sb).bind fun ys s => (loopC2 (nxt p.1) (bodyC2 M x t w t2 w2 i2 cs f) (i + 1) m s).bind fun xs s => finC (acc ++ [y] ++ (ys ++ xs)) s) (RQ Z H) Q := by
                  have e : ∀ ys xs : List TR.D, acc ++ [y] ++ (ys ++ xs) = acc ++ (y :: ys ++ xs) := fun ys xs => by simp
                  simp only [e]
                  exact pob
                have hlen : (acc ++ [y]).length ≤ SZ := by
                  have e : ((loopC (nxt p2.1) (bodyC M x t2 w2 cs g) (j + 1) k sb).bind fun ys s => (loopC2 (nxt p.1) (bodyC2 M x t w t2 w2 i2 cs f) (i + 1) m s).bind fun xs s => finC (acc ++ [y] ++ (ys ++ xs)) s) =
                    (((loopC (nxt p2.1) (bodyC M x t2 w2 cs g) (j + 1) k sb).bind fun ys s => (loopC2 (nxt p.1) (bodyC2 M x t w t2 w2 i2 cs f) (i + 1) m s).bind fun xs s => .ok (ys ++ xs) s).bind fun zs s => finC (acc ++ [y] ++ zs) s) := by
                    simp only [R.bind_assoc]
                    rfl
                  have pob' := pob'
                  rw [e] at pob'
                  exact Po.len (NoEx.bind (noex_loopC (fun _ _ => noex_bodyC) _ _ _) fun _ _ => NoEx.bind (noex_loopC2 (fun _ _ => noex_bodyC2) _ _ _) fun _ _ => NoEx.ok) pob'
                rw [List.length_append, List.length_singleton] at hlen
                refine ⟨vs, eDb, by rw [raccb.length, ← SZ_eq]; omega, ?_⟩
                have sf := soft_lst eDb
                exact ⟨Wb, sb, acc ++ [y], vs ++ [yv], x1b.mod hD, k5b.trans (tk_put sf), rb.mod sf outb, outb, upd_same, RDs.mono (tk_put sf) _ (RDs.append raccb ⟨yv, [], rfl, qb, rfl⟩), pob'⟩
theorem s_lc2 (S : Sx Z M c X Wx) {elt tg iter tg1 iter1 : Expr} {ifs1 : List Expr} {scope : Scope} {own : List (Str × Nat)} {x : E} {t : Tg} {w : List Nat} {i : It} {t2 : Tg} {w2 : List Nat} {i2 : It} {cs : List E} (hi : PI X tg iter (tI Z M Wx i)) (hb : blkC c.N c.sc scope own = true) (hw : own.map (·.2) = w) (hwt : ∀ j ∈ tslots t, j ∈ w) (hw2 : ∀ j ∈ tslots t2, j ∈ w2) (hv : ∀ j ∈ w2, j ∈ w)
    (hg : ∀ (X : Cx), Sx Z M (c.blk scope) X noW → PG X tg (tG Z M t)) (hi1 : ∀ (X : Cx), Sx Z M (c.blk scope) X noW → PI X tg1 iter1 (tI Z M noW i2)) (hg1 : ∀ (X : Cx), Sx Z M (c.blk scope) X noW → PG X tg1 (tG Z M t2)) (ht : ∀ (X : Cx), Sx Z M (c.blk scope) X noW → PTs X ifs1 (tTs Z M cs)) (he : ∀ (X : Cx), Sx Z M (c.blk scope) X noW → PE X elt (tE Z M noW x))
    (hs : ∀ (env : Env) (x : Value), foldedSetIterable iter env x = pure x) (hs1 : ∀ (env : Env) (x : Value), foldedSetIterable iter1 env x = pure x) :
    PE X (.ListComp elt [⟨tg, iter, [], 0⟩, ⟨tg1, iter1, ifs1, 0⟩] scope pos) (tQ Z M Wx (.comp2 x t w i t2 w2 i2 cs)) := by
  subst hw
  have ok : BlkOk X.N X.env.scope scope own := by rw [S.N, S.sc]; exact blkOk_by hb
  exact peI (pe_lc2 (vs1 := w2) S.fx.calm S.fx.nd hi ok hv (fun s H C cl fp => hg _ (S.blk s H scope C cl fp)) (fun s H C cl fp => ts_nil) (fun s H C cl fp => hi1 _ (S.blk s H scope C cl fp)) (fun s H C cl fp => hg1 _ (S.blk s H scope C cl fp)) (fun s H C cl fp => ht _ (S.blk s H scope C cl fp)) (fun s H C cl fp => he _ (S.blk s H scope C cl fp)) (hs X.env) (fun s => hs1 _)) fun σ H Q h => tQ_lc2 hwt hw2 h
end
end TR
set_option autoImplicit false
set_option linter.all false
set_option maxRecDepth 100000
/-! sorted(..). -/
namespace TR
open PySem PySem.Spec PyProof.Rows L2
theorem dle_total {β : Type} (k : β → PyData) : PySem.W.TotalLe (PySem.W.dataLe false k) := PySem.W.sortLe_total _ _ _
theorem insP_merge (a : D × PyData) : ∀ l1 l2 : List (D × PyData), (∀ b ∈ l1 ++ l2, alk b.2 a.2 = true) → (∀ b ∈ l1, (!PySem.W.dataLe false (·.2) a b) = true) → (∀ b ∈ l2, PySem.W.dataLe false (·.2) a b = true) → insP a (l1 ++ l2) = l1 ++ a :: l2
  | [], [], _, _, _ => rfl
  | [], b :: r, hl, _, h2 => by
    have hb' : (!PySem.W.dataLt b.2 a.2) = true := h2 b List.mem_cons_self
    show cond (ltP b.2 a.2) (b :: insP a r) (a :: b :: r) = _
    rw [ltP_data _ _ (hl b List.mem_cons_self)]
    cases h : PySem.W.dataLt b.2 a.2 with
    | true => rw [h] at hb'; cases hb'
    | false => rfl
  | b :: l1, l2, hl, h1, h2 => by
    have hb' : (!!PySem.W.dataLt b.2 a.2) = true := h1 b List.mem_cons_self
    show cond (ltP b.2 a.2) (b :: insP a (l1 ++ l2)) (a :: b :: (l1 ++ l2)) = _
    rw [ltP_data _ _ (hl b List.mem_cons_self)]
    rw [Bool.not_not] at hb'
    rw [hb']
    show b :: insP a (l1 ++ l2) = _
    rw [insP_merge a l1 l2 (fun c hc => hl c (List.mem_cons_of_mem _ hc)) (fun c hc => h1 c (List.mem_cons_of_mem _ hc)) h2]
    rfl
theorem sortP_merge : ∀ l : List (D × PyData), (∀ b ∈ l, ∀ c ∈ l, alk b.2 c.2 = true) → sortP l = l.mergeSort (PySem.W.dataLe false (·.2))
  | [], _ => by rw [List.mergeSort_nil]; rfl
  | a :: l, h => by
    have T := dle_total (β := D × PyData) (·.2)
    have tr : ∀ a b c : D × PyData, PySem.W.dataLe false (·.2) a b = true → PySem.W.dataLe false (·.2) b c = true → PySem.W.dataLe false (·.2) a c = true := fun a b c => T.trans a b c
    have to : ∀ a b : D × PyData, (PySem.W.dataLe false (·.2) a b || PySem.W.dataLe false (·.2) b a) = true := fun a b => by rcases T.total a b with h | h <;> simp [h]
    obtain ⟨l1, l2, e1, e2, e3⟩ := List.mergeSort_cons tr to a l
    have ih := sortP_merge l fun b hb c hc => h b (List.mem_cons_of_mem _ hb) c (List.mem_cons_of_mem _ hc)
    have pw := List.pairwise_mergeSort tr to (a :: l)
    show insP a (sortP l) = _
    rw [ih, e1]
    rw [e2]
    refine insP_merge a l1 l2 (fun b hb => ?_) (fun b hb => e3 b hb) fun b hb => ?_
    · rw [← e2] at hb
      have := (List.mergeSort_perm l _).mem_iff.mp hb
      exact h b (List.mem_cons_of_mem _ this) a List.mem_cons_self
    · rw [e1] at pw
      exact (List.pairwise_cons.mp (List.pairwise_append.mp pw).2.1).1 b hb
section
variable {Z : Zn} {M : Sem} {X : Cx} {pins : List (Addr × Obj)} {σ : L2.St} {H : Hp} {s : Shared} {W : Wd} {s0 : Sto}
def RSo (Z : Zn) (W : Wd) (H : Hp) (h : Heap) : Value → (D × PyData) × V → Prop := fun u b => RelV b.2 u ∧ RD Z W H b.1.1 b.2 ∧ (∃ as, Reads h u b.1.2 as) ∧ b.1.2.depth ≤ 40
theorem zip_all (hK : X.K = Z.K) (I : Inv X pins σ H s) (rs : RS Z W s0 H) : ∀ (ds : List D) (vs : List V) (us : List Value) (ps : List (D × PyData)), RDs Z W H ds vs → Vals vs us → withP s0 ds = some ps →
    PySem.W.EachIs (RSo Z W H s.heap) us (ps.zip vs) ∧ (ps.zip vs).map (·.1) = ps
  | [], _, us, ps, h, r, e => by
    cases e
    rw [show _ = [] from h] at r
    cases r
    exact ⟨.nil, rfl⟩
  | d :: ds, _, us, ps, ⟨v, t, ev, r1, r2⟩, r, e => by
    subst ev
    cases r with
    | cons ru rt =>
      rename_i u ut
      unfold withP at e
      rw [mapO] at e
      cases hd : rd RDN s0 d with
      | none => rw [hd] at e; cases e
      | some p =>
        rw [hd] at e
        simp only [Option.map_some] at e
        cases hm : mapO (fun d => (rd RDN s0 d).map fun p => (d, p)) ds with
        | none => rw [hm] at e; cases e
        | some qs =>
          rw [hm] at e
          cases e
          obtain ⟨i1, i2⟩ := zip_all hK I rs ds t ut qs r2 rt hm
          exact ⟨.cons ⟨ru, r1, reads_of hK I rs _ _ _ _ _ r1 ru hd, (rd_plain _ _ _ hd).2⟩ i1, congrArg ((d, p) :: ·) i2⟩
theorem out_all {h : Heap} : ∀ {us : List Value} {bs : List ((D × PyData) × V)}, PySem.W.EachIs (RSo Z W H h) us bs → Vals (bs.map (·.2)) us ∧ RDs Z W H (bs.map (·.1.1)) (bs.map (·.2))
  | _, _, .nil => ⟨.nil, rfl⟩
  | _, _, .cons r t => by
    obtain ⟨i1, i2⟩ := out_all t
    exact ⟨.cons r.1 i1, ⟨_, _, rfl, r.2.1, i2⟩⟩
theorem sortable_of {ps : List (D × PyData)} (h : (sOk1 ps || sOk2 ps) = true) : PySem.W.Sortable (ps.map (·.2)) := by
  rcases Bool.or_eq_true _ _ |>.mp h with h | h
  · refine .inl ?_
    induction ps with
    | nil => intro d hd; cases hd
    | cons a r ih =>
      have h' : ((match a.2 with
        | .tuple (_ :: _) => true
        | _ => false) && sOk1 r) = true := h
      rw [Bool.and_eq_true] at h'
      intro d hd
      rcases List.mem_cons.mp hd with rfl | hd
      · have := h'.1
        split at this
        · exact ⟨_, _, ‹_›⟩
        · cases this
      · exact ih (by simp [h'.2]) h'.2 d hd
  · refine .inr ?_
    induction ps with
    | nil => intro d hd; cases hd
    | cons a r ih =>
      have h' : ((match a.2 with
        | .tuple _ => false
        | .none => false
        | _ => true) && sOk2 r) = true := h
      rw [Bool.and_eq_true] at h'
      intro d hd
      rcases List.mem_cons.mp hd with rfl | hd
      · have := h'.1
        split at this
        · cases this
        · cases this
        · rename_i n1 n2
          exact ⟨fun e => n2 e, fun xs e => n1 xs e⟩
      · exact ih (by simp [h'.2]) h'.2 d hd
theorem alkAll_of : ∀ {ps : List (D × PyData)}, alkAll ps = true → ∀ b ∈ ps, ∀ c ∈ ps, alk b.2 c.2 = true
  | [], _, b, hb, _, _ => nomatch hb
  | a :: r, h, b, hb, c, hc => by
    have h : (alk a.2 a.2 && notNone a.2 && r.all (fun b => alk a.2 b.2) && alkAll r) = true := h
    simp only [Bool.and_eq_true, List.all_eq_true] at h
    obtain ⟨⟨⟨h1, _⟩, h2⟩, h3⟩ := h
    rcases List.mem_cons.mp hb with e1 | hb1 <;> rcases List.mem_cons.mp hc with e2 | hc1
    · rw [e1, e2]; exact h1
    · rw [e1]; exact h2 c hc1
    · rw [e2]; exact alk_symm _ _ (h2 b hb1)
    · exact alkAll_of h3 b hb1 c hc1
theorem each_rt {α β : Type} {R : α → β → Prop} : ∀ {as : List α} {bs : List β}, PySem.W.EachIs R as bs → ∀ b ∈ bs, ∃ a, R a b
  | _, _, .nil, _, h => nomatch h
  | _, _, .cons r t, b, h => by
    rcases List.mem_cons.mp h with e | h
    · rw [e]; exact ⟨_, r⟩
    · exact each_rt t b h
/-- sorted(xs), items alike -/
theorem sorted_any (F : X.K = Z.K) (hu : X.A.units + 50 < cLine) : CallR X (.builtin "sorted") (fun xs H Q => ∃ W s0 ds a vs ps, xs = [V.ref a] ∧ RS Z W s0 H ∧ SqL Z.K H a vs ∧ RDs Z W H ds vs ∧ withP s0 ds = some ps ∧ alkAll ps = true ∧ (sOk1 ps || sOk2 ps) = true ∧
    ∀ p ws, H p = none → RDs Z W H ((sortP ps).map (·.1)) ws → Q (.ref p) (upd H p (.lst ws))) := by
  intro pins s σ H xs us Q I r ⟨W, s0, ds, a, vs, ps, e, rs, hl, hd, hw, ha, hs, q⟩
  subst e
  rw [Vals.ref1 r]
  rw [← F] at hl
  obtain ⟨its, rv, pl, hz⟩ := I.list hl
  obtain ⟨z1, z2⟩ := zip_all F I rs ds vs its ps hd rv hw
  have hm : ∀ {bs : List ((D × PyData) × V)}, bs.map (fun b => b.1.2) = (bs.map (·.1)).map (·.2) := fun {bs} => by rw [List.map_map]; rfl
  refine PySem.W.sorted_data (R := RSo Z W H s.heap) (bs := ps.zip vs) (enc := fun b => b.1.2) pl.isList z1 (z1.mono fun _ _ h => h.2.2.1) ?_ ?_ ?_ ?_ fun out ho eo => ?_
  · rw [hm, z2]
    intro d h1 d' h2
    obtain ⟨b, hb, rfl⟩ := List.mem_map.mp h1
    obtain ⟨c, hc, rfl⟩ := List.mem_map.mp h2
    rw [← alk_alike]
    exact alkAll_of ha b hb c hc
  · rw [hm, z2]
    exact sortable_of hs
  · rw [← z1.length, ← rv.length]
    exact hz
  · intro b hb
    obtain ⟨u, hr⟩ := each_rt z1 b hb
    have := hr.2.2.2
    omega
  · obtain ⟨o1, o2⟩ := out_all eo
    obtain ⟨ep, he'⟩ := PyProof.Rows.sortedAll_at s.heap its out.toArray
    have hlen : (((ps.zip vs).mergeSort (PySem.W.dataLe false fun b => b.1.2)).map (·.2)).length ≤ sizeLine := by
      rw [List.length_map, List.length_mergeSort, ← z1.length, ← rv.length]
      exact hz
    have em : ((ps.zip vs).mergeSort (PySem.W.dataLe false fun b => b.1.2)).map (·.1.1) = (sortP ps).map (·.1) := by
      have := PySem.W.sort_maps (·.1) (r := PySem.W.dataLe false fun b : (D × PyData) × V => b.1.2) (s := PySem.W.dataLe false fun b : D × PyData => b.2) (l := ps.zip vs) fun _ _ _ _ => rfl
      rw [z2] at this
      rw [sortP_merge ps (alkAll_of ha), ← this, List.map_map]
      rfl
    rw [em] at o2
    exact ⟨.ref _, upd H (s.heap.objs.size + 1) (.lst _), I.laid (t' := s.toks) (fun _ _ => PyProof.Rows.sortedAll_old) (Nat.le_succ _) ⟨hlen, out, ep, o1, he'⟩, rfl, q _ _ (I.hok.fresh (Nat.le_succ _)) o2⟩
end
end TR
set_option autoImplicit false
set_option linter.all false
set_option maxRecDepth 100000
/-! Built-ins. -/
namespace TR
open PySem PySem.Spec PyProof.Rows L2
section
variable {Z : Zn} {M : Sem} {c : Cc} {X : Cx} {Wx : WX} {pos : Pos}
/-- built-in functions, built-in types -/
inductive Bk where
  | b (id : String) | t (T : String)
def Bk.v : Bk → Value
  | .b id => .builtin id
  | .t T => .type T
/-- a built-in called with one thing or more -/
theorem s_bcall (S : Sx Z M c X Wx) {x : Str} {k : Bk} {r : List V → Hp → VK → Prop} {p : Pos} {a : Expr} {as : List Expr} {t : TA} (hc : CallR X k.v r) (hg : glB c.sc x = true) (hm : bltNames.contains x = true) (hn : okName x = true) (hv : bootBuiltins x = some k.v) (ha : PA X (a :: as) t) (hs : (a :: as).all notStar = true) :
    PE X (.Call (.Name x p) (a :: as) [] pos) (fun σ H Q => t σ H fun vs H1 => r vs H1 Q) := by
  rw [List.all_cons, Bool.and_eq_true] at hs
  obtain ⟨h1, _, h3⟩ := okName_ok hn
  cases k with
  | b id => exact pe_callB hc (S.gl hg) (S.nob hm) hv ha h3 h1 (star_cons hs.1) (star_none hs.2)
  | t T => exact pe_callTy hc (S.gl hg) (S.nob hm) hv ha h3 h1 (star_cons hs.1) (star_none hs.2)
/-! ### isinstance -/
def Ty.v : Ty → String
  | .int => "int"
  | .bool => "bool"
  | .str => "str"
  | .list => "list"
  | .tuple => "tuple"
def tyOf : D → String
  | .non => "NoneType"
  | .bl _ => "bool"
  | .int _ => "int"
  | .str _ => "str"
  | .tup _ => "tuple"
  | .rol _ => "list"
  | _ => "list"
theorem kit_ty (K : PySem.W.Frag) (t : Ty) : (PySem.W.kitOne K (.type "NoneType") (.type t.v) = some false) ∧ (PySem.W.kitOne K (.type "bool") (.type t.v) = some (t == .int || t == .bool)) ∧ (PySem.W.kitOne K (.type "int") (.type t.v) = some (t == .int)) ∧
    (PySem.W.kitOne K (.type "str") (.type t.v) = some (t == .str)) ∧ (PySem.W.kitOne K (.type "tuple") (.type t.v) = some (t == .tuple)) ∧ (PySem.W.kitOne K (.type "list") (.type t.v) = some (t == .list)) ∧ (PySem.W.kitOne K (.type "dict") (.type t.v) = some false) := by
  cases t <;> exact ⟨rfl, rfl, rfl, rfl, rfl, rfl, rfl⟩
theorem isaD_ref {s : Sto} {t : Ty} {a : Nat} : isaD s t (.ref a) = (match s.get a with
      | some (.lst _) => some (t == .list)
      | some (.dct _) => some false
      | _ => none) := rfl
theorem RKs.keyL {W : Wd} {H : Hp} : ∀ {kvs : List (D × D)} {gs : List (Key × V)}, RKs Z W H kvs gs → RDs Z W H (kvs.map (·.1)) (gs.map fun kv => kV kv.1)
  | [], _, h => by rw [show _ = [] from h]; rfl
  | (k, d) :: r, _, ⟨q, v, t, e, h0, _, h⟩ => by
    rw [e]
    refine ⟨kV q, _, rfl, ?_, RKs.keyL h⟩
    cases k <;> cases h0 <;> rfl
theorem tyx_of {W : Wd} {H : Hp} {s : Sto} {d : D} {x : V} {t : Ty} {b : Bool} (rs : RS Z W s H) (r : RD Z W H d x) (h : isaD s t d = some b) : ∃ n, TyX Z.K H x (.type n) ∧ ∀ t', ∃ b', isaD s t' d = some b' ∧ PySem.W.kitOne Z.K (.type n) (.type t'.v) = some b' := by
  have key := kit_ty Z.K
  cases d with
  | non => cases (show x = .non from r); exact ⟨_, .base .non, fun t' => ⟨_, rfl, (key t').1⟩⟩
  | bl y => cases (show x = .bl y from r); exact ⟨_, .base (.bl y), fun t' => ⟨_, rfl, (key t').2.1⟩⟩
  | int y => cases (show x = .int y from r); exact ⟨_, .base (.int y), fun t' => ⟨_, rfl, (key t').2.2.1⟩⟩
  | str y => cases (show x = .str y from r); exact ⟨_, .base (.str y), fun t' => ⟨_, rfl, (key t').2.2.2.1⟩⟩
  | tup ds =>
    obtain ⟨a, vs, rfl, q, _⟩ := r
    refine ⟨"tuple", ?_, fun t' => ⟨_, rfl, (key t').2.2.2.2.1⟩⟩
    rcases q with (q | ⟨o, q⟩) | ⟨o, its, n, q, e, _⟩
    · exact .base (.tup q)
    · exact .fTuple q
    · exact .kTuple q e
  | rol ds =>
    obtain ⟨a, vs, rfl, q, _⟩ := r
    refine ⟨"list", ?_, fun t' => ⟨_, rfl, (key t').2.2.2.2.2.1⟩⟩
    rcases q with ⟨o, q⟩ | ⟨o, its, n, q, e, _⟩
    · exact .base (.frz q)
    · exact .kList q e
  | ref a =>
    obtain ⟨_, rfl⟩ := r
    rw [isaD_ref] at h
    split at h
    · rename_i hx
      obtain ⟨vs, e, _⟩ := rs.cell hx
      exact ⟨"list", .base (.lst e), fun t' => ⟨_, by rw [isaD_ref, hx], (key t').2.2.2.2.2.1⟩⟩
    · rename_i hx
      obtain ⟨vs, e, _⟩ := rs.cell hx
      exact ⟨"dict", .base (.dK e), fun t' => ⟨_, by rw [isaD_ref, hx], (key t').2.2.2.2.2.2⟩⟩
    · cases h
  | _ => cases h
def tTy (t : Ty) : TE := fun _ H Q => Q (.ty t.v) H
def tTys (ts : List Ty) : TE := fun _ H Q => ∀ p, H p = none → Q (.ref p) (upd H p (.tup (ts.map fun t => V.ty t.v)))
def tyB (c : Cc) : Expr → Ty → Bool
  | .Name x _, t => glB c.sc x && (Str.ofString t.v == x) && okName x
  | _, _ => false
theorem s_ty (S : Sx Z M c X Wx) {e : Expr} {t : Ty} (h : tyB c e t = true) : PE X e (tTy t) := by
  cases e with
  | Name x p =>
    have h : (glB c.sc x && (Str.ofString t.v == x) && okName x) = true := h
    rw [Bool.and_eq_true, Bool.and_eq_true] at h
    obtain ⟨h1, h2, h3⟩ := okName_ok h.2
    obtain rfl : Str.ofString t.v = x := eq_of_beq h.1.2
    have hb : bltNames.contains (Str.ofString t.v) = true := by cases t <;> decide +kernel
    have hv : bootBuiltins (Str.ofString t.v) = some (.type t.v) := by cases t <;> decide +kernel
    exact peI (pe_bltn (v := .ty t.v) (u := .type t.v) (S.gl h.1.1) (S.nob hb) hv rfl h3 h1) fun σ H Q q => q
  | _ => cases h
def tysB (c : Cc) : List Expr → List Ty → Bool
  | [], [] => true
  | e :: es, t :: ts => tyB c e t && notStar e && tysB c es ts
  | _, _ => false
theorem s_tys (S : Sx Z M c X Wx) : ∀ {es : List Expr} {ts : List Ty}, tysB c es ts = true → PA X es (fun _ H Q => Q (ts.map fun t => V.ty t.v) H)
  | [], [], _ => pa_nil
  | e :: es, t :: ts, h => by
    have h : (tyB c e t && notStar e && tysB c es ts) = true := h
    rw [Bool.and_eq_true, Bool.and_eq_true] at h
    exact paI (pa_cons (s_ty S h.1.1) (s_tys S h.2) (star_cons h.1.2)) fun σ H Q q => q
  | [], _ :: _, h => by cases h
  | _ :: _, [], h => by cases h
theorem isaAny_kit {s : Sto} {d : D} {n : String} (hk : ∀ t', ∃ b', isaD s t' d = some b' ∧ PySem.W.kitOne Z.K (.type n) (.type t'.v) = some b') : ∀ (ts : List Ty), ∃ b, isaAny s ts d = some b ∧ PySem.W.kitAny Z.K (.type n) (ts.map fun t => Value.type t.v) = some b
  | [] => ⟨false, rfl, rfl⟩
  | t :: ts => by
    obtain ⟨b, h1, h2⟩ := hk t
    obtain ⟨b', h3, h4⟩ := isaAny_kit hk ts
    cases b with
    | true => exact ⟨true, by unfold isaAny; rw [h1], by rw [List.map_cons]; unfold PySem.W.kitAny; rw [h2]⟩
    | false => exact ⟨b', by unfold isaAny; rw [h1]; exact h3, by rw [List.map_cons]; unfold PySem.W.kitAny; rw [h2]; exact h4⟩
theorem clsv_all : ∀ (ts : List Ty), Paired ClsV (ts.map fun t => V.ty t.v) (ts.map fun t => Value.type t.v)
  | [] => .nil
  | t :: ts => .cons (.ty _) (clsv_all ts)
theorem s_isa1 (S : Sx Z M c X Wx) {p : Pos} {a b : Expr} {e : E} {t : Ty} (hg : glB c.sc "isinstance" = true) (ha : PP Z M X Wx a e) (hb : tyB c b t = true) (h1 : notStar a = true) (h2 : notStar b = true) : PP Z M X Wx (.Call (.Name "isinstance" p) [a, b] [] pos) (.isa [t] e) := by
  have pe : PE X (.Call (.Name "isinstance" p) [a, b] [] pos) (tE Z M Wx (.isa [t] e)) := by
    refine peI (s_bcall (k := .b "isinstance") S call_isi hg (by decide +kernel) (by decide +kernel) (by decide +kernel) (pa_cons ha.pe (pa_cons (s_ty S hb) pa_nil (star_cons h2)) (star_cons h1)) (by simp [h1, h2])) fun σ H Q ⟨W, s, f, rs, rf, po⟩ => ?_
    replace po : Po Z (atS Wx σ) W H ((ev M e f s).bind fun x s => (TR.R.ofO (isaAny s [t] x) s).bind fun b s => .ok (.bl b) s) (RD Z) Q := po
    refine ⟨W, s, f, rs, rf, Po.imp (Po.bind (rel1 := RD Z) po) fun W' s' H' a b e x r q => ⟨q, fun ⟨W1, s1, d, e1, x1, r1, q1, po1⟩ => ?_⟩⟩
    obtain ⟨b0, hb0, po1⟩ := po1.ofO
    have e0 : isaAny s1 [t] d = isaD s1 t d := by
      unfold isaAny
      cases isaD s1 t d with
      | none => rfl
      | some z => cases z <;> rfl
    rw [e0] at hb0
    obtain ⟨n, ty, hk⟩ := tyx_of r1 q1 hb0
    obtain ⟨b', h3, h4⟩ := hk t
    rw [hb0] at h3
    cases h3
    show rIsi X.K _ _ _
    rw [S.fx.K]
    exact ⟨_, _, _, _, b0, rfl, .ty _, ty, h4, Po.ok po1 r1 rfl⟩
  exact ⟨pe, pt_plain S.fx.K pe fun _ => rfl⟩
theorem s_isaT (S : Sx Z M c X Wx) {p p2 : Pos} {a : Expr} {bs : List Expr} {k : Nat} {e : E} {ts : List Ty} (hg : glB c.sc "isinstance" = true) (ha : PP Z M X Wx a e) (hb : tysB c bs ts = true) (h1 : notStar a = true) (hl : ts.length ≤ 1000) (hne : ts ≠ []) :
    PP Z M X Wx (.Call (.Name "isinstance" p) [a, .Tuple bs k p2] [] pos) (.isa ts e) := by
  have pe : PE X (.Call (.Name "isinstance" p) [a, .Tuple bs k p2] [] pos) (tE Z M Wx (.isa ts e)) := by
    refine peI (s_bcall (k := .b "isinstance") S call_isiT hg (by decide +kernel) (by decide +kernel) (by decide +kernel) (pa_cons ha.pe (pa_cons (pe_tup (s_tys S hb)) pa_nil (star_cons rfl)) (star_cons h1)) (by simp [h1]; rfl)) fun σ H Q ⟨W, s, f, rs, rf, po⟩ => ?_
    replace po : Po Z (atS Wx σ) W H ((ev M e f s).bind fun x s => (TR.R.ofO (isaAny s ts x) s).bind fun b s => .ok (.bl b) s) (RD Z) Q := po
    refine ⟨W, s, f, rs, rf, Po.imp (Po.bind (rel1 := RD Z) po) fun W' s' H' a b e x r q => ⟨q, fun ⟨W1, s1, d, e1, x1, r1, q1, po1⟩ => ?_⟩⟩
    obtain ⟨b0, hb0, po3⟩ := po1.ofO
    clear po1
    refine ⟨by rw [List.length_map, sizeLine_eq]; omega, fun q hq => ?_⟩
    cases ts with
    | nil => exact absurd rfl hne
    | cons t ts =>
      have : ∃ z, isaD s1 t d = some z := by
        have hb0 := hb0
        unfold isaAny at hb0
        cases h : isaD s1 t d with
        | none => rw [h] at hb0; cases hb0
        | some z => exact ⟨z, rfl⟩
      obtain ⟨z, hz⟩ := this
      have r2 := r1.lay (o := .tup ((t :: ts).map fun t => V.ty t.v)) hq
      obtain ⟨n, ty, hk⟩ := tyx_of r2 (RD.mono (tk_lay hq) _ q1) hz
      obtain ⟨b', h3, h4⟩ := isaAny_kit (Z := Z) hk (t :: ts)
      rw [hb0] at h3
      cases h3
      show rIsiT X.K _ _ _
      rw [S.fx.K]
      exact ⟨_, q, _, _, _, b0, rfl, upd_same, clsv_all _, ty, h4, Po.ok' (rel := RD Z) po3 (ex_lay hq) r2 rfl⟩
  exact ⟨pe, pt_plain S.fx.K pe fun _ => rfl⟩
/-! ### built-ins of a row -/
def nmB : B1 → Option (String × Bk)
  | .tuple => some ("tuple", .t "tuple")
  | .list => some ("list", .t "list")
  | .len => some ("len", .b "len")
  | .all => some ("all", .b "all")
  | .any => some ("any", .b "any")
  | .sum => some ("sum", .b "sum")
  | .max => some ("max", .b "max")
  | .min => some ("min", .b "min")
  | .dict => some ("dict", .t "dict")
  | .sorted => some ("sorted", .b "sorted")
  | _ => none
/-- a new dict -/
theorem Po.newD {W : Wd} {s0 : Sto} {H : Hp} {Ew : XK} {Q : VK} {p : Addr} {kvs : List (D × D)} {gs : List (Key × V)} (po : Po Z Ew W H (.ok (D.ref s0.next) (s0.new (.dct kvs))) (RD Z) Q) (r : RS Z W s0 H) (hp : H p = none) (d : RKs Z W H kvs gs) : Q (.ref p) (upd H p (.dK gs)) := by
  refine po (W.new p) _ _ (ex_new hp) (r.new hp ⟨gs, upd_same, RKs.mono (tk_new hp) _ d⟩) ⟨?_, ?_⟩
  · rw [← r.n]
    exact Nat.lt_succ_self _
  · rw [← r.n, Wd.new_at]
theorem dict_of {W : Wd} {H : Hp} : ∀ {ds : List D} {vs : List V} {acc kvs : List (D × D)} {gs : List (Key × V)}, dictOf acc ds = some kvs → RDs Z W H ds vs → RKs Z W H acc gs →
    ∃ (ps : List Addr) (ms : List (Key × V)), vs = ps.map V.ref ∧ Paired (fun p kv => SqT Z.K H p [kV kv.1, kv.2]) ps ms ∧ RKs Z W H kvs (mergeK gs ms)
  | [], _, _, _, _, h, r, q => by
    cases h
    exact ⟨[], [], r, .nil, q⟩
  | d :: ds, vs, acc, kvs, gs, h, ⟨v, t, ev, r1, r2⟩, q => by
    unfold dictOf at h
    split at h
    · rename_i heq; cases heq
    · rename_i k w r heq
      cases heq
      split at h
      · rename_i a hp
        obtain ⟨p, us, rfl, e1, r3⟩ := r1
        obtain ⟨kq, hq, hk⟩ := key_keyV hp
        obtain ⟨k1, t1, rfl, r4, w1, t2, rfl, r5, e2⟩ := r3
        obtain rfl : t2 = [] := e2
        obtain rfl := keyV_rel hq r4
        obtain ⟨ps, ms, e3, pp, r6⟩ := dict_of h r2 (RKs.put hk hq r5 q)
        exact ⟨p :: ps, (kq, w1) :: ms, by rw [ev, e3]; rfl, .cons e1 pp, r6⟩
      · cases h
    · cases h
theorem ints_of {W : Wd} {H : Hp} : ∀ {ds : List D} {vs : List V} {ns : List Int}, intsD ds = some ns → RDs Z W H ds vs → vs = ns.map V.int
  | [], _, _, h, r => by
    cases h
    exact r
  | d :: ds, vs, ns, h, ⟨v, t, ev, r1, r2⟩ => by
    cases d with
    | int i =>
      have h : (intsD ds).map (i :: ·) = some ns := h
      cases hd : intsD ds with
      | none => rw [hd] at h; cases h
      | some ms =>
        rw [hd] at h
        cases h
        rw [ev, ints_of hd r2, show v = .int i from r1]
        rfl
    | _ => cases h
theorem bls_of {W : Wd} {H : Hp} : ∀ {ds : List D} {vs : List V} {ns : List Bool}, blsD ds = some ns → RDs Z W H ds vs → vs = ns.map V.bl
  | [], _, _, h, r => by
    cases h
    exact r
  | d :: ds, vs, ns, h, ⟨v, t, ev, r1, r2⟩ => by
    cases d with
    | bl i =>
      have h : (blsD ds).map (i :: ·) = some ns := h
      cases hd : blsD ds with
      | none => rw [hd] at h; cases h
      | some ms =>
        rw [hd] at h
        cases h
        rw [ev, bls_of hd r2, show v = .bl i from r1]
        rfl
    | _ => cases h
theorem maxI_spec : ∀ (r : List Int) (a : Int), maxI a r ∈ a :: r ∧ ∀ y ∈ a :: r, y ≤ maxI a r
  | [], a => ⟨List.mem_cons_self, fun y h => by rcases List.mem_cons.mp h with rfl | h; exact Int.le_refl _; cases h⟩
  | b :: r, a => by
    show maxI (if a < b then b else a) r ∈ a :: b :: r ∧ ∀ y ∈ a :: b :: r, y ≤ maxI (if a < b then b else a) r
    obtain ⟨h1, h2⟩ := maxI_spec r (if a < b then b else a)
    have h3 := h2 _ List.mem_cons_self
    refine ⟨?_, fun y hy => ?_⟩
    · rcases List.mem_cons.mp h1 with h | h
      · rw [h]
        by_cases c : a < b
        · rw [if_pos c]; simp
        · rw [if_neg c]; simp
      · exact List.mem_cons_of_mem _ (List.mem_cons_of_mem _ h)
    · rcases List.mem_cons.mp hy with rfl | hy
      · by_cases c : y < b
        · rw [if_pos c] at h3 ⊢; omega
        · rw [if_neg c] at h3 ⊢; omega
      · rcases List.mem_cons.mp hy with rfl | hy
        · by_cases c : a < y
          · rw [if_pos c] at h3 ⊢; omega
          · rw [if_neg c] at h3 ⊢; omega
        · exact h2 y (List.mem_cons_of_mem _ hy)
theorem minI_spec : ∀ (r : List Int) (a : Int), minI a r ∈ a :: r ∧ ∀ y ∈ a :: r, minI a r ≤ y
  | [], a => ⟨List.mem_cons_self, fun y h => by rcases List.mem_cons.mp h with rfl | h; exact Int.le_refl _; cases h⟩
  | b :: r, a => by
    show minI (if b < a then b else a) r ∈ a :: b :: r ∧ ∀ y ∈ a :: b :: r, minI (if b < a then b else a) r ≤ y
    obtain ⟨h1, h2⟩ := minI_spec r (if b < a then b else a)
    have h3 := h2 _ List.mem_cons_self
    refine ⟨?_, fun y hy => ?_⟩
    · rcases List.mem_cons.mp h1 with h | h
      · rw [h]
        by_cases c : b < a
        · rw [if_pos c]; simp
        · rw [if_neg c]; simp
      · exact List.mem_cons_of_mem _ (List.mem_cons_of_mem _ h)
    · rcases List.mem_cons.mp hy with rfl | hy
      · by_cases c : b < y
        · rw [if_pos c] at h3 ⊢; omega
        · rw [if_neg c] at h3 ⊢; omega
      · rcases List.mem_cons.mp hy with rfl | hy
        · by_cases c : y < a
          · rw [if_pos c] at h3 ⊢; omega
          · rw [if_neg c] at h3 ⊢; omega
        · exact h2 y (List.mem_cons_of_mem _ hy)
theorem reads_ints {h : Heap} : ∀ {ns : List Int} {us : List Value}, Vals (ns.map V.int) us → ∃ as, ReadsAll h us (ns.map PyData.int) as
  | [], _, .nil => ⟨_, .nil⟩
  | n :: ns, _, .cons r t => by
    obtain ⟨as, q⟩ := reads_ints (h := h) t
    obtain ⟨k, rfl⟩ := r
    exact ⟨_, .cons (.int n k) q⟩
theorem depth_ints : ∀ ns : List Int, PyData.depthAll (ns.map PyData.int) ≤ 1
  | [] => by simp [PyData.depthAll]
  | n :: ns => by
    have := depth_ints ns
    simp only [List.map_cons, PyData.depthAll, PyData.depth]
    omega
theorem alike_ints (ns : List Int) : PySem.W.AlikeAll (ns.map PyData.int) := by
  refine ⟨fun x hx y hy => ?_, fun x hx => ?_⟩
  · obtain ⟨i, _, rfl⟩ := List.mem_map.mp hx
    obtain ⟨j, _, rfl⟩ := List.mem_map.mp hy
    rfl
  · obtain ⟨i, _, rfl⟩ := List.mem_map.mp hx
    exact fun h => nomatch h
theorem foldl_max : ∀ (ns : List Int) (n : Int), ns.foldl max n = maxI n ns
  | [], _ => rfl
  | k :: ns, n => by
    show ns.foldl max (max n k) = maxI (if n < k then k else n) ns
    rw [foldl_max]
    congr 1
    rw [Int.max_def]
    split <;> split <;> omega
theorem foldl_min : ∀ (ns : List Int) (n : Int), ns.foldl min n = minI n ns
  | [], _ => rfl
  | k :: ns, n => by
    show ns.foldl min (min n k) = minI (if k < n then k else n) ns
    rw [foldl_min]
    congr 1
    rw [Int.min_def]
    split <;> split <;> omega
theorem reads_int {h : Heap} {v : Value} {m : Int} {bs : List Addr} (r : Reads h v (.int m) bs) : ∃ t, v = .int m t := by
  cases r with
  | int i t => exact ⟨t, rfl⟩
theorem max_tupI (hc : X.calm = true) (hu : X.A.units + 10 < cLine) : CallR X (.builtin "max") (fun xs H Q => ∃ a n ns, xs = [V.ref a] ∧ SqT X.K H a ((n :: ns).map V.int) ∧ Q (.int (maxI n ns)) H) := by
  intro pins s σ H xs us Q I r ⟨a, n, ns, e, h, q⟩
  subst e
  rw [Vals.ref1 r]
  obtain ⟨its, rv, ht, hz⟩ := I.tuple h
  obtain ⟨as, rr⟩ := reads_ints (h := s.heap) rv
  have := depth_ints (n :: ns)
  refine PySem.W.max_tuple_data (I.ok.hd hc) (show s.heap.IsTuple a its.toArray from ht) (x := .int n) (xs := ns.map .int) (as := as) (by simpa using rr) (alike_ints (n :: ns)) (by have : PyData.depthAll (PyData.int n :: ns.map PyData.int) ≤ 1 := this; omega) fun i v h' tk bs _ rd k => ?_
  rw [PySem.W.maxD_ints, foldl_max] at rd
  obtain ⟨t, rfl⟩ := reads_int rd
  exact ⟨.int _, H, I.kept k, ⟨t, rfl⟩, q⟩
theorem min_tupI (hc : X.calm = true) (hu : X.A.units + 10 < cLine) : CallR X (.builtin "min") (fun xs H Q => ∃ a n ns, xs = [V.ref a] ∧ SqT X.K H a ((n :: ns).map V.int) ∧ Q (.int (minI n ns)) H) := by
  intro pins s σ H xs us Q I r ⟨a, n, ns, e, h, q⟩
  subst e
  rw [Vals.ref1 r]
  obtain ⟨its, rv, ht, hz⟩ := I.tuple h
  obtain ⟨as, rr⟩ := reads_ints (h := s.heap) rv
  have := depth_ints (n :: ns)
  refine PySem.W.min_tuple_data (I.ok.hd hc) (show s.heap.IsTuple a its.toArray from ht) (x := .int n) (xs := ns.map .int) (as := as) (by simpa using rr) (alike_ints (n :: ns)) (by have : PyData.depthAll (PyData.int n :: ns.map PyData.int) ≤ 1 := this; omega) fun i v h' tk bs _ rd k => ?_
  rw [PySem.W.minD_ints, foldl_min] at rd
  obtain ⟨t, rfl⟩ := reads_int rd
  exact ⟨.int _, H, I.kept k, ⟨t, rfl⟩, q⟩
/-- a list read: what the built-in gives -/
def rB1 (Z : Zn) (b : B1) : List V → Hp → VK → Prop := fun xs H Q => ∃ W s ds a vs, xs = [.ref a] ∧ RS Z W s H ∧ SqL Z.K H a vs ∧ RDs Z W H ds vs ∧ Po Z noE W H (b1D b ds s) (RD Z) Q
theorem b1_sim {gl : List (Str × Gv)} (F : Fx Z M gl X) {b : B1} {x : String} {k : Bk} (h : nmB b = some (x, k)) : CallR X k.v (rB1 Z b) := by
  intro pins s σ H xs us Q I r ⟨W, s0, ds, a, vs, e, rs, h1, h2, po⟩
  rw [← F.K] at h1
  cases b with
  | tuple =>
    cases h
    exact call_tuple_of pins s σ H xs us Q I r ⟨a, vs, e, .inl ⟨h1, fun l hl => Po.ok' po (ex_lay hl) (rs.lay hl) ⟨l, vs, rfl, .of upd_same, RDs.mono (tk_lay hl) _ h2⟩⟩⟩
  | list =>
    cases h
    exact call_list_of pins s σ H xs us Q I r ⟨a, vs, e, .inl h1, fun l hl => po.newL rs hl h2⟩
  | len =>
    cases h
    refine call_len_seq pins s σ H xs us Q I r ⟨a, vs, e, .inl h1, ?_⟩
    rw [h2.length]
    exact Po.ok po rs rfl
  | all =>
    cases h
    obtain ⟨bs, hb, po⟩ := po.ofO
    have ev := bls_of hb h2
    subst ev
    exact cr_all F.calm pins s σ H xs us Q I r ⟨a, bs, e, h1, Po.ok po rs rfl⟩
  | any =>
    cases h
    obtain ⟨bs, hb, po⟩ := po.ofO
    have ev := bls_of hb h2
    subst ev
    exact cr_any F.calm pins s σ H xs us Q I r ⟨a, bs, e, h1, Po.ok po rs rfl⟩
  | sum =>
    cases h
    obtain ⟨bs, hb, po⟩ := po.ofO
    have ev := ints_of hb h2
    subst ev
    exact cr_sum F.calm pins s σ H xs us Q I r ⟨a, bs, e, h1, Po.ok po rs rfl⟩
  | max =>
    cases h
    obtain ⟨bs, hb, po⟩ := po.ofO
    have ev := ints_of hb h2
    subst ev
    cases bs with
    | nil => exact po.elim
    | cons n ns =>
      refine cr_max F.calm pins s σ H xs us Q I r ⟨a, n :: ns, e, h1, Nat.succ_pos _, fun m hm hy => ?_⟩
      obtain ⟨k1, k2⟩ := maxI_spec ns n
      have : m = maxI n ns := Int.le_antisymm (k2 m hm) (hy _ k1)
      rw [this]
      exact Po.ok po rs rfl
  | min =>
    cases h
    obtain ⟨bs, hb, po⟩ := po.ofO
    have ev := ints_of hb h2
    subst ev
    cases bs with
    | nil => exact po.elim
    | cons n ns =>
      refine cr_min F.calm pins s σ H xs us Q I r ⟨a, n :: ns, e, h1, Nat.succ_pos _, fun m hm hy => ?_⟩
      obtain ⟨k1, k2⟩ := minI_spec ns n
      have : m = minI n ns := Int.le_antisymm (hy _ k1) (k2 m hm)
      rw [this]
      exact Po.ok po rs rfl
  | dict =>
    cases h
    obtain ⟨kvs, hb, po⟩ := po.ofO
    obtain ⟨ps, ms, rfl, pp, r6⟩ := dict_of hb h2 (show RKs Z W H [] [] from rfl)
    exact call_dictP F.calm pins s σ H xs us Q I r ⟨a, ps, ms, e, h1, by rw [F.K]; exact pp, fun p hp => Po.newD po rs hp r6⟩
  | sorted =>
    cases h
    obtain ⟨zs, hb, po⟩ := po.ofO
    unfold sortD at hb
    split at hb
    · rename_i ps hw
      cases hc : (alkAll ps && (sOk1 ps || sOk2 ps)) with
      | false => rw [hc] at hb; cases hb
      | true =>
        rw [hc] at hb
        cases hb
        rw [Bool.and_eq_true] at hc
        exact sorted_any F.K (by have := F.hu; omega) pins s σ H xs us Q I r ⟨W, s0, ds, a, vs, ps, e, rs, by rw [← F.K]; exact h1, h2, hw, hc.1, hc.2, fun p ws hp hr => po.newL rs hp hr⟩
    · cases hb
  | _ => cases h
theorem noex_b1D {b : B1} {ds : List D} {s : Sto} : NoEx (b1D b ds s) := by
  unfold b1D
  cases b <;> first
    | exact NoEx.ok
    | (refine NoEx.bind NoEx.ofO fun _ _ => ?_; first | exact NoEx.ok | (split <;> first | exact NoEx.ok | exact NoEx.bad))
def nmOk (b : B1) (x : Str) : Bool := match nmB b with
  | some (y, k) => (Str.ofString y == x) && bltNames.contains x && okName x && decide (bootBuiltins x = some k.v)
  | none => false
theorem s_bq (S : Sx Z M c X Wx) {b : B1} {x : Str} {p : Pos} {a : Expr} {q : Sq} (hn : nmOk b x = true) (hg : glB c.sc x = true) (ha : PE X a (tQ Z M Wx q)) (hs : notStar a = true) : PP Z M X Wx (.Call (.Name x p) [a] [] pos) (.bq b q) := by
  unfold nmOk at hn
  split at hn
  · rename_i y k hk
    rw [Bool.and_eq_true, Bool.and_eq_true, Bool.and_eq_true] at hn
    obtain ⟨⟨⟨_, h2⟩, h3⟩, h4⟩ := hn
    have pe : PE X (.Call (.Name x p) [a] [] pos) (tE Z M Wx (.bq b q)) := by
      refine peI (s_bcall S (b1_sim S.fx hk) hg h2 h3 (of_decide_eq_true h4) (pa_cons ha pa_nil (star_cons hs)) (by simp [hs])) fun σ H Q ⟨W, s, f, rs, rf, po⟩ => ?_
      replace po : Po Z (atS Wx σ) W H ((evq M q f s).bind fun ds s => b1D b ds s) (RD Z) Q := po
      refine ⟨W, s, f, rs, rf, Po.imp (Po.bind (rel1 := RQ Z H) po) fun W' s' H' a b e x r q => ⟨q, fun ⟨W1, s1, ds, e1, x1, r1, ⟨a1, vs, ev, _, h5, _, h6⟩, po1⟩ => ?_⟩⟩
      exact ⟨W1, s1, ds, a1, vs, by rw [ev], r1, .of h5, h6, Po.noex noex_b1D po1⟩
    exact ⟨pe, pt_plain S.fx.K pe fun _ => rfl⟩
  · cases hn
/-- a value read -/
def rB1V (Z : Zn) (b : B1) : List V → Hp → VK → Prop := fun xs H Q => ∃ W s d v, xs = [v] ∧ RS Z W s H ∧ RD Z W H d v ∧ Po Z noE W H (b1V b d s) (RD Z) Q
theorem b1V_sim {gl : List (Str × Gv)} (F : Fx Z M gl X) {b : B1} {x : String} {k : Bk} (h : nmB b = some (x, k)) : CallR X k.v (rB1V Z b) := by
  intro pins s σ H xs us Q I r ⟨W, s0, d, v, e, rs, h1, po⟩
  subst e
  unfold b1V at po
  split at po
  · obtain ⟨a, vs, rfl, q1, q2⟩ := h1
    rw [← F.K] at q1
    split at po
    · cases h
      refine call_len_seq pins s σ H _ us Q I r ⟨a, vs, rfl, .inr q1, ?_⟩
      rw [q2.length]
      exact Po.ok po rs rfl
    · cases h
      refine call_tuple_of pins s σ H _ us Q I r ⟨a, vs, rfl, .inr ⟨q1, Po.ok po rs ⟨a, vs, rfl, by rw [← F.K]; exact q1, q2⟩⟩⟩
    · cases h
      exact call_list_of pins s σ H _ us Q I r ⟨a, vs, rfl, .inr q1, fun l hl => po.newL rs hl q2⟩
    · cases h
      obtain ⟨bs, hb, po⟩ := po.ofO
      have ev := ints_of hb q2
      subst ev
      cases bs with
      | nil => exact po.elim
      | cons n ns =>
        refine max_tupI F.calm (by have := F.hu; omega) pins s σ H _ us Q I r ⟨a, n, ns, rfl, q1, ?_⟩
        exact Po.ok po rs rfl
    · cases h
      obtain ⟨bs, hb, po⟩ := po.ofO
      have ev := ints_of hb q2
      subst ev
      cases bs with
      | nil => exact po.elim
      | cons n ns =>
        refine min_tupI F.calm (by have := F.hu; omega) pins s σ H _ us Q I r ⟨a, n, ns, rfl, q1, ?_⟩
        exact Po.ok po rs rfl
    · exact po.elim
  · obtain ⟨a, vs, rfl, q1, q2⟩ := h1
    exact b1_sim F h pins s σ H _ us Q I r ⟨W, s0, _, a, vs, rfl, rs, q1.l, q2, po⟩
  · rename_i y
    obtain rfl : v = .str y := h1
    split at po
    · cases h
      cases hz : Nat.ble y.cps.size SZ with
      | false => rw [hz] at po; exact po.elim
      | true =>
        rw [hz] at po
        exact call_len_str pins s σ H _ us Q I r ⟨y, rfl, by rw [← SZ_eq]; exact Nat.le_of_ble_eq_true hz, Po.ok po rs rfl⟩
    · exact po.elim
  · obtain ⟨hn, rfl⟩ := h1
    split at po
    · rename_i hx
      obtain ⟨vs, t1, t2⟩ := rs.cell hx
      exact b1_sim F h pins s σ H _ us Q I r ⟨W, s0, _, _, vs, rfl, rs, .of t1, t2, po⟩
    · rename_i hx
      obtain ⟨gs, t1, t2⟩ := rs.cell hx
      split at po
      · cases h
        refine call_lenD pins s σ H _ us Q I r ⟨_, gs, rfl, t1, ?_⟩
        rw [t2.keys]
        exact Po.ok po rs rfl
      · cases h
        refine call_listD F.calm pins s σ H _ us Q I r ⟨_, gs, rfl, .inl t1, fun p hp => ?_⟩
        exact po.newL rs hp t2.keyL
      · cases h
        exact call_dictD pins s σ H _ us Q I r ⟨_, gs, rfl, .inl t1, fun p hp => Po.newD po rs hp t2⟩
      · exact po.elim
    · exact po.elim
  · exact po.elim
theorem noex_b1V {b : B1} {d : D} {s : Sto} : NoEx (b1V b d s) := by
  unfold b1V
  repeat' (first | exact noex_b1D | exact NoEx.ok | exact NoEx.bad | exact NoEx.cond NoEx.ok NoEx.bad | split)
theorem s_b1 (S : Sx Z M c X Wx) {b : B1} {x : Str} {p : Pos} {a : Expr} {e : E} (hn : nmOk b x = true) (hg : glB c.sc x = true) (ha : PP Z M X Wx a e) (hs : notStar a = true) : PP Z M X Wx (.Call (.Name x p) [a] [] pos) (.b1 b e) := by
  unfold nmOk at hn
  split at hn
  · rename_i y k hk
    rw [Bool.and_eq_true, Bool.and_eq_true, Bool.and_eq_true] at hn
    obtain ⟨⟨⟨_, h2⟩, h3⟩, h4⟩ := hn
    have pe : PE X (.Call (.Name x p) [a] [] pos) (tE Z M Wx (.b1 b e)) := by
      refine peI (s_bcall S (b1V_sim S.fx hk) hg h2 h3 (of_decide_eq_true h4) (pa_cons ha.pe pa_nil (star_cons hs)) (by simp [hs])) fun σ H Q ⟨W, s, f, rs, rf, po⟩ => ?_
      replace po : Po Z (atS Wx σ) W H ((ev M e f s).bind fun x s => b1V b x s) (RD Z) Q := po
      refine ⟨W, s, f, rs, rf, Po.imp (Po.bind (rel1 := RD Z) po) fun W' s' H' a b e x r q => ⟨q, fun ⟨W1, s1, d, e1, x1, r1, q1, po1⟩ => ?_⟩⟩
      exact ⟨W1, s1, d, _, rfl, r1, q1, Po.noex noex_b1V po1⟩
    exact ⟨pe, pt_plain S.fx.K pe fun _ => rfl⟩
  · cases hn
/-- {} -/
theorem s_dnew (S : Sx Z M c X Wx) : PP Z M X Wx (.Dict [] [] pos) (.dic []) := by
  have pe : PE X (.Dict [] [] pos) (tE Z M Wx (.dic [])) := peI pe_dnewK fun σ H Q ⟨W, s, f, rs, rf, po⟩ => fun p hp => by
    replace po : Po Z (atS Wx σ) W H (.ok (D.ref s.next) (s.new (.dct []))) (RD Z) Q := po
    exact Po.newD (gs := []) po rs hp rfl
  exact ⟨pe, pt_plain S.fx.K pe fun _ => rfl⟩
/-! ### list(range(n)) -/
theorem rng_rel {W : Wd} {H : Hp} : ∀ (n : Nat) (lo : Int), RDs Z W H (rngD lo n) ((List.range n).map fun i => V.int (lo + (i : Nat)))
  | 0, _ => rfl
  | n + 1, lo => by
    rw [List.range_succ_eq_map, List.map_cons, List.map_map]
    refine ⟨_, _, rfl, ?_, ?_⟩
    · show V.int (lo + (0 : Nat)) = V.int lo
      rw [Int.natCast_zero, Int.add_zero]
    · have := rng_rel (W := W) (H := H) n (lo + 1)
      have e : (List.range n).map ((fun i => V.int (lo + (i : Nat))) ∘ Nat.succ) = (List.range n).map fun i => V.int (lo + 1 + (i : Nat)) := by
        apply List.map_congr_left
        intro i _
        show V.int (lo + ((i + 1 : Nat) : Int)) = _
        congr 1
        omega
      rw [e]
      exact this
theorem allOf_fix (r : List D) (s : Sto) : ∀ (m i : Nat), i + m = r.length → allOf (.fix r) s i m = some (r.drop i)
  | 0, i, h => by
    unfold allOf
    have : r[i]? = none := List.getElem?_eq_none (by omega)
    show (match some r[i]? with
      | none => none
      | some none => some []
      | some (some d) => none) = _
    rw [this, List.drop_of_length_le (by omega)]
  | m + 1, i, h => by
    unfold allOf
    have : r[i]? = some r[i] := List.getElem?_eq_getElem (by omega)
    show (match some r[i]? with
      | none => none
      | some none => some []
      | some (some d) => match allOf (.fix r) s (i + 1) m with
        | some ds => some (d :: ds)
        | none => none) = _
    rw [this, allOf_fix r s m (i + 1) (by omega), List.drop_eq_getElem_cons (by omega : i < r.length)]
theorem s_listRg (S : Sx Z M c X Wx) {p p2 pos2 : Pos} {a : Expr} {e : E} (hg : glB c.sc "list" = true) (hg2 : glB c.sc "range" = true) (ha : PP Z M X Wx a e) (hs : notStar a = true) :
    PP Z M X Wx (.Call (.Name "list" p) [.Call (.Name "range" p2) [a] [] pos2] [] pos) (.bq .list (.it (.rng [e]))) := by
  have pe : PE X (.Call (.Name "list" p) [.Call (.Name "range" p2) [a] [] pos2] [] pos) (tE Z M Wx (.bq .list (.it (.rng [e])))) := by
    refine ⟨fun pins s σ H Q I ⟨W, s0, f, rs, rf, po⟩ => ?_⟩
    replace po : Po Z (atS Wx σ) W H ((ev M e f s0).bind fun x s => (match rngOf [x] with
      | some r => (TR.R.ok (Src.fix r, r.length) s : TR.R (Src × Nat))
      | none => .bad).bind fun p s => (TR.R.ofO (allOf p.1 s 0 p.2) s).bind fun ds s => b1D .list ds s) (RD Z) Q := by
      have e1 : ev M (.bq .list (.it (.rng [e]))) f s0 = (ev M e f s0).bind fun x s => (match rngOf [x] with
        | some r => (TR.R.ok (Src.fix r, r.length) s : TR.R (Src × Nat))
        | none => .bad).bind fun p s => (TR.R.ofO (allOf p.1 s 0 p.2) s).bind fun ds s => b1D .list ds s := by
        show ((((ev M e f s0).bind fun x s => (TR.R.ok [x] s)).bind fun ds s => (match rngOf ds with
          | some r => (TR.R.ok (Src.fix r, r.length) s : TR.R (Src × Nat))
          | none => .bad)).bind fun p s => TR.R.ofO (allOf p.1 s 0 p.2) s).bind _ = _
        rw [R.bind_assoc, R.bind_assoc, R.bind_assoc]
        rfl
      rw [← e1]
      exact po
    refine (pe_listRg S.fx.calm (S.gl hg) (S.nob (by decide +kernel)) (prg_1 (S.gl hg2) (S.nob (by decide +kernel)) ha.pe (star_cons hs)) rfl).run pins s σ H Q I ?_
    rcases det1 rs rf po with ⟨d, s1, _, h⟩ | h
    · refine h.imp fun v H1 ⟨W1, x1, rs1, rf1, rd, po1⟩ => ?_
      cases d with
      | int n =>
        obtain rfl : v = .int n := rd
        have e2 : rngOf [.int n] = cond (rngOk 0 n && Nat.ble n.toNat SZ) (some (rngD 0 n.toNat)) none := rfl
        rw [e2] at po1
        cases hc : (rngOk 0 n && Nat.ble n.toNat SZ) with
        | false => rw [hc] at po1; exact po1.elim
        | true =>
          rw [hc] at po1
          replace po1 : Po Z (atS Wx σ) W1 H1 ((TR.R.ofO (allOf (.fix (rngD 0 n.toNat)) s1 0 (rngD 0 n.toNat).length) s1).bind fun ds s => b1D .list ds s) (RD Z) Q := po1
          rw [allOf_fix _ _ _ _ (Nat.zero_add _)] at po1
          rw [Bool.and_eq_true] at hc
          obtain ⟨_, _, b1, b2⟩ := rngOk_of hc.1
          have hz := Nat.le_of_ble_eq_true hc.2
          refine ⟨n, rfl, ⟨by omega, by omega, b1, b2, ?_⟩, fun q hq => ?_⟩
          · have : SZ = 16777216 := rfl
            rw [Int.sub_zero]
            omega
          · have e3 : rgV 0 n = (List.range n.toNat).map fun i => V.int (0 + (i : Nat)) := by unfold rgV; rw [Int.sub_zero]
            rw [e3]
            exact Po.newL (xs := rngD 0 n.toNat) po1 rs1 hq (rng_rel _ _)
      | _ => exact po1.elim
    · exact h _
  exact ⟨pe, pt_plain S.fx.K pe fun _ => rfl⟩
/-! ### built-ins of one or two numbers -/
def nmI : Bi → Option (String × Bk)
  | .abs => some ("abs", .b "abs")
  | .int => some ("int", .t "int")
  | .max2 => some ("max", .b "max")
  | .min2 => some ("min", .b "min")
  | .str => none
def rBi (Z : Zn) (b : Bi) : List V → Hp → VK → Prop := fun xs H Q => ∃ W s ds, RS Z W s H ∧ RDs Z W H ds xs ∧ Po Z noE W H (biD b ds s) (RD Z) Q
theorem bi_sim {gl : List (Str × Gv)} (F : Fx Z M gl X) {b : Bi} {x : String} {k : Bk} (h : nmI b = some (x, k)) : CallR X k.v (rBi Z b) := by
  intro pins s σ H xs us Q I r ⟨W, s0, ds, rs, h1, po⟩
  unfold biD at po
  split at po
  · rename_i i
    cases h
    refine call_abs pins s σ H xs us Q I r ⟨i, one_of h1, ?_⟩
    have e : ((i.natAbs : Nat) : Int) = if i < 0 then -i else i := by split <;> omega
    rw [← e]
    exact Po.ok po rs rfl
  · cases h
    exact call_int1 pins s σ H xs us Q I r (.inl ⟨_, one_of h1, Po.ok po rs rfl⟩)
  · cases h
    obtain ⟨v, t, ev, e1, et⟩ := h1
    obtain rfl : t = [] := et
    obtain rfl := (show v = .bl _ from e1)
    exact call_int1 pins s σ H xs us Q I r (.inr ⟨_, ev, Po.ok po rs rfl⟩)
  · cases h
    exact call_max2 F.calm pins s σ H xs us Q I r ⟨_, _, two_of h1, Po.ok po rs rfl⟩
  · cases h
    exact call_min2 F.calm pins s σ H xs us Q I r ⟨_, _, two_of h1, Po.ok po rs rfl⟩
  · exact po.elim
theorem noex_biD {b : Bi} {d : List D} {s : Sto} : NoEx (biD b d s) := by
  unfold biD
  split <;> first | exact NoEx.ok | exact NoEx.bad
def niOk (b : Bi) (x : Str) : Bool := match nmI b with
  | some (y, k) => (Str.ofString y == x) && bltNames.contains x && okName x && decide (bootBuiltins x = some k.v)
  | none => false
theorem s_bi (S : Sx Z M c X Wx) {b : Bi} {x : Str} {p : Pos} {a : Expr} {as : List Expr} {es : List E} (hn : niOk b x = true) (hg : glB c.sc x = true) (ha : PA X (a :: as) (tA Z M Wx es)) (hs : (a :: as).all notStar = true) : PP Z M X Wx (.Call (.Name x p) (a :: as) [] pos) (.bi b es) := by
  unfold niOk at hn
  split at hn
  · rename_i y k hk
    rw [Bool.and_eq_true, Bool.and_eq_true, Bool.and_eq_true] at hn
    obtain ⟨⟨⟨_, h2⟩, h3⟩, h4⟩ := hn
    have pe : PE X (.Call (.Name x p) (a :: as) [] pos) (tE Z M Wx (.bi b es)) := by
      refine peI (s_bcall S (bi_sim S.fx hk) hg h2 h3 (of_decide_eq_true h4) ha hs) fun σ H Q ⟨W, s, f, rs, rf, po⟩ => ?_
      replace po : Po Z (atS Wx σ) W H ((evs M es f s).bind fun x s => biD b x s) (RD Z) Q := po
      refine ⟨W, s, f, rs, rf, Po.imp (Po.bind (rel1 := RDs Z) po) fun W' s' H' a b e x r q => ⟨q, fun ⟨W1, s1, d, e1, x1, r1, q1, po1⟩ => ?_⟩⟩
      exact ⟨W1, s1, d, r1, q1, Po.noex noex_biD po1⟩
    exact ⟨pe, pt_plain S.fx.K pe fun _ => rfl⟩
  · cases hn
end
end TR
set_option autoImplicit false
set_option linter.all false
set_option maxRecDepth 100000
/-! len(set(ints)), sorted(set(tuples of ints)). -/
namespace TR
open PySem PySem.Spec PyProof.Rows L2
section
variable {Z : Zn} {M : TR.Sem} {c : Cc} {X : Cx} {Wx : WX} {pos : Pos}
theorem met_fold : ∀ (ns acc : List Int), ns.foldl step_dedup acc = metI acc ns
  | [], _ => rfl
  | n :: ns, acc => by
    show ns.foldl step_dedup (step_dedup acc n) = metI (cond (acc.any (· == n)) acc (acc ++ [n])) ns
    rw [met_fold]
    unfold step_dedup
    cases h : acc.any (· == n) <;> simp
theorem met_eq (ns : List Int) : firstMet (fun i => ns.getD i 0) ns.length = metI [] ns := by
  unfold firstMet
  have e : (List.range ns.length).map (fun i => ns.getD i 0) = ns := by
    apply List.ext_getElem
    · simp
    · intro i h1 h2
      simp [h2]
  rw [e, met_fold]
def tLenG (K : PySem.W.Frag) (ta : TE) : TE := fun σ H Q => ta σ H fun x H1 => ∃ (l : Addr) (ns : List Int), x = V.ref l ∧ SqL K H1 l (ns.map V.int) ∧ ns.length ≤ 4000 ∧ Q (.int (metI [] ns).length) H1
theorem pe_lenG {a : Expr} {ta : TE} {p p2 q : Pos} (calm : X.calm = true) (g1 : Gl X "len") (m1 : X.mg "len" = none) (g2 : Gl X "set") (m2 : X.mg "set" = none) (pa : PE X a ta)
    (st : starEach [a] X.env = (false, eval a X.env) :: starEach [] X.env) : PE X (.Call (.Name "len" p) [.Call (.Name "set" p2) [a] [] q] [] pos) (tLenG X.K ta) := by
  refine ⟨fun pins s σ H Q I h => Call_ (ld_blt I g1 m1 PySem.boot_len ?_)⟩
  refine PyProof.Rows.callWith_builtin1 (args_cons ?_ rfl) rfl rfl
  refine Call_ (ld_blt I g2 m2 boot_set ?_)
  refine PyProof.Rows.callWith_type1 (args_cons (thn (pa.run pins s σ H _ I h) fun v s1 ⟨x, H1, I1, r1, q1⟩ => args_nil ?_) st) st rfl
  obtain ⟨l, ns, rfl, hq, h4, q1⟩ := q1
  cases r1
  obtain ⟨its, r, pl, _⟩ := I1.list hq
  have sz : its.toArray.size = ns.length := by rw [List.size_toArray, ← r.length, List.length_map]
  refine call_set_list (ns := ns) (I1.ok.hd calm) pl.isList (by simpa using r.ints) (by unfold scanBound; omega) fun h' tk hS hk => args_nil ?_
  rw [sz, met_eq] at hS
  obtain ⟨o, es, ep, t, ho, hex, hd, _, _, _, hf, hn⟩ := hS
  have I2 : Inv X pins σ H1 { s1 with heap := h', toks := tk } := I1.kept fun b o e => hk b o (Heap.lt_size e) e
  have lt : (metI [] ns).length ≤ ns.length := by rw [← met_eq]; exact firstMet_length_le _ _
  exact call_len_set ho hex hd hf (by rw [hn] <;> omega) ⟨.int _, H1, I2.tok _, ⟨_, by rw [hn]⟩, q1⟩
theorem s_lenSet (S : Sx Z M c X Wx) {p p2 q : Pos} {a : Expr} {e : E} (hg : glB c.sc "len" = true) (hg2 : glB c.sc "set" = true) (ha : PP Z M X Wx a e) (hs : notStar a = true) :
    PP Z M X Wx (.Call (.Name "len" p) [.Call (.Name "set" p2) [a] [] q] [] pos) (.b1 .lenSet e) := by
  have pe : PE X (.Call (.Name "len" p) [.Call (.Name "set" p2) [a] [] q] [] pos) (tE Z M Wx (.b1 .lenSet e)) := by
    refine peI (pe_lenG S.fx.calm (S.gl hg) (S.nob (by decide +kernel)) (S.gl hg2) (S.nob (by decide +kernel)) ha.pe (star_cons hs)) fun σ H Q ⟨W, s, f, rs, rf, po⟩ => ?_
    replace po : Po Z (atS Wx σ) W H ((ev M e f s).bind fun x s => b1V .lenSet x s) (RD Z) Q := po
    refine ⟨W, s, f, rs, rf, Po.imp (Po.bind (rel1 := RD Z) po) fun W' s' H' a b e x r q => ⟨q, fun ⟨W1, s1, d, e1, x1, r1, q1, po1⟩ => ?_⟩⟩
    cases d with
    | ref a =>
      obtain ⟨hn, rfl⟩ := q1
      have e0 : b1V .lenSet (.ref a) s1 = (match s1.get a with
        | some (.lst ds) => b1D .lenSet ds s1
        | _ => .bad) := by
        cases hx : s1.get a with
        | none => simp only [b1V, hx]
        | some c => cases c <;> simp only [b1V, hx]
      rw [e0] at po1
      split at po1
      · rename_i hx
        obtain ⟨vs, t1, t2⟩ := r1.cell hx
        replace po1 : Po Z (atS Wx σ) W1 H' ((TR.R.ofO (lenSetD _) s1).bind fun n s => .ok (.int n) s) (RD Z) Q := po1
        obtain ⟨n, hb, po1⟩ := po1.ofO
        unfold lenSetD at hb
        split at hb
        · rename_i ns hi
          cases hc : Nat.ble ns.length 4000 with
          | false => rw [hc] at hb; cases hb
          | true =>
            rw [hc] at hb
            cases hb
            have ev := ints_of hi t2
            subst ev
            exact ⟨_, ns, rfl, .of t1, Nat.le_of_ble_eq_true hc, Po.ok po1 r1 rfl⟩
        · cases hb
      · exact po1.elim
    | rol ds =>
      replace po1 : Po Z (atS Wx σ) W1 H' ((TR.R.ofO (lenSetD ds) s1).bind fun n s => .ok (.int n) s) (RD Z) Q := po1
      obtain ⟨n, hb, po1⟩ := po1.ofO
      obtain ⟨a, vs, rfl, t1, t2⟩ := q1
      unfold lenSetD at hb
      split at hb
      · rename_i ns hi
        cases hc : Nat.ble ns.length 4000 with
        | false => rw [hc] at hb; cases hb
        | true =>
          rw [hc] at hb
          cases hb
          have ev := ints_of hi t2
          subst ev
          exact ⟨_, ns, rfl, by rw [S.fx.K]; exact t1.l, Nat.le_of_ble_eq_true hc, Po.ok po1 r1 rfl⟩
      · cases hb
    | _ => exact po1.elim
  exact ⟨pe, pt_plain S.fx.K pe fun _ => rfl⟩
/-! ### sorted sets of tuples -/
theorem cod_eq : ∀ ns : List Int, TS.code 4096 ns = codI ns
  | [] => rfl
  | n :: r => by
    show n * 4096 ^ r.length + TS.code 4096 r = n * 4096 ^ r.length + codI r
    rw [cod_eq r]
theorem tups_of {W : Wd} {H : Hp} : ∀ {ds : List D} {vs : List V} {ns : List (List Int)}, mapO tupI ds = some ns → RDs Z W H ds vs → ∃ ks : List (Addr × List Int), vs = (ks.map fun p => V.ref p.1) ∧ ks.map (·.2) = ns ∧ ∀ p ∈ ks, SqT Z.K H p.1 (p.2.map V.int)
  | [], _, _, h, r => by
    cases h
    exact ⟨[], r, rfl, fun _ h => nomatch h⟩
  | d :: ds, vs, ns, h, ⟨v, t, ev, r1, r2⟩ => by
    unfold mapO at h
    split at h
    · rename_i k hk
      split at h
      · rename_i ks hks
        cases h
        cases d with
        | tup es =>
          obtain ⟨a, us, rfl, sq, ri⟩ := r1
          have eu := ints_of (show intsD es = some k from hk) ri
          obtain ⟨ps, e1, e2, e3⟩ := tups_of hks r2
          refine ⟨(a, k) :: ps, by rw [ev, e1]; rfl, by rw [List.map_cons, e2], fun p hp => ?_⟩
          rcases List.mem_cons.mp hp with rfl | hp
          · rw [← eu]; exact sq
          · exact e3 p hp
        | _ => cases hk
      · cases h
    · cases h
theorem inc_pw : ∀ {l : List (List Int)}, incC l = true → l.Pairwise fun a b => codI a < codI b
  | [], _ => .nil
  | a :: r, h => by
    have h : (r.all (fun b => decide (codI a < codI b)) && incC r) = true := h
    rw [Bool.and_eq_true] at h
    exact .cons (fun b hb => of_decide_eq_true (List.all_eq_true.mp h.1 b hb)) (inc_pw h.2)
theorem inc_eq : ∀ {l m : List (List Int)}, l.Pairwise (fun a b => codI a < codI b) → m.Pairwise (fun a b => codI a < codI b) → (∀ x, x ∈ l ↔ x ∈ m) → l = m
  | [], [], _, _, _ => rfl
  | [], b :: m, _, _, h => absurd ((h b).mpr List.mem_cons_self) (by simp)
  | a :: l, [], _, _, h => absurd ((h a).mp List.mem_cons_self) (by simp)
  | a :: l, b :: m, h1, h2, h => by
    obtain ⟨p1, p2⟩ := List.pairwise_cons.mp h1
    obtain ⟨q1, q2⟩ := List.pairwise_cons.mp h2
    have e : a = b := by
      rcases List.mem_cons.mp ((h a).mp List.mem_cons_self) with e | ha
      · exact e
      · rcases List.mem_cons.mp ((h b).mpr List.mem_cons_self) with e | hb
        · exact e.symm
        · have := q1 a ha
          have := p1 b hb
          omega
    subst e
    have : l = m := inc_eq p2 q2 fun x => ⟨fun hx => by
      rcases List.mem_cons.mp ((h x).mp (List.mem_cons_of_mem _ hx)) with e | e
      · subst e
        have := p1 x hx
        omega
      · exact e, fun hx => by
      rcases List.mem_cons.mp ((h x).mpr (List.mem_cons_of_mem _ hx)) with e | e
      · subst e
        have := q1 x hx
        omega
      · exact e⟩
    rw [this]
/-- weakly ordered, no two alike, all of a strictly ordered row: it is that row -/
theorem inc_perm {l m : List (List Int)} (hm : m.Pairwise fun a b => codI a < codI b) (hl : l.Pairwise fun a b => codI a ≤ codI b) (hn : l.Nodup) (h : ∀ x, x ∈ l ↔ x ∈ m) : l = m := by
  refine inc_eq ?_ hm h
  have inj : ∀ x ∈ m, ∀ y ∈ m, codI x = codI y → x = y := fun x hx y hy e => by
    obtain ⟨i, hi, rfl⟩ := List.getElem_of_mem hx
    obtain ⟨j, hj, rfl⟩ := List.getElem_of_mem hy
    have pw := List.pairwise_iff_getElem.mp hm
    rcases Nat.lt_trichotomy i j with c | c | c
    · have := pw i j hi hj c; omega
    · subst c; rfl
    · have := pw j i hj hi c; omega
  refine List.Pairwise.imp_of_mem (fun {a b} ha hb ⟨h1, h2⟩ => ?_) (List.Pairwise.and hl hn)
  rcases Int.lt_or_eq_of_le h1 with c | c
  · exact c
  · exact absurd (inj a ((h a).mp ha) b ((h b).mp hb) c) h2
theorem int_rel {W : Wd} {H : Hp} : ∀ ns : List Int, RDs Z W H (ns.map D.int) (ns.map V.int)
  | [] => rfl
  | n :: ns => ⟨V.int n, _, rfl, rfl, int_rel ns⟩
theorem tup_rel {W : Wd} {H : Hp} : ∀ {L : List (Addr × List Int)}, (∀ p ∈ L, SqT Z.K H p.1 (p.2.map V.int)) → RDs Z W H ((L.map (·.2)).map fun n => D.tup (n.map D.int)) (L.map fun p => V.ref p.1)
  | [], _ => rfl
  | p :: L, h => ⟨V.ref p.1, _, rfl, ⟨p.1, _, rfl, h p List.mem_cons_self, int_rel _⟩, tup_rel fun q hq => h q (List.mem_cons_of_mem _ hq)⟩
theorem s_sortSet (S : Sx Z M c X Wx) {p p2 pos2 : Pos} {a : Expr} {q : Sq} (hg : glB c.sc "sorted" = true) (hg2 : glB c.sc "set" = true) (ha : PE X a (tQ Z M Wx q)) (hs : notStar a = true) :
    PP Z M X Wx (.Call (.Name "sorted" p) [.Call (.Name "set" p2) [a] [] pos2] [] pos) (.bq .sortedSet q) := by
  have p1 := s_bcall (pos := pos2) (p := p2) (k := .t "set") S (cr_setOfT S.fx.calm S.fx.hu) hg2 (by decide +kernel) (by decide +kernel) (by decide +kernel) (pa_cons ha pa_nil (star_cons hs)) (by simp [hs])
  have pe : PE X (.Call (.Name "sorted" p) [.Call (.Name "set" p2) [a] [] pos2] [] pos) (tE Z M Wx (.bq .sortedSet q)) := by
    refine peI (s_bcall (k := .b "sorted") S (cr_sortedT S.fx.calm) hg (by decide +kernel) (by decide +kernel) (by decide +kernel) (pa_cons p1 pa_nil (star_cons rfl)) rfl) fun σ H Q ⟨W, s, f, rs, rf, po⟩ => ?_
    replace po : Po Z (atS Wx σ) W H ((evq M q f s).bind fun ds s => b1D .sortedSet ds s) (RD Z) Q := po
    refine ⟨W, s, f, rs, rf, Po.imp (Po.bind (rel1 := RQ Z H) po) fun W' s' H' a b e x r q => ⟨q, fun ⟨W1, s1, ds, e1, x1, r1, ⟨a1, vs, ev, _, h5, _, h6⟩, po1⟩ => ?_⟩⟩
    replace po1 : Po Z (atS Wx σ) W1 H' ((TR.R.ofO (sortSetD ds) s1).bind fun xs s => .ok (.ref s.next) (s.new (.lst xs))) (RD Z) Q := po1
    obtain ⟨zs, hb, po1⟩ := po1.ofO
    unfold sortSetD at hb
    split at hb
    · rename_i ns hns
      cases hc : okC ns (srtC ns) with
      | false => rw [hc] at hb; cases hb
      | true =>
        rw [hc] at hb
        cases hb
        unfold okC at hc
        simp only [Bool.and_eq_true] at hc
        obtain ⟨⟨⟨⟨⟨c1, c2⟩, c3⟩, c4⟩, c5⟩, c6⟩ := hc
        obtain ⟨ks, e1, e2, e3⟩ := tups_of hns h6
        have hlen : ks.length = ns.length := by rw [← e2, List.length_map]
        have hB : ∀ n ∈ ns, n.length = lenC ns ∧ TS.Bd 4096 n := fun n hn => by
          have := List.all_eq_true.mp c3 n hn
          rw [Bool.and_eq_true] at this
          refine ⟨Nat.eq_of_beq_eq_true this.1, fun m hm => ?_⟩
          have := List.all_eq_true.mp this.2 m hm
          rw [Bool.and_eq_true] at this
          exact ⟨of_decide_eq_true this.1, of_decide_eq_true this.2⟩
        rw [ev]
        refine ⟨a1, ks, rfl, by rw [← e1]; exact .of h5, fun p hp => by rw [S.fx.K]; exact e3 p hp, by rw [hlen]; simpa [Nat.blt_eq] using c1, fun t L ht hL1 hL2 => ?_⟩
        have tk : Tk W1 H' W1 (upd H' t (SetTO X.prog X.w t L)) := tk_lay ht
        refine ⟨t, L, lenC ns, 4096, rfl, upd_same, fun p hp => by rw [S.fx.K]; exact tk.sqT (e3 p (hL1 p hp)), (by simpa [Nat.blt_eq] using c2 : 0 < lenC ns), fun p hp => hB p.2 (by rw [← e2]; exact List.mem_map_of_mem (hL1 p hp)), fun L' u pm nd _ pw hu => ?_⟩
        have el : L'.map (·.2) = srtC ns := by
          refine inc_perm (inc_pw c4) (List.pairwise_map.mpr (pw.imp fun {a b} h => by rw [cod_eq, cod_eq] at h; exact h)) nd fun x => ⟨fun hx => ?_, fun hx => ?_⟩
          · obtain ⟨q, hq, rfl⟩ := List.mem_map.mp hx
            have : q.2 ∈ ns := by rw [← e2]; exact List.mem_map_of_mem (hL1 q (pm.mem_iff.mp hq))
            have := List.all_eq_true.mp c6 _ this
            obtain ⟨y, hy, e⟩ := List.any_eq_true.mp this
            rw [← eq_of_beq e]; exact hy
          · have := List.all_eq_true.mp c5 _ hx
            obtain ⟨y, hy, e⟩ := List.any_eq_true.mp this
            rw [eq_of_beq e] at hy
            rw [← e2] at hy
            obtain ⟨q, hq, rfl⟩ := List.mem_map.mp hy
            obtain ⟨q2, hq2, e4⟩ := List.mem_map.mp (hL2 q hq)
            exact List.mem_map.mpr ⟨q2, pm.mem_iff.mpr hq2, e4⟩
        have r2 := r1.lay (o := SetTO X.prog X.w t L) ht
        refine Po.newL (Po.later po1 (ex_lay ht)) r2 hu ?_
        rw [← el]
        exact tup_rel fun p hp => tk.sqT (e3 p (hL1 p (pm.mem_iff.mp hp)))
    · cases hb
  exact ⟨pe, pt_plain S.fx.K pe fun _ => rfl⟩
end
end TR
set_option autoImplicit false
set_option linter.all false
set_option maxRecDepth 100000
/-! list(range(a, b)), tuple(range(a)), tuple(range(a, b)). -/
namespace TR
open PySem PySem.Spec PyProof.Rows L2
section
variable {Z : Zn} {M : TR.Sem} {c : Cc} {X : Cx} {Wx : WX} {pos : Pos}
def endRg (b : B1) (o : Option (List D)) (s : Sto) : TR.R D := (match o with
  | some r => (TR.R.ok (Src.fix r, r.length) s : TR.R (Src × Nat))
  | none => .bad).bind fun p s => (TR.R.ofO (allOf p.1 s 0 p.2) s).bind fun ds s => b1D b ds s
theorem rg_end {Ew : XK} {W1 : Wd} {H1 : Hp} {s1 : Sto} {Q : VK} {b : B1} {lo hi : Int} (po : Po Z Ew W1 H1 (endRg b (cond (rngOk lo hi && Nat.ble (hi - lo).toNat SZ) (some (rngD lo (hi - lo).toNat)) none) s1) (RD Z) Q) :
    RgOk lo hi ∧ Po Z Ew W1 H1 (b1D b (rngD lo (hi - lo).toNat) s1) (RD Z) Q := by
  cases hc : (rngOk lo hi && Nat.ble (hi - lo).toNat SZ) with
  | false => rw [hc] at po; exact po.elim
  | true =>
    rw [hc] at po
    replace po : Po Z Ew W1 H1 ((TR.R.ofO (allOf (.fix (rngD lo (hi - lo).toNat)) s1 0 (rngD lo (hi - lo).toNat).length) s1).bind fun ds s => b1D b ds s) (RD Z) Q := po
    rw [allOf_fix _ _ _ _ (Nat.zero_add _)] at po
    rw [Bool.and_eq_true] at hc
    obtain ⟨b1, b2, b3, b4⟩ := rngOk_of hc.1
    have hz := Nat.le_of_ble_eq_true hc.2
    have sz : SZ = 16777216 := rfl
    exact ⟨⟨b1, b2, b3, b4, by omega⟩, po⟩
theorem rg_lst {Ew : XK} {W1 : Wd} {H1 : Hp} {s1 : Sto} {Q : VK} {lo hi : Int} {q : Addr} (rs : RS Z W1 s1 H1) (hq : H1 q = none) (po : Po Z Ew W1 H1 (b1D .list (rngD lo (hi - lo).toNat) s1) (RD Z) Q) : Q (.ref q) (upd H1 q (.lst (rgV lo hi))) :=
  Po.newL (xs := rngD lo (hi - lo).toNat) po rs hq (rng_rel _ _)
theorem rg_tup {Ew : XK} {W1 : Wd} {H1 : Hp} {s1 : Sto} {Q : VK} {lo hi : Int} {q : Addr} (rs : RS Z W1 s1 H1) (hq : H1 q = none) (po : Po Z Ew W1 H1 (b1D .tuple (rngD lo (hi - lo).toNat) s1) (RD Z) Q) : Q (.ref q) (upd H1 q (.tup (rgV lo hi))) := by
  replace po : Po Z Ew W1 H1 (.ok (.tup (rngD lo (hi - lo).toNat)) s1) (RD Z) Q := po
  exact Po.ok' po (ex_lay hq) (rs.lay hq) ⟨q, _, rfl, .of upd_same, RDs.mono (tk_lay hq) _ (rng_rel _ _)⟩
/-- what the range asks, one place -/
theorem rg1_run {b : B1} {e : E} {σ : L2.St} {H : Hp} {Q : VK} (h : tE Z M Wx (.bq b (.it (.rng [e]))) σ H Q) :
    tRg1 (tE Z M Wx e) σ H fun lo hi H1 => ∃ W1 s1, RS Z W1 s1 H1 ∧ RgOk lo hi ∧ Po Z (atS Wx σ) W1 H1 (b1D b (rngD lo (hi - lo).toNat) s1) (RD Z) Q := by
  obtain ⟨W, s0, f, rs, rf, po⟩ := h
  replace po : Po Z (atS Wx σ) W H ((ev M e f s0).bind fun x s => endRg b (rngOf [x]) s) (RD Z) Q := by
    have e1 : ev M (.bq b (.it (.rng [e]))) f s0 = (ev M e f s0).bind fun x s => endRg b (rngOf [x]) s := by
      show ((((ev M e f s0).bind fun x s => (TR.R.ok [x] s)).bind fun ds s => (match rngOf ds with
        | some r => (TR.R.ok (Src.fix r, r.length) s : TR.R (Src × Nat))
        | none => .bad)).bind fun p s => TR.R.ofO (allOf p.1 s 0 p.2) s).bind _ = _
      rw [R.bind_assoc, R.bind_assoc, R.bind_assoc]
      rfl
    rw [← e1]
    exact po
  rcases det1 rs rf po with ⟨d, s1, _, h⟩ | h
  · refine h.imp fun v H1 ⟨W1, x1, rs1, rf1, rd, po1⟩ => ?_
    cases d with
    | int n =>
      obtain rfl : v = .int n := rd
      have e2 : rngOf [.int n] = cond (rngOk 0 n && Nat.ble (n - 0).toNat SZ) (some (rngD 0 (n - 0).toNat)) none := by rw [Int.sub_zero]; rfl
      rw [e2] at po1
      obtain ⟨g1, g2⟩ := rg_end po1
      exact ⟨n, rfl, W1, s1, rs1, g1, g2⟩
    | _ => exact po1.elim
  · exact h _
/-- two places -/
theorem rg2_run {b : B1} {e g : E} {σ : L2.St} {H : Hp} {Q : VK} (h : tE Z M Wx (.bq b (.it (.rng [e, g]))) σ H Q) :
    tRg2 (tE Z M Wx e) (tE Z M Wx g) σ H fun lo hi H1 => ∃ W1 s1, RS Z W1 s1 H1 ∧ RgOk lo hi ∧ Po Z (atS Wx σ) W1 H1 (b1D b (rngD lo (hi - lo).toNat) s1) (RD Z) Q := by
  obtain ⟨W, s0, f, rs, rf, po⟩ := h
  replace po : Po Z (atS Wx σ) W H ((ev M e f s0).bind fun x s => (ev M g f s).bind fun y s => endRg b (rngOf [x, y]) s) (RD Z) Q := by
    have e1 : ev M (.bq b (.it (.rng [e, g]))) f s0 = (ev M e f s0).bind fun x s => (ev M g f s).bind fun y s => endRg b (rngOf [x, y]) s := by
      show ((((ev M e f s0).bind fun x s => ((ev M g f s).bind fun y s => (TR.R.ok [y] s)).bind fun xs s => (TR.R.ok (x :: xs) s)).bind fun ds s => (match rngOf ds with
        | some r => (TR.R.ok (Src.fix r, r.length) s : TR.R (Src × Nat))
        | none => .bad)).bind fun p s => TR.R.ofO (allOf p.1 s 0 p.2) s).bind _ = _
      cases ev M e f s0 with
      | ok x s =>
        show (((((ev M g f s).bind _).bind _).bind _).bind _).bind _ = (ev M g f s).bind _
        cases ev M g f s with
        | ok y s =>
          show ((match rngOf [x, y] with
            | some r => (TR.R.ok (Src.fix r, r.length) s : TR.R (Src × Nat))
            | none => .bad).bind fun p s => TR.R.ofO (allOf p.1 s 0 p.2) s).bind _ = _
          rw [R.bind_assoc]
          rfl
        | ex e s => rfl
        | bad => rfl
      | ex e s => rfl
      | bad => rfl
    rw [← e1]
    exact po
  rcases det1 rs rf po with ⟨d, s1, _, h⟩ | h
  · refine h.imp fun v H1 ⟨W1, x1, rs1, rf1, rd, po1⟩ => ?_
    rcases det1 rs1 rf1 po1 with ⟨d2, s2, _, h2⟩ | h2
    · refine h2.imp fun v2 H2 ⟨W2, x2, rs2, rf2, rd2, po2⟩ => ?_
      cases d with
      | int n => cases d2 with
        | int m =>
          have rd' : v = .int n := rd
          obtain rfl : v2 = .int m := rd2
          have e2 : rngOf [.int n, .int m] = cond (rngOk n m && Nat.ble (m - n).toNat SZ) (some (rngD n (m - n).toNat)) none := rfl
          rw [e2] at po2
          obtain ⟨g1, g2⟩ := rg_end po2
          exact ⟨n, m, rd', rfl, W2, s2, rs2, g1, g2⟩
        | _ => exact po2.elim
      | _ => cases d2 <;> exact po2.elim
    · exact h2 _
  · exact h _
theorem s_tupRg1 (S : Sx Z M c X Wx) {p p2 pos2 : Pos} {a : Expr} {e : E} (hg : glB c.sc "tuple" = true) (hg2 : glB c.sc "range" = true) (ha : PP Z M X Wx a e) (hs : notStar a = true) :
    PP Z M X Wx (.Call (.Name "tuple" p) [.Call (.Name "range" p2) [a] [] pos2] [] pos) (.bq .tuple (.it (.rng [e]))) := by
  have pe : PE X (.Call (.Name "tuple" p) [.Call (.Name "range" p2) [a] [] pos2] [] pos) (tE Z M Wx (.bq .tuple (.it (.rng [e])))) :=
    peI (pe_tupRg S.fx.calm (S.gl hg) (S.nob (by decide +kernel)) (prg_1 (S.gl hg2) (S.nob (by decide +kernel)) ha.pe (star_cons hs)) rfl) fun σ H Q h =>
      (rg1_run h).imp fun v H1 ⟨n, ev, W1, s1, rs, g1, g2⟩ => ⟨n, ev, g1, fun q hq => rg_tup rs hq g2⟩
  exact ⟨pe, pt_plain S.fx.K pe fun _ => rfl⟩
theorem s_tupRg2 (S : Sx Z M c X Wx) {p p2 pos2 : Pos} {a b : Expr} {e g : E} (hg : glB c.sc "tuple" = true) (hg2 : glB c.sc "range" = true) (ha : PP Z M X Wx a e) (hb : PP Z M X Wx b g) (hs : notStar a = true) (hs2 : notStar b = true) :
    PP Z M X Wx (.Call (.Name "tuple" p) [.Call (.Name "range" p2) [a, b] [] pos2] [] pos) (.bq .tuple (.it (.rng [e, g]))) := by
  have pe : PE X (.Call (.Name "tuple" p) [.Call (.Name "range" p2) [a, b] [] pos2] [] pos) (tE Z M Wx (.bq .tuple (.it (.rng [e, g])))) :=
    peI (pe_tupRg S.fx.calm (S.gl hg) (S.nob (by decide +kernel)) (prg_2 (S.gl hg2) (S.nob (by decide +kernel)) ha.pe hb.pe (star_cons hs) (star_cons hs2) (star_none (by simp [hs2]))) rfl) fun σ H Q h =>
      (rg2_run h).imp fun v H1 h1 => h1.imp fun v2 H2 ⟨n, m, e1, e2, W1, s1, rs, g1, g2⟩ => ⟨n, m, e1, e2, g1, fun q hq => rg_tup rs hq g2⟩
  exact ⟨pe, pt_plain S.fx.K pe fun _ => rfl⟩
theorem s_listRg2 (S : Sx Z M c X Wx) {p p2 pos2 : Pos} {a b : Expr} {e g : E} (hg : glB c.sc "list" = true) (hg2 : glB c.sc "range" = true) (ha : PP Z M X Wx a e) (hb : PP Z M X Wx b g) (hs : notStar a = true) (hs2 : notStar b = true) :
    PP Z M X Wx (.Call (.Name "list" p) [.Call (.Name "range" p2) [a, b] [] pos2] [] pos) (.bq .list (.it (.rng [e, g]))) := by
  have pe : PE X (.Call (.Name "list" p) [.Call (.Name "range" p2) [a, b] [] pos2] [] pos) (tE Z M Wx (.bq .list (.it (.rng [e, g])))) :=
    peI (pe_listRg S.fx.calm (S.gl hg) (S.nob (by decide +kernel)) (prg_2 (S.gl hg2) (S.nob (by decide +kernel)) ha.pe hb.pe (star_cons hs) (star_cons hs2) (star_none (by simp [hs2]))) rfl) fun σ H Q h =>
      (rg2_run h).imp fun v H1 h1 => h1.imp fun v2 H2 ⟨n, m, e1, e2, W1, s1, rs, g1, g2⟩ => ⟨n, m, e1, e2, g1, fun q hq => rg_lst rs hq g2⟩
  exact ⟨pe, pt_plain S.fx.K pe fun _ => rfl⟩
end
end TR
set_option autoImplicit false
set_option linter.all false
set_option maxRecDepth 100000
/-! A dict written out. -/
namespace TR
open PySem PySem.Spec PyProof.Rows L2
section
variable {Z : Zn} {M : Sem} {c : Cc} {X : Cx} {Wx : WX} {pos : Pos}
theorem adoptD {W0 W1 : Wd} {H0 H1 : Hp} {s1 : Sto} {kvs : List (D × D)} {gs : List (Key × V)} {a : Addr} (x : Ex W0 H0 W1 H1) (r : RS Z W1 s1 H1) (h0 : H0 a = none) (e : H1 a = some (.dK gs)) (out : ∀ i, i < W1.n → W1.ρ i ≠ a) (rr : RKs Z W1 H1 kvs gs) :
    ∃ W', Ex W0 H0 W' H1 ∧ RS Z W' (s1.new (.dct kvs)) H1 ∧ RD Z W' H1 (D.ref s1.next) (.ref a) := by
  have tk : Tk W1 H1 (W1.new a) H1 := ⟨Nat.le_succ _, fun i h => Wd.new_old h, fun _ _ _ e => e⟩
  refine ⟨W1.new a, ⟨Nat.le_succ_of_le x.le, fun i h => (Wd.new_old (Nat.lt_of_lt_of_le h x.le)).trans (x.ρ i h), fun i h1 h2 => ?_, x.kp, x.th⟩, ?_, ?_⟩
  · rcases Nat.lt_succ_iff_lt_or_eq.mp h2 with h | rfl
    · rw [Wd.new_old h]
      exact x.new i h1 h
    · rw [Wd.new_at]
      exact h0
  · refine ⟨congrArg Nat.succ r.n, fun i j hi hj e => ?_, fun i hi => ?_, fun i c' e => ?_⟩
    · rcases Nat.lt_succ_iff_lt_or_eq.mp hi with hi' | rfl <;> rcases Nat.lt_succ_iff_lt_or_eq.mp hj with hj' | rfl
      · rw [Wd.new_old hi', Wd.new_old hj'] at e
        exact r.inj i j hi' hj' e
      · rw [Wd.new_old hi', Wd.new_at] at e
        exact absurd e (out i hi')
      · rw [Wd.new_old hj', Wd.new_at] at e
        exact absurd e.symm (out j hj')
      · rfl
    · rcases Nat.lt_succ_iff_lt_or_eq.mp hi with hi' | rfl
      · obtain ⟨c', e', hc'⟩ := r.has i hi'
        refine ⟨c', ?_, ?_⟩
        · rw [look_new, if_neg (by rw [← r.n]; exact (Nat.ne_of_lt hi').symm)]
          exact e'
        · rw [Wd.new_old hi']
          exact hc'.mono tk rfl
      · refine ⟨.dct kvs, ?_, ?_⟩
        · rw [look_new, if_pos r.n.symm]
        · rw [Wd.new_at]
          exact ⟨gs, e, RKs.mono tk _ rr⟩
    · rw [look_new] at e
      by_cases h : s1.next = i
      · show i < W1.n + 1
        rw [r.n, h]
        exact Nat.lt_succ_self _
      · rw [if_neg h] at e
        exact Nat.lt_succ_of_lt (r.lt i c' e)
  · refine ⟨?_, ?_⟩
    · show s1.next < W1.n + 1
      rw [r.n]
      exact Nat.lt_succ_self _
    · rw [← r.n, Wd.new_at]
def flatP : List (V × V) → List V
  | [] => []
  | (x, y) :: r => x :: y :: flatP r
theorem dict_of2 {W : Wd} {H : Hp} : ∀ {ps : List (V × V)} {ds : List D} {acc kvs : List (D × D)} {gs : List (Key × V)}, dictOf acc (pairUp ds) = some kvs → RDs Z W H ds (flatP ps) → RKs Z W H acc gs →
    ∃ ms : List (Key × V), ps = ms.map (fun kv => (kV kv.1, kv.2)) ∧ RKs Z W H kvs (mergeK gs ms)
  | [], ds, acc, kvs, gs, h, r, q => by
    cases ds with
    | nil => cases h; exact ⟨[], rfl, q⟩
    | cons d ds => obtain ⟨v, t, ev, _, _⟩ := r; cases ev
  | (x, y) :: ps, [], acc, kvs, gs, h, r, q => by
    have r : flatP ((x, y) :: ps) = [] := r
    cases r
  | (x, y) :: ps, [d], acc, kvs, gs, h, r, q => by
    obtain ⟨v, t, ev, r1, r2⟩ := r
    have r2 : t = [] := r2
    subst r2
    cases ev
  | (x, y) :: ps, k :: w :: ds, acc, kvs, gs, h, r, q => by
    obtain ⟨v, t, ev, r1, v2, t2, ev2, r2, r3⟩ := r
    have ev : x :: y :: flatP ps = v :: t := ev
    obtain ⟨rfl, rfl⟩ := List.cons.inj ev
    obtain ⟨rfl, rfl⟩ := List.cons.inj ev2
    unfold pairUp dictOf at h
    split at h
    · rename_i a hp
      obtain ⟨kq, hq, hk⟩ := key_keyV hp
      obtain rfl := keyV_rel hq r1
      obtain ⟨ms, e3, r6⟩ := dict_of2 h r3 (RKs.put hk hq r2 q)
      exact ⟨(kq, y) :: ms, by rw [e3]; rfl, r6⟩
    · cases h
def trsE (Z : Zn) (M : Sem) (Wx : WX) : List E → List (TE × TE)
  | k :: v :: r => (tE Z M Wx k, tE Z M Wx v) :: trsE Z M Wx r
  | _ => []
def evenL : List E → Bool
  | [] => true
  | [_] => false
  | _ :: _ :: r => evenL r
theorem flatP_app : ∀ a b : List (V × V), flatP (a ++ b) = flatP a ++ flatP b
  | [], b => rfl
  | (x, y) :: a, b => by show x :: y :: flatP (a ++ b) = _; rw [flatP_app a b]; rfl
theorem disp_core {p : Addr} {W0 : Wd} {H0 : Hp} {G : List D → Sto → TR.R D} {σ : L2.St} {Q : VK} {rel : Rel D V} {K : List (V × V) → Hp → Prop} {N : Nat}
    (hK : ∀ W2 s2 all ps H2, ps.length ≤ N → Ex W0 H0 W2 H2 → RS Z W2 s2 H2 → (∀ i, i < W2.n → W2.ρ i ≠ p) → H2 p = some (.dK []) → RDs Z W2 H2 all (flatP ps) → Po Z (atS Wx σ) W0 H0 (G all s2) rel Q → K ps H2) :
    ∀ (es : List E) {W : Wd} {s : Sto} {f : Fr} {H : Hp} {acc : List D} {pp : List (V × V)}, 2 * pp.length + es.length ≤ 2 * N → evenL es = true → Ex W0 H0 W H → RS Z W s H → RF Z W H f σ → (∀ i, i < W.n → W.ρ i ≠ p) → H p = some (.dK []) → RDs Z W H acc (flatP pp) →
    Po Z (atS Wx σ) W0 H0 ((evs M es f s).bind fun ds s => G (acc ++ ds) s) rel Q →
    tPairs (trsE Z M Wx es) σ H (fun ps H2 => K (pp ++ ps) H2)
  | [], W, s, f, H, acc, pp, hN, _, x, rs, rf, out, e, ra, po => by
    replace po : Po Z (atS Wx σ) W0 H0 (G (acc ++ []) s) rel Q := po
    rw [List.append_nil] at po
    show K (pp ++ []) H
    rw [List.append_nil]
    exact hK W s acc pp H (by simp at hN; omega) x rs out e ra po
  | [_], _, _, _, _, _, _, _, h, _, _, _, _, _, _, _ => by cases h
  | k :: v :: es, W, s, f, H, acc, pp, hN, hev, x, rs, rf, out, e, ra, po => by
    have po : Po Z (atS Wx σ) W0 H0 ((ev M k f s).bind fun a s => (ev M v f s).bind fun b s => (evs M es f s).bind fun ds s => G (acc ++ [a, b] ++ ds) s) rel Q := by
      replace po : Po Z (atS Wx σ) W0 H0 (((ev M k f s).bind fun a s => ((ev M v f s).bind fun b s => (evs M es f s).bind fun ds s => .ok (b :: ds) s).bind fun ds s => .ok (a :: ds) s).bind fun ds s => G (acc ++ ds) s) rel Q := po
      simp only [R.bind_assoc] at po
      have e3 : ∀ (a b : D) (ds : List D), acc ++ [a, b] ++ ds = acc ++ (a :: b :: ds) := fun a b ds => by simp
      simp only [e3]
      exact po
    refine ⟨W, s, f, rs, rf, Po.imp (Po.bind0 (rel1 := RD Z) po x) fun W9 s9 H1 a9 u e9 x9 r9 q => ⟨q, fun ⟨W1, s1, a, e1, x1, r1, q1, po1⟩ => ?_⟩⟩
    obtain ⟨out1, eD1⟩ := x1.out out e
    have rf1 := rf.mono (x1.tk rs)
    have x01 := x.trans x1
    refine ⟨W1, s1, f, r1, rf1, Po.imp (Po.bind0 (rel1 := RD Z) po1 x01) fun W9 s9 H2 a9 u2 e9 x9 r9 q => ⟨q, fun ⟨W2, s2, b, e2, x2, r2, q2, po2⟩ => ?_⟩⟩
    obtain ⟨out2, eD2⟩ := x2.out out1 eD1
    have rf2 := rf1.mono (x2.tk r1)
    have ra2 : RDs Z W2 H2 (acc ++ [a, b]) (flatP (pp ++ [(u, u2)])) := by
      rw [flatP_app]
      have h1 := RDs.mono (x2.tk r1) _ (RDs.mono (x1.tk rs) _ ra)
      have h2 : RDs Z W2 H2 [a, b] [u, u2] := ⟨u, [u2], rfl, RD.mono (x2.tk r1) _ q1, u2, [], rfl, q2, rfl⟩
      have h3 : acc ++ [a, b] = acc ++ [a] ++ [b] := by simp
      have h4 : flatP pp ++ flatP [(u, u2)] = flatP pp ++ [u] ++ [u2] := by simp [flatP]
      rw [h3, h4]
      exact RDs.append (RDs.append h1 ⟨u, [], rfl, RD.mono (x2.tk r1) _ q1, rfl⟩) ⟨u2, [], rfl, q2, rfl⟩
    have ih := disp_core hK es (acc := acc ++ [a, b]) (pp := pp ++ [(u, u2)]) (by simp at hN ⊢; omega) hev (x01.trans x2) r2 rf2 out2 eD2 ra2 po2
    have e4 : (fun (ps : List (V × V)) (H2 : Hp) => K (pp ++ [(u, u2)] ++ ps) H2) = fun ps H2 => K (pp ++ ((u, u2) :: ps)) H2 := by
      funext ps H2
      rw [List.append_assoc]; rfl
    rw [e4] at ih
    exact ih
/-- {k: v, ..} -/
theorem s_disp (S : Sx Z M c X Wx) {keys : List (Option Expr)} {values : List Expr} {es : List E} (h : PPs X pos keys values (trsE Z M Wx es)) (hall : keys.all (·.isSome) = true) (hl : keys.length = values.length) (h0 : keys ≠ []) (h15 : keys.length ≤ 15) (hev : evenL es = true) (hes : es.length = 2 * keys.length) :
    PP Z M X Wx (.Dict keys values pos) (.dic es) := by
  have pe : PE X (.Dict keys values pos) (tE Z M Wx (.dic es)) := by
    refine peI (pe_disp h hall hl h0 h15) fun σ H Q ⟨W, s, f, rs, rf, po⟩ => fun p hp => ?_
    replace po : Po Z (atS Wx σ) W H ((evs M es f s).bind fun ds s => (R.ofO (dictOf [] (pairUp ds)) s).bind fun kvs s => .ok (D.ref s.next) (s.new (.dct kvs))) (RD Z) Q := po
    refine disp_core (p := p) (K := fun ps H2 => H2 p = some (.dK []) ∧ ∃ kvs : List (Key × V), ps = kvs.map (fun kv => (kV kv.1, kv.2)) ∧ kvs.length ≤ 15 ∧ Q (.ref p) (upd H2 p (.dK (mergeK [] kvs)))) (N := 15) (W0 := W) (H0 := H) (acc := []) (pp := []) (G := fun ds s => (R.ofO (dictOf [] (pairUp ds)) s).bind fun kvs s => .ok (D.ref s.next) (s.new (.dct kvs))) (rel := RD Z) (Q := Q) (fun W2 s2 all ps H2 hl2 x2 r2 out2 e2 ra2 po2 => ?_) es (by simp; omega) hev (ex_lay hp) (rs.lay hp) (rf.mono (tk_lay hp)) (rs.free hp) upd_same rfl po
    refine ⟨e2, ?_⟩
    cases hd : dictOf [] (pairUp all) with
    | none => rw [hd] at po2; exact po2.elim
    | some kvs =>
      rw [hd] at po2
      replace po2 : Po Z (atS Wx σ) W H (.ok (D.ref s2.next) (s2.new (.dct kvs))) (RD Z) Q := po2
      obtain ⟨ms, e3, rk⟩ := dict_of2 hd ra2 (show RKs Z W2 H2 [] [] from rfl)
      refine ⟨ms, e3, ?_, ?_⟩
      · rw [e3, List.length_map] at hl2; exact hl2
      · have sf : Soft (H2 p) := ⟨fun _ q => (nomatch e2.symm.trans q), fun _ _ q => (nomatch e2.symm.trans q)⟩
        obtain ⟨W', x', r', q'⟩ := adoptD (a := p) (x2.mod (o := .dK (mergeK [] ms)) hp) (r2.mod sf out2) hp upd_same out2 (RKs.mono (tk_put sf) _ rk)
        exact po2 W' _ _ x' r' q'
  exact ⟨pe, pt_plain S.fx.K pe fun _ => rfl⟩
end
end TR
set_option autoImplicit false
set_option linter.all false
set_option maxRecDepth 100000
/-! Methods. -/
namespace TR
open PySem PySem.Spec PyProof.Rows L2
/-- a list's extend by a tuple or another list, whatever else these carry -/
theorem ext_any (T : String) (hT : T = "tuple" ∨ T = "list") (l b : Addr) (is js : Array Value) (n m : Nat) (dd : Option Addr) (sl : Array (Option Value)) (h0 : ¬(!is.isEmpty && Builtin.List.listTooLong (is.size + js.size)) = true) (h1 : is.size ≤ sizeLine) (h2 : is.size + js.size ≤ sizeLine + 1) :
    Meets (Builtin.«list.extend» ⟨[.ref l, .ref b], []⟩) (fun _ R s => s.heap.get? l = some ⟨.type "list", none, .seq is n, #[]⟩ ∧ s.heap.get? b = some ⟨.type T, dd, .seq js m, sl⟩ ∧
      R (.ok (.ret Value.none)) { s with heap := s.heap.update l (Obj.mapSeq fun x => x ++ js) }) :=
  .of_wp fun prog w A R s h => by
    obtain ⟨hp, g, d, tk, os⟩ := s
    obtain ⟨hl, hb, h⟩ := h
    have f1 := AutoSeq1.idx_int
    have f2 := AutoSeq1.sub_tuple_tuple
    have f3 := AutoSeq1.sub_list_list
    have f4 := AutoSeq1.sub_tuple_list
    have f5 := AutoSeq1.sub_list_tuple
    have hz' : (is ++ js).size ≤ sizeLine + 1 := by rw [Array.size_append]; exact h2
    rcases hT with rfl | rfl
    · wp_walk using (wpAny_updateSeq hl rfl (hz := h1) (_hz' := hz')), AutoSeq1.wpAny_loadPart' hl, AutoSeq1.wpAny_loadPart' hb
      exact ⟨_, rfl, h⟩
    · wp_walk using (wpAny_updateSeq hl rfl (hz := h1) (_hz' := hz')), AutoSeq1.wpAny_loadPart' hl, AutoSeq1.wpAny_loadPart' hb
      exact ⟨_, rfl, h⟩
section
variable {Z : Zn} {M : Sem} {c : Cc} {X : Cx} {Wx : WX} {pos : Pos}
/-- a list's extend by a tuple, or by a list that is read -/
def rExtR (Z : Zn) : V → List V → Hp → VK → Prop := fun x vs H Q => ∃ l b xs zs, x = .ref l ∧ vs = [.ref b] ∧ H l = some (.lst xs) ∧ (SqT Z.K H b zs ∨ SqL Z.K H b zs) ∧ xs.length + zs.length ≤ sizeLine ∧ Q .non (upd H l (.lst (xs ++ zs)))
theorem mt_ext (hK : X.K = Z.K) : MtM X "list.extend" (rExtR Z) := by
  intro pins s σ H x vs v us Q I rx rv ⟨l, b, xs, zs, hx, hv, hH, hB, hz, q⟩
  subst hx
  subst hv
  cases rx
  obtain ⟨u, rfl, ru⟩ := rv.one
  cases ru
  obtain ⟨z, its, n, r, hl, e⟩ := I.lstM hH
  rw [← hK] at hB
  have two : ∃ (T : String) (dd : Option Addr) (js : List Value) (m : Nat) (sl : Array (Option Value)), (T = "tuple" ∨ T = "list") ∧ Vals zs js ∧ s.heap.get? b = some ⟨.type T, dd, .seq js.toArray m, sl⟩ := by
    rcases hB with hB | hB
    · obtain ⟨js, r2, ⟨o, h1, h2, m, h3⟩, _⟩ := I.tuple hB
      obtain ⟨oc, od, dt, sl⟩ := o
      simp only at h2 h3
      subst h2 h3
      exact ⟨"tuple", od, js, m, sl, .inl rfl, r2, h1⟩
    · obtain ⟨js, r2, ⟨o, m, h1, h2, _, h3⟩, _⟩ := I.list hB
      obtain ⟨oc, od, dt, sl⟩ := o
      simp only at h2 h3
      subst h2 h3
      exact ⟨"list", od, js, m, sl, .inr rfl, r2, h1⟩
  obtain ⟨T, dd, js, m, sl, hT, r2, e2⟩ := two
  have hl2 := r2.length
  have hsz : its.toArray.size + js.toArray.size ≤ sizeLine := by rw [List.size_toArray, List.size_toArray]; omega
  have hlong : ¬ (!its.toArray.isEmpty && Builtin.List.listTooLong (its.toArray.size + js.toArray.size)) = true := by
    rw [notLongL hsz, Bool.and_false]
    exact Bool.false_ne_true
  refine call_meets F.slot_list_extend ⟨_, e, rfl⟩ F.entry_list_extend (F.args_list_extend_2 _ _) (ext_any T hT l b its.toArray js.toArray n m dd sl hlong (by rw [List.size_toArray]; omega) (by omega)) ⟨e, e2, ?_⟩
  exact ⟨.non, _, I.lset (its' := its ++ js) hH e (by simp) (r.append r2) (by rw [List.length_append]; omega), rfl, q⟩
def mtName : Mt → String
  | .append => "append"
  | .extend => "extend"
  | .pop => "pop"
  | .get => "get"
  | .index => "index"
  | .count => "count"
  | _ => ""
def atOk : Expr → Bool
  | .Call (.Name _ _) [] [] _ => false
  | _ => true
theorem atOk_base {o : Expr} {name : Str} {env : Env} (h : atOk o = true) : attributeBase o name env (eval o env) = eval o env := by
  unfold attributeBase
  split
  · cases h
  · rfl
theorem few_ok {es : List Expr} {env : Env} {cpos : Pos} (h : es.all notStar = true) (hl : es.length < 29) : ((backTo cpos (starEach es env)).all (fun x => !x.1) && (backToKw cpos (keywordEach [] env)).all (fun x => x.1.isSome)
      && decide (es.length + ([] : List Keyword).length + (if ([] : List Keyword).isEmpty then 0 else 1) < 30)) = true := by
  have h1 : (backTo cpos (starEach es env)).all (fun x => !x.1) = true := by
    rw [List.all_eq_true]
    intro x hx
    have := star_none (env := env) (pos := cpos) h
    rw [List.any_eq_false] at this
    have := this x hx
    simpa using this
  rw [h1]
  have h2 : (backToKw cpos (keywordEach [] env)).all (fun x => x.1.isSome) = true := rfl
  rw [h2, Bool.true_and, Bool.true_and]
  refine decide_eq_true ?_
  show es.length + 0 + (if (true : Bool) = true then 0 else 1) < 30
  rw [if_pos rfl]
  omega
variable {pins : List (Addr × Obj)} {σ : L2.St} {Q : VK}
/-- the method found, the arguments read, it runs -/
theorem m_on {T id : String} {name : Str} {es : List Expr} {ees : List E} {cpos : Pos} {sh : Shared} {H1 : Hp} {v : Value} {P : List V → Hp → Prop} (pa : PlainAttrs T) (slot : Slot T name id) (hty : typeOf (.builtin id) = pure (.type "method_descriptor")) (h1 : sh.TypeIs v T) (h2 : ∀ a, v = .ref a → ∃ ob, sh.heap.get? a = some ob ∧ ob.dict = none)
    (ha : PA X es (tA Z M Wx ees)) (hs : es.all notStar = true) (hl : es.length = ees.length) (I : Inv X pins σ H1 sh) (hA : tA Z M Wx ees σ H1 P) (cont : ∀ us s2 vs H2, Inv X pins σ H2 s2 → Vals vs us → P vs H2 → wpAny (model X.prog X.w) X.A (call (.builtin id) (v :: us)) (EP X pins σ Q) X.xe s2) :
    MethodOn X.prog X.w X.A name cpos v (backTo cpos (starEach es X.env)) (EP X pins σ Q) X.xe sh := by
  refine ⟨T, id, pa, slot, hty, h1, h2, Calls.callWith_builtin (star_none hs) ?_⟩
  cases es with
  | nil =>
    cases ees with
    | nil =>
      obtain ⟨W, s, f, rs, rf, po⟩ := hA
      exact PySem.evalArgs_none (cont [] sh [] H1 I .nil (Po.ok (a := ([] : List D)) (rel := RDs Z) po rs rfl))
    | cons _ _ => cases hl
  | cons e es =>
    rw [List.all_cons, Bool.and_eq_true] at hs
    have hA := ha.run cpos pins sh σ H1 _ I hA
    rw [star_cons hs.1] at hA ⊢
    exact Calls.evalArgs_plain (thn hA fun us s2 ⟨vs, H2, I2, r2, q2⟩ => cont us s2 vs H2 I2 r2 q2)
theorem RDs.dropLast {W : Wd} {H : Hp} : ∀ {ds : List D} {vs : List V}, RDs Z W H ds vs → RDs Z W H ds.dropLast vs.dropLast
  | [], _, h => by rw [show _ = [] from h]; rfl
  | [d], _, ⟨v, r, e, h1, h2⟩ => by
    rw [e, show r = [] from h2]
    rfl
  | d :: d2 :: ds, _, ⟨v, r, e, h1, h2⟩ => by
    obtain ⟨v2, r2, e2, h3, h4⟩ := h2
    rw [e, e2]
    refine ⟨v, _, rfl, h1, ?_⟩
    exact RDs.dropLast (ds := d2 :: ds) (vs := v2 :: r2) ⟨v2, r2, rfl, h3, h4⟩
theorem RDs.eraseAt {W : Wd} {H : Hp} : ∀ {ds : List D} {vs : List V} (n : Nat), RDs Z W H ds vs → RDs Z W H (ds.eraseIdx n) (vs.eraseIdx n)
  | [], _, _, h => by rw [show _ = [] from h]; rfl
  | d :: ds, _, 0, ⟨v, r, e, h1, h2⟩ => by rw [e]; exact h2
  | d :: ds, _, n + 1, ⟨v, r, e, h1, h2⟩ => by rw [e]; exact ⟨v, _, rfl, h1, RDs.eraseAt n h2⟩
theorem plc_seqIndex (n : Nat) (k : Int) : plc n k = seqIndex? k n := by
  unfold plc seqIndex?
  by_cases h : 0 ≤ k
  · have h' : ¬ k < 0 := by omega
    simp only [h, h', if_true, if_false, decide_true, Bool.true_and]
    by_cases h2 : k < n <;> simp [h2]
  · have h' : k < 0 := by omega
    simp only [h, h', if_true, if_false]
    by_cases h2 : -(n : Int) ≤ k
    · rw [if_pos h2, if_pos (by simp only [Bool.and_eq_true, decide_eq_true_eq]; omega)]
    · rw [if_neg h2, if_neg (by simp only [Bool.and_eq_true, decide_eq_true_eq]; omega)]
/-- the list's methods -/
theorem index_data {A : Around} {P : Program} {w : World} {E : Value → Shared → Prop} {s : Shared} {l : Addr} {vs : Array Value} {xs : List PyData} {x : Value} {d : PyData} {as bs : List Addr} {R : Value → Shared → Prop} {j : Nat}
    (hl : s.heap.IsList l vs) (rs : ReadsAll s.heap vs.toList xs as) (rx : Reads s.heap x d bs) (hxs : PyData.plainAll xs = true) (hd : d.plain = true) (hu : A.units + 1 + min (PyData.depthAll xs) d.depth < cLine)
    (hp : SeqAt.dataPlace xs d = some j) (hsz : vs.size ≤ sizeLine) (h : R (.int ((j : Nat) : Int) s.toks) { s with toks := s.toks + 1 }) : wpAny (model P w) A (call (.builtin "list.index") [.ref l, x]) R E s := by
  obtain ⟨⟨cls, dd, data, sl⟩, ho, hc, n, hd'⟩ := id hl
  simp only at hc hd'
  subst hc hd'
  obtain ⟨hj, h1, h2⟩ := SeqAt.hit_at rs hxs hp
  exact call_meets PySem.F.slot_list_index ⟨_, ho, rfl⟩ PySem.F.entry_list_index (PySem.F.args_list_index_2 _ _)
    (SeqAt.list_indexAt l vs n dd sl x (fun u => PyData.eqv (SeqAt.readOf s.heap u) d) j hj (by have := sizeLine_eq; omega) h1 h2) ⟨ho, SeqAt.items_plain rs rx hxs hd hu, h⟩
theorem findP_place (p : PyData) : ∀ (ps : List PyData) (i j : Nat), findP p i ps = some j → ∃ k, SeqAt.dataPlace ps p = some k ∧ j = i + k
  | [], _, _, h => by cases h
  | q :: r, i, j, h => by
    have h : cond (eqP q p) (some i) (findP p (i + 1) r) = some j := h
    unfold SeqAt.dataPlace
    rw [List.findIdx?_cons, ← eqP_eqv]
    cases e : eqP q p with
    | true => rw [e] at h; cases h; exact ⟨0, rfl, rfl⟩
    | false =>
      rw [e] at h
      obtain ⟨k, h1, h2⟩ := findP_place p r (i + 1) j h
      refine ⟨k + 1, ?_, by omega⟩
      show Option.map _ _ = _
      unfold SeqAt.dataPlace at h1
      rw [h1]
      rfl
theorem findD_some {s : Sto} {x : D} {ds : List D} {j : Nat} (h : findD s x ds = some j) : ∃ ps p, mapO (rd RDN s) ds = some ps ∧ rd RDN s x = some p ∧ findP p 0 ps = some j := by
  unfold findD rowP at h
  split at h
  · split at h
    · exact ⟨_, _, ‹_›, ‹_›, h⟩
    · cases h
  · cases h
theorem countD_some {s : Sto} {x : D} {ds : List D} {j : Nat} (h : countD s x ds = some j) : ∃ ps p, mapO (rd RDN s) ds = some ps ∧ rd RDN s x = some p ∧ j = countP p ps := by
  unfold countD rowP at h
  split at h
  · split at h
    · cases h
      exact ⟨_, _, ‹_›, ‹_›, rfl⟩
    · cases h
  · cases h
theorem _root_.L2.Vals.one' {v : V} {us : List Value} (h : Vals [v] us) : ∃ u t, us = [u] ∧ RelV v u ∧ t = us := by
  cases h with
  | cons a b => cases b; exact ⟨_, _, rfl, a, rfl⟩
theorem countP_eq (p : PyData) : ∀ ps : List PyData, countP p ps = ps.countP fun y => PyData.eqv y p
  | [] => rfl
  | q :: r => by
    show cond (eqP q p) (countP p r + 1) (countP p r) = _
    rw [List.countP_cons, ← countP_eq p r, eqP_eqv]
    cases PyData.eqv q p <;> rfl
theorem mtL_sim {m : Mt} {a : Nat} {ds as : List D} {W : Wd} {H : Hp} {s : Sto} {sh : Shared} {us : List Value} {vs : List V} (hK : X.K = Z.K) (hu : X.A.units + 50 < cLine) (I : Inv X pins σ H sh) (rs : RS Z W s H) (hn : a < W.n) (hx : s.get a = some (.lst ds)) (rv : Vals vs us) (ra : RDs Z W H as vs) (po : Po Z noE W H (mtL m a ds as s) (RD Z) Q) (hm : mtK 1 m = true) :
    wpAny (model X.prog X.w) X.A (call (.builtin ("list." ++ mtName m)) (.ref (W.ρ a) :: us)) (EP X pins σ Q) X.xe sh := by
  obtain ⟨xs, t1, t2⟩ := rs.cell hx
  have sf := (rs.cell hx).soft
  unfold mtL at po
  split at po
  · rename_i x
    obtain ⟨v, r, ev, e1, er⟩ := ra
    obtain rfl : r = [] := er
    cases hl : Nat.blt ds.length SZ with
    | false => rw [hl] at po; exact po.elim
    | true =>
      rw [hl] at po
      refine mt_append pins sh σ H (.ref (W.ρ a)) vs _ us Q I rfl rv ⟨_, xs, v, rfl, ev, t1, by rw [t2.length, ← SZ_eq]; simpa [Nat.blt_eq] using hl, ?_⟩
      exact Po.ok' (rel := RD Z) (a := D.non) po (ex_put hn) (rs.put hn ⟨_, upd_same, RDs.append (RDs.mono (tk_put sf) _ t2) ⟨v, [], rfl, RD.mono (tk_put sf) _ e1, rfl⟩⟩) rfl
  · rename_i x
    obtain ⟨v, r, ev, e1, er⟩ := ra
    obtain rfl : r = [] := er
    split at po
    · rename_i zs hr
      cases hc : catOk ds zs with
      | false => rw [hc] at po; exact po.elim
      | true =>
        rw [hc] at po
        have hc' : ds.length + zs.length ≤ SZ := Nat.le_of_ble_eq_true hc
        have fin : ∀ {b : Addr} {ws : List V}, v = .ref b → (SqT Z.K H b ws ∨ SqL Z.K H b ws) → RDs Z W H zs ws → wpAny (model X.prog X.w) X.A (call (.builtin "list.extend") (.ref (W.ρ a) :: us)) (EP X pins σ Q) X.xe sh := by
          intro b ws eb hb rz
          refine mt_ext hK pins sh σ H (.ref (W.ρ a)) vs _ us Q I rfl rv ⟨_, b, xs, ws, rfl, by rw [ev, eb], t1, hb, by rw [t2.length, rz.length, ← SZ_eq]; exact hc', ?_⟩
          exact Po.ok' (rel := RD Z) (a := D.non) po (ex_put hn) (rs.put hn ⟨_, upd_same, RDs.append (RDs.mono (tk_put sf) _ t2) (RDs.mono (tk_put sf) _ rz)⟩) rfl
        unfold rowOf at hr
        split at hr
        · cases hr
          obtain ⟨b, ws, eb, q1, q2⟩ := e1
          exact fin eb (.inl q1) q2
        · cases hr
          obtain ⟨b, ws, eb, q1, q2⟩ := e1
          exact fin eb (.inr q1.l) q2
        · split at hr
          · rename_i hy
            cases hr
            obtain ⟨hn2, eb⟩ := e1
            obtain ⟨ws, k1, k2⟩ := rs.cell hy
            exact fin eb (.inr (.of k1)) k2
          · cases hr
        · cases hr
    · exact po.elim
  · obtain rfl : vs = [] := ra
    split at po
    · rename_i d hd
      have e : ds[ds.length - 1]? = some d := by rw [← hd, List.getLast?_eq_getElem?]
      obtain ⟨v, e1, q1⟩ := t2.get e
      refine mt_pop pins sh σ H (.ref (W.ρ a)) [] _ us Q I rfl rv ⟨_, xs, v, rfl, rfl, t1, by rw [t2.length]; exact e1, ?_⟩
      exact Po.ok' (rel := RD Z) po (ex_put hn) (rs.put hn ⟨_, upd_same, RDs.dropLast (RDs.mono (tk_put sf) _ t2)⟩) (RD.mono (tk_put sf) _ q1)
    · exact po.elim
  · rename_i k
    obtain rfl := one_of ra
    cases hc : rngOk k k with
    | false => rw [hc] at po; exact po.elim
    | true =>
      rw [hc] at po
      obtain ⟨b1, b2, _, _⟩ := rngOk_of hc
      cases hj : plc ds.length k with
      | none => simp only [hj, cond] at po; exact po.elim
      | some j =>
        simp only [hj, cond] at po
        cases hd : ds[j]? with
        | none => simp only [hd] at po; exact po.elim
        | some d =>
          simp only [hd] at po
          obtain ⟨v, e1, q1⟩ := t2.get hd
          refine mt_popAt pins sh σ H (.ref (W.ρ a)) _ _ us Q I rfl rv ⟨_, xs, k, j, v, rfl, rfl, t1, by omega, by omega, by rw [t2.length, ← plc_seqIndex]; exact hj, e1, ?_⟩
          exact Po.ok' (rel := RD Z) po (ex_put hn) (rs.put hn ⟨_, upd_same, RDs.eraseAt j (RDs.mono (tk_put sf) _ t2)⟩) (RD.mono (tk_put sf) _ q1)
  · rename_i x
    obtain ⟨v, r, rfl, e1, er⟩ := ra
    obtain rfl : r = [] := er
    obtain ⟨u, t, rfl, rx, rt⟩ := rv.one'
    obtain ⟨j, hj, po⟩ := po.ofO
    obtain ⟨ps, p, h1, h2, hf⟩ := findD_some hj
    obtain ⟨k, hk, rfl⟩ := findP_place p ps 0 j hf
    obtain ⟨its, rv2, pl, hz⟩ := I.list (.of t1)
    obtain ⟨⟨as, ra1⟩, ra2, ra3⟩ := row_of hK I rs t2 rv2 h1
    obtain ⟨bs, rx1⟩ := reads_of hK I rs _ _ _ _ _ e1 rx h2
    have d1 := (rd_plain _ _ _ h2).2
    refine index_data (A := X.A) pl.isList (by simpa using ra1) rx1 ra2 (rd_plain _ _ _ h2).1 (by have : RDN = 40 := rfl; omega) hk (by rw [List.size_toArray, ← rv2.length]; exact hz) ?_
    exact ⟨.int (k : Nat), H, I.tok _, ⟨_, rfl⟩, by rw [Nat.zero_add] at po; exact Po.ok po rs rfl⟩
  · rename_i x
    obtain ⟨v, r, rfl, e1, er⟩ := ra
    obtain rfl : r = [] := er
    obtain ⟨u, t, rfl, rx, rt⟩ := rv.one'
    obtain ⟨j, hj, po⟩ := po.ofO
    obtain ⟨ps, p, h1, h2, rfl⟩ := countD_some hj
    obtain ⟨its, rv2, pl, hz⟩ := I.list (.of t1)
    obtain ⟨⟨as, ra1⟩, ra2, ra3⟩ := row_of hK I rs t2 rv2 h1
    obtain ⟨bs, rx1⟩ := reads_of hK I rs _ _ _ _ _ e1 rx h2
    have d1 := (rd_plain _ _ _ h2).2
    refine SeqAt.count_list_data (A := X.A) pl.isList (by simpa using ra1) rx1 ra2 (rd_plain _ _ _ h2).1 (by have : RDN = 40 := rfl; omega) ?_
    rw [← countP_eq]
    exact ⟨.int _, H, I.tok _, ⟨_, rfl⟩, Po.ok po rs rfl⟩
  · exact po.elim
theorem key_get {W : Wd} {H : Hp} {k d : D} {vs : List V} {p : PyData} (hp : key k = some p) (ra : RDs Z W H [k, d] vs) : ∃ q w, keyV k = some q ∧ (∀ k' q', keyV k' = some q' → keyEq p k' = decide (q' = q)) ∧ vs = [kV q, w] ∧ RD Z W H d w := by
  obtain ⟨q, hq, hk⟩ := key_keyV hp
  obtain ⟨v, r, ev, e1, w, r2, er, e2, er2⟩ := ra
  obtain rfl := keyV_rel hq e1
  obtain rfl : r2 = [] := er2
  exact ⟨q, w, hq, hk, by rw [ev, er], e2⟩
/-- the dict's methods -/
theorem mtM_dK {gl : List (Str × Gv)} (F' : Fx Z M gl X) {m : Mt} {a : Nat} {kvs : List (D × D)} {as : List D} {W : Wd} {H : Hp} {s : Sto} {sh : Shared} {us : List Value} {vs : List V} (I : Inv X pins σ H sh) (rs : RS Z W s H) (hx : s.get a = some (.dct kvs)) (rv : Vals vs us) (ra : RDs Z W H as vs) (po : Po Z noE W H (mtM m kvs as s) (RD Z) Q) :
    wpAny (model X.prog X.w) X.A (call (.builtin ("dict." ++ mtName m)) (.ref (W.ρ a) :: us)) (EP X pins σ Q) X.xe sh := by
  obtain ⟨gs, t1, t2⟩ := rs.cell hx
  unfold mtM at po
  split at po
  · rename_i k d
    split at po
    · rename_i p hp
      obtain ⟨q, w, hq, hk, rfl, e2⟩ := key_get hp ra
      obtain ⟨u1, u2, rfl, r1, r2⟩ := rv.two
      refine d_get2 (by have := F'.hu; omega) I (DGet.k t1) r1 r2 fun w' s' I' rw' => ⟨_, H, I', rw', ?_⟩
      refine Po.ok po rs ?_
      cases hd : dget p kvs with
      | none =>
        rw [(RKs.get hk t2).2 hd]
        exact e2
      | some d' =>
        obtain ⟨v, e3, q3⟩ := (RKs.get hk t2).1 d' hd
        rw [e3]
        exact q3
    · exact po.elim
  · exact po.elim
theorem mtM_gd {gl : List (Str × Gv)} (F' : Fx Z M gl X) {m : Mt} {n : Nat} {as : List D} {W : Wd} {H : Hp} {s : Sto} {sh : Shared} {us : List Value} {vs : List V} (I : Inv X pins σ H sh) (rs : RS Z W s H) (hne : M.T.gdc n ≠ []) (rv : Vals vs us) (ra : RDs Z W H as vs) (po : Po Z noE W H (mtM m (M.T.gdc n) as s) (RD Z) Q) :
    wpAny (model X.prog X.w) X.A (call (.builtin ("dict." ++ mtName m)) (.ref (Z.ga n) :: us)) (EP X pins σ Q) X.xe sh := by
  obtain ⟨ws, dd, gr⟩ := F'.gdo n hne _ I.kIn
  unfold mtM at po
  split at po
  · rename_i k d
    split at po
    · rename_i p hp
      obtain ⟨q, w, hq, hk, rfl, e2⟩ := key_get hp ra
      obtain ⟨u1, u2, rfl, r1, r2⟩ := rv.two
      have hsys : (Z.ga n == sysModules) = false := F'.gds n hne
      refine call_meetsIn PySem.F.slot_dict_get dd.typeIs PySem.F.entry_dict_get (PySem.F.args_dict_get_3 _ _ _) (meets_dict_get_default (mixKind X.prog X.w) (Z.ga n) (kV_is r1) hsys u2) ⟨_, dd.mapOf, ?_⟩
      cases hd : dget p (M.T.gdc n) with
      | none =>
        rw [(GdRel.get hk gr).2 hd]
        rw [hd] at po
        exact ⟨w, H, I.tok _, r2, Po.ok po rs e2⟩
      | some d' =>
        obtain ⟨u, v, e3, r3, q3⟩ := (GdRel.get hk gr).1 d' hd
        rw [e3]
        rw [hd] at po
        exact ⟨v, H, I.tok _, r3, Po.ok po rs (q3 _ _)⟩
    · exact po.elim
  · exact po.elim
theorem mt_l (m : Mt) (h : mtK 1 m = true) : ∃ id, PlainAttrs "list" ∧ Slot "list" (Str.ofString (mtName m)) id ∧ typeOf (.builtin id) = pure (.type "method_descriptor") ∧ id = "list." ++ mtName m := by
  cases m with
  | append => exact ⟨_, F.plainAttrs_list, F.slot_list_append, F.type_list_append, rfl⟩
  | extend => exact ⟨_, F.plainAttrs_list, F.slot_list_extend, F.type_list_extend, rfl⟩
  | pop => exact ⟨_, F.plainAttrs_list, F.slot_list_pop, F.type_list_pop, rfl⟩
  | index => exact ⟨_, F.plainAttrs_list, F.slot_list_index, F.type_list_index, rfl⟩
  | count => exact ⟨_, F.plainAttrs_list, F.slot_list_count, F.type_list_count, rfl⟩
  | _ => cases h
theorem mt_d (m : Mt) (h : mtK 2 m = true ∨ mtK 3 m = true) : ∃ id, PlainAttrs "dict" ∧ Slot "dict" (Str.ofString (mtName m)) id ∧ typeOf (.builtin id) = pure (.type "method_descriptor") ∧ id = "dict." ++ mtName m := by
  cases m with
  | get => exact ⟨_, F.plainAttrs_dict, F.slot_dict_get, F.type_dict_get, rfl⟩
  | _ => rcases h with h | h <;> cases h
theorem noex_mtL {m : Mt} {a : Nat} {ds as : List D} {s : Sto} : NoEx (mtL m a ds as s) := by
  unfold mtL
  repeat' (first | exact NoEx.bad | exact NoEx.ok | exact NoEx.bind NoEx.ofO fun _ _ => NoEx.ok | exact NoEx.cond NoEx.ok NoEx.bad | refine NoEx.cond ?_ NoEx.bad | split)
theorem noex_mtM {m : Mt} {ds : List (D × D)} {as : List D} {s : Sto} : NoEx (mtM m ds as s) := by
  unfold mtM
  repeat' (first | exact NoEx.bad | exact NoEx.ok | split)
theorem noex_mtD {g : Nat → List (D × D)} {m : Mt} {o : D} {as : List D} {s : Sto} : NoEx (mtD g m o as s) := by
  unfold mtD
  repeat' (first | exact NoEx.bad | exact noex_mtL | exact noex_mtM | split)
theorem kind_ref {g : Nat → List (D × D)} {s : Sto} {a : Nat} : kindD g s (.ref a) = (match s.get a with
    | some (.lst _) => 1
    | some (.dct _) => 2
    | _ => 0) := rfl
/-- o.m(..) -/
theorem s_mt (S : Sx Z M c X Wx) {o : Expr} {name : Str} {apos : Pos} {es : List Expr} {m : Mt} {eo : E} {ees : List E} (ho : PP Z M X Wx o eo) (ha : PA X es (tA Z M Wx ees)) (hn : (Str.ofString (mtName m) == name) = true) (hs : es.all notStar = true) (hl : es.length = ees.length) (h29 : es.length < 29) (hat : atOk o = true) (hline : (apos.endLine == pos.line) = true) :
    PP Z M X Wx (.Call (.Attribute o name apos) es [] pos) (.mt m eo ees) := by
  obtain rfl : Str.ofString (mtName m) = name := eq_of_beq hn
  have pe : PE X (.Call (.Attribute o (Str.ofString (mtName m)) apos) es [] pos) (tE Z M Wx (.mt m eo ees)) := by
    refine ⟨fun pins sh σ H Q I ⟨W, s0, f, rs, rf, po⟩ => ?_⟩
    replace po : Po Z (atS Wx σ) W H ((ev M eo f s0).bind fun x s => cond (mtK (kindD M.T.gdc s x) m) ((evs M ees f s).bind fun ds s2 => cond (Nat.beq (kindD M.T.gdc s2 x) (kindD M.T.gdc s x)) (mtD M.T.gdc m x ds s2) .bad) .bad) (RD Z) Q := po
    refine wpAny_Call_method_late (atOk_base hat) (few_ok hs h29) hline rfl ?_
    rcases det1 rs rf po with ⟨d, s1, _, h⟩ | h
    · refine thn (ho.pe.run pins sh σ H _ I h) fun v sh1 ⟨x, H1, I1, r1, W1, x1, rs1, rf1, rd, po1⟩ => ?_
      cases hk : mtK (kindD M.T.gdc s1 d) m with
      | false => rw [hk] at po1; exact po1.elim
      | true =>
        rw [hk] at po1
        replace po1 : Po Z (atS Wx σ) W1 H1 ((evs M ees f s1).bind fun ds s2 => cond (Nat.beq (kindD M.T.gdc s2 d) (kindD M.T.gdc s1 d)) (mtD M.T.gdc m d ds s2) .bad) (RD Z) Q := po1
        -- the arguments, then the call
        have hA : tA Z M Wx ees σ H1 (fun vs H2 => ∃ W2 s2 ds, Ex W1 H1 W2 H2 ∧ RS Z W2 s2 H2 ∧ RDs Z W2 H2 ds vs ∧ Po Z (atS Wx σ) W2 H2 (cond (Nat.beq (kindD M.T.gdc s2 d) (kindD M.T.gdc s1 d)) (mtD M.T.gdc m d ds s2) .bad) (RD Z) Q) :=
          ⟨W1, s1, f, rs1, rf1, Po.imp (Po.bind (rel1 := RDs Z) po1) fun W' s' H' a b e x r q => ⟨q, fun ⟨W2, s2, ds, e2, x2, r2, q2, po2⟩ => ⟨W2, s2, ds, x2, r2, q2, po2⟩⟩⟩
        have same : ∀ {W2 : Wd} {s2 : Sto} {H2 : Hp} {ds : List D}, Po Z (atS Wx σ) W2 H2 (cond (Nat.beq (kindD M.T.gdc s2 d) (kindD M.T.gdc s1 d)) (mtD M.T.gdc m d ds s2) .bad) (RD Z) Q → kindD M.T.gdc s2 d = kindD M.T.gdc s1 d ∧ Po Z noE W2 H2 (mtD M.T.gdc m d ds s2) (RD Z) Q := by
          intro W2 s2 H2 ds po2
          cases hb : Nat.beq (kindD M.T.gdc s2 d) (kindD M.T.gdc s1 d) with
          | false => rw [hb] at po2; exact po2.elim
          | true => rw [hb] at po2; exact ⟨Nat.eq_of_beq_eq_true hb, Po.noex noex_mtD po2⟩
        cases d with
        | gd n =>
          obtain rfl : x = .ref (Z.ga n) := rd
          cases r1
          have hne : M.T.gdc n ≠ [] := by
            intro e
            have : kindD M.T.gdc s1 (.gd n) = 0 := by
              show cond (M.T.gdc n).isEmpty 0 3 = 0
              rw [e]
              rfl
            rw [this] at hk
            cases hk
          have h3 : kindD M.T.gdc s1 (.gd n) = 3 := by
            show cond (M.T.gdc n).isEmpty 0 3 = 3
            cases h : M.T.gdc n with
            | nil => exact absurd h hne
            | cons _ _ => rfl
          rw [h3] at hk
          obtain ⟨id, pa, sl, ty, rfl⟩ := mt_d m (.inr hk)
          obtain ⟨ws, dd, gr⟩ := S.fx.gdo n hne _ I1.kIn
          refine m_on pa sl ty dd.typeIs (fun a e => ?_) ha hs hl I1 hA fun us s2 vs H2 I2 rv ⟨W2, st2, ds, x2, r2, q2, po2⟩ => ?_
          · cases e
            obtain ⟨ob, _, _, k1, k2, _⟩ := dd
            exact ⟨ob, k1, k2.2.1⟩
          · exact mtM_gd S.fx I2 r2 hne rv q2 (same po2).2
        | ref a =>
          obtain ⟨hn2, rfl⟩ := rd
          cases r1
          cases hg : s1.get a with
          | none => rw [kind_ref, hg] at hk; cases hk
          | some cl =>
            cases cl with
            | lst zs =>
              have k1 : kindD M.T.gdc s1 (.ref a) = 1 := by rw [kind_ref, hg]
              rw [k1] at hk
              obtain ⟨id, pa, sl, ty, rfl⟩ := mt_l m hk
              obtain ⟨xs, t1, t2⟩ := rs1.cell hg
              obtain ⟨t3, t4⟩ := tyV_is (T := "list") (x := .ref (W1.ρ a)) I1 rfl (.inl ⟨rfl, xs, .of t1⟩)
              refine m_on pa sl ty t3 t4 ha hs hl I1 hA fun us s2 vs H2 I2 rv ⟨W2, st2, ds, x2, r2, q2, po2⟩ => ?_
              obtain ⟨e1, po3⟩ := same po2
              rw [k1, kind_ref] at e1
              rw [← x2.ρ a hn2]
              split at e1
              · rename_i zs2 hz
                replace po3 : Po Z noE W2 H2 (match st2.get a with
                  | some (.lst ds') => mtL m a ds' ds st2
                  | some (.dct kvs) => mtM m kvs ds st2
                  | _ => .bad) (RD Z) Q := po3
                rw [hz] at po3
                exact mtL_sim S.fx.K (by have := S.fx.hu; omega) I2 r2 (Nat.lt_of_lt_of_le hn2 x2.le) hz rv q2 po3 hk
              · cases e1
              · cases e1
            | dct kvs =>
              have k1 : kindD M.T.gdc s1 (.ref a) = 2 := by rw [kind_ref, hg]
              rw [k1] at hk
              obtain ⟨id, pa, sl, ty, rfl⟩ := mt_d m (.inl hk)
              obtain ⟨gs, t1, t2⟩ := rs1.cell hg
              obtain ⟨t3, t4⟩ := tyV_is (T := "dict") (x := .ref (W1.ρ a)) I1 rfl (.inr (.inr (.inl ⟨rfl, .inl ⟨gs, t1⟩⟩)))
              refine m_on pa sl ty t3 t4 ha hs hl I1 hA fun us s2 vs H2 I2 rv ⟨W2, st2, ds, x2, r2, q2, po2⟩ => ?_
              obtain ⟨e1, po3⟩ := same po2
              rw [k1, kind_ref] at e1
              rw [← x2.ρ a hn2]
              split at e1
              · cases e1
              · rename_i kvs2 hz
                replace po3 : Po Z noE W2 H2 (match st2.get a with
                  | some (.lst ds') => mtL m a ds' ds st2
                  | some (.dct kvs) => mtM m kvs ds st2
                  | _ => .bad) (RD Z) Q := po3
                rw [hz] at po3
                exact mtM_dK S.fx I2 r2 hz rv q2 po3
              · cases e1
            | ins _ _ => rw [kind_ref, hg] at hk; cases hk
        | _ => cases hk
    · exact thn (ho.pe.run pins sh σ H (fun _ _ => False) I (h _)) fun v sh1 ⟨x, H1, I1, r1, q⟩ => q.elim
  exact ⟨pe, pt_plain S.fx.K pe fun _ => rfl⟩
end
end TR
set_option autoImplicit false
set_option linter.all false
set_option maxRecDepth 100000
/-! Statements. -/
namespace TR
open PySem PySem.Spec PyProof.Rows L2
def PoS (Z : Zn) (Wx : WX) (W : Wd) (H : Hp) (o : O) (D : Ends) : Prop := match o with
  | .nx f s' => ∀ W' H' σ', Ex W H W' H' → RS Z W' s' H' → RF Z W' H' f σ' → D.nx σ' H'
  | .bk f s' => ∀ W' H' σ', Ex W H W' H' → RS Z W' s' H' → RF Z W' H' f σ' → D.bk σ' H'
  | .ct f s' => ∀ W' H' σ', Ex W H W' H' → RS Z W' s' H' → RF Z W' H' f σ' → D.ct σ' H'
  | .rt d s' => ∀ W' H' v, Ex W H W' H' → RS Z W' s' H' → RD Z W' H' d v → D.rt v H'
  | .ex e f s' => ∀ W' H' σ' cls dd, Ex W H W' H' → RS Z W' s' H' → RF Z W' H' f σ' → ErrOk Z W' H' e cls dd → Wx cls dd σ' H'
  | .bad => False
section
variable {Z : Zn} {M : Sem} {c : Cc} {X : Cx} {Wx : WX} {pos : Pos} {W W1 : Wd} {H H1 : Hp} {D : Ends} {s : Sto} {f : Fr} {σ : L2.St}
theorem PoS.later {o : O} (h : PoS Z Wx W H o D) (x : Ex W H W1 H1) : PoS Z Wx W1 H1 o D := by
  cases o with
  | nx f s' => exact fun W' H' σ' y => h W' H' σ' (x.trans y)
  | bk f s' => exact fun W' H' σ' y => h W' H' σ' (x.trans y)
  | ct f s' => exact fun W' H' σ' y => h W' H' σ' (x.trans y)
  | rt d s' => exact fun W' H' v y => h W' H' v (x.trans y)
  | ex e f s' => exact fun W' H' σ' cls dd y => h W' H' σ' cls dd (x.trans y)
  | bad => exact h
theorem PoS.ofR {α β : Type} {r : TR.R α} {k : α → Sto → O} {rel : Rel α β} (rs : RS Z W s H) (rf : RF Z W H f σ) (h : PoS Z Wx W H (TR.ofR f r k) D) :
    Po Z (atS Wx σ) W H r rel (fun b H' => ∃ W' s' a, r = .ok a s' ∧ Ex W H W' H' ∧ RS Z W' s' H' ∧ rel W' H' a b ∧ PoS Z Wx W' H' (k a s') D) := by
  cases r with
  | ok a s' => exact fun W' H' b x r q => ⟨W', s', a, rfl, x, r, q, PoS.later (o := k a s') h x⟩
  | ex e s' => exact fun W' H' cls dd x r q => h W' H' σ cls dd x r (rf.mono (x.tk rs)) q
  | bad => exact h
def tS (Z : Zn) (M : Sem) (Wx : WX) (cs : List S) : TS := fun D σ H => ∃ W s f, RS Z W s H ∧ RF Z W H f σ ∧ PoS Z Wx W H (xcs M cs f s) D
def tS1 (Z : Zn) (M : Sem) (Wx : WX) (c : S) : TS := fun D σ H => ∃ W s f, RS Z W s H ∧ RF Z W H f σ ∧ PoS Z Wx W H (xc M c f s) D
theorem psI {e : Stmt} {t u : TS} (h : PS X e t) (i : ∀ D σ H, u D σ H → t D σ H) : PS X e u := ⟨fun pins s σ H D I q => h.run pins s σ H D I (i D σ H q)⟩
theorem pssI {e : List Stmt} {t u : TS} (h : PSs X e t) (i : ∀ D σ H, u D σ H → t D σ H) : PSs X e u := ⟨fun pins s σ H D I q => h.run pins s σ H D I (i D σ H q)⟩
theorem st_nil : PSs X [] (tS Z M Wx []) := pssI pss_nil fun D σ H ⟨W, s, f, rs, rf, po⟩ => po W H σ Ex.refl rs rf
theorem st_cons {a : Stmt} {as : List Stmt} {u : S} {us : List S} (h1 : PS X a (tS1 Z M Wx u)) (h2 : PSs X as (tS Z M Wx us)) : PSs X (a :: as) (tS Z M Wx (u :: us)) := pssI (pss_cons h1 h2) fun D σ H ⟨W, s, f, rs, rf, po⟩ => by
  refine ⟨W, s, f, rs, rf, ?_⟩
  replace po : PoS Z Wx W H (match xc M u f s with
    | .nx f' s' => xcs M us f' s'
    | o => o) D := po
  cases h : xc M u f s with
  | nx f' s' =>
    rw [h] at po
    exact fun W' H' σ' x r q => ⟨W', s', f', r, q, PoS.later (o := xcs M us f' s') po x⟩
  | bk f' s' => rw [h] at po; exact po
  | ct f' s' => rw [h] at po; exact po
  | rt d s' => rw [h] at po; exact po
  | ex e f' s' => rw [h] at po; exact po
  | bad => rw [h] at po; exact po
theorem st_pass : PS X (.Pass pos) (tS1 Z M Wx .pass) := psI ps_pass fun D σ H ⟨W, s, f, rs, rf, po⟩ => po W H σ Ex.refl rs rf
theorem st_brk : PS X (.Break pos) (tS1 Z M Wx .brk) := psI ps_break fun D σ H ⟨W, s, f, rs, rf, po⟩ => po W H σ Ex.refl rs rf
theorem st_cont : PS X (.Continue pos) (tS1 Z M Wx .cont) := psI ps_continue fun D σ H ⟨W, s, f, rs, rf, po⟩ => po W H σ Ex.refl rs rf
theorem st_ret {a : Expr} {e : E} (ha : PE X a (tE Z M Wx e)) : PS X (.Return (some a) pos) (tS1 Z M Wx (.ret e)) := psI (ps_ret ha) fun D σ H ⟨W, s, f, rs, rf, po⟩ => by
  replace po : PoS Z Wx W H (TR.ofR f (ev M e f s) fun d s => .rt d s) D := po
  exact ⟨W, s, f, rs, rf, Po.imp (PoS.ofR (rel := RD Z) rs rf po) fun W' s' H' a b e x r q => ⟨q, fun ⟨W1, s1, a1, e1, x1, r1, q1, po1⟩ => po1 W1 H' b Ex.refl r1 q1⟩⟩
theorem st_retN : PS X (.Return none pos) (tS1 Z M Wx .retN) := psI ps_retN fun D σ H ⟨W, s, f, rs, rf, po⟩ => po W H .non Ex.refl rs rfl
def notComp : Expr → Bool
  | .ListComp _ _ _ _ => false
  | .SetComp _ _ _ _ => false
  | .DictComp _ _ _ _ _ => false
  | _ => true
theorem swap_no {e : Expr} {t : Option Expr} {n : Nat} {env : Env} (h : notComp e = true) : swapsWith e t n env = pure false := by
  cases e <;> first | rfl | cases h
theorem st_ex {a : Expr} {e : E} (ha : PE X a (tE Z M Wx e)) (hc : notComp a = true) : PS X (.Expr a pos) (tS1 Z M Wx (.ex e)) := psI (ps_expr ha (swap_no hc)) fun D σ H ⟨W, s, f, rs, rf, po⟩ => by
  replace po : PoS Z Wx W H (TR.ofR f (ev M e f s) fun _ s => .nx f s) D := po
  exact ⟨W, s, f, rs, rf, Po.imp (PoS.ofR (rel := RD Z) rs rf po) fun W' s' H' a b e x r q => ⟨q, fun ⟨W1, s1, a1, e1, x1, r1, q1, po1⟩ => po1 W1 H' σ Ex.refl r1 (rf.mono (x1.tk rs))⟩⟩
theorem st_ite {t : Expr} {a b : List Stmt} {et : E} {ua ub : List S} (ht : PT X t (tT Z M Wx et)) (ha : PSs X a (tS Z M Wx ua)) (hb : PSs X b (tS Z M Wx ub)) : PS X (.If t a b pos) (tS1 Z M Wx (.ite et ua ub)) := psI (ps_if ht ha hb) fun D σ H ⟨W, s, f, rs, rf, po⟩ => by
  replace po : PoS Z Wx W H (TR.ofR f (tru (ev M et f s)) fun t s => cond t (xcs M ua f s) (xcs M ub f s)) D := po
  refine ⟨W, s, f, rs, rf, Po.imp (PoS.ofR (rel := RB) rs rf po) fun W' s' H' a b e x r q => ⟨q, fun ⟨W1, s1, a1, e1, x1, r1, q1, po1⟩ => ?_⟩⟩
  obtain rfl : a1 = b := q1
  cases a1 with
  | true => exact ⟨W1, s1, f, r1, rf.mono (x1.tk rs), po1⟩
  | false => exact ⟨W1, s1, f, r1, rf.mono (x1.tk rs), po1⟩
/-! ### stores -/
def notTup : Expr → Bool
  | .Tuple _ _ _ => false
  | .List _ _ => false
  | _ => true
theorem sole {tg e : Expr} {n : Nat} {env : Env} : swapsWithSole [tg] e n env = swapsWith e (some tg) n env := rfl
theorem stores_no {tg e : Expr} {env : Env} (h : notTup tg = true ∨ notTup e = true) : swappedStores [tg] e env = pure none := by
  rcases h with h | h
  · cases tg <;> first | rfl | cases h
  · cases tg <;> first | rfl | (cases e <;> first | rfl | cases h)
theorem one_assign {tg : Expr} {env : Env} (h : notStar tg = true) : (assignEach [tg] env).map (·.2) = [assign tg env] := by
  rw [assign_cons h]
  rfl
/-- a value stored -/
theorem asg_po {t : Tg} {e : E} (h : tS1 Z M Wx (.asg t e) D σ H) : tE Z M Wx e σ H fun x H1 => tG Z M t x σ H1 D.nx := by
  obtain ⟨W, s, f, rs, rf, po⟩ := h
  replace po : PoS Z Wx W H (TR.ofR f (ev M e f s) fun d s => TR.ofR f (asg M t d f s) fun f s => .nx f s) D := po
  refine ⟨W, s, f, rs, rf, Po.imp (PoS.ofR (rel := RD Z) rs rf po) fun W' s' H' a b e x r q => ⟨q, fun ⟨W1, s1, a1, e1, x1, r1, q1, po1⟩ => ?_⟩⟩
  have rf1 := rf.mono (x1.tk rs)
  exact ⟨W1, s1, f, a1, r1, rf1, q1, Po.imp (Po.noex (noex_asg _ _ _ _) (PoS.ofR (rel := RFt Z (tslots t) σ) r1 rf1 po1)) fun W' s' H' a b e x r q => ⟨q, fun ⟨W2, s2, a2, e2, x2, r2, q2, po2⟩ => po2 W2 H' b Ex.refl r2 q2.1⟩⟩
theorem st_asg (S : Sx Z M c X Wx) {tg a : Expr} {t : Tg} {e : E} (ha : PE X a (tE Z M Wx e)) (hg : PG X tg (tG Z M t)) (hc : notComp a = true) (hn : notTup tg = true ∨ notTup a = true) (hs : notStar tg = true) : PS X (.Assign [tg] a pos) (tS1 Z M Wx (.asg t e)) :=
  psI (ps_asg ha hg (by rw [sole]; exact swap_no hc) (stores_no hn) (one_assign hs)) fun D σ H h => asg_po h
/-- does a comprehension that is assigned go into the name without a stay? -/
def bkind (sc : Scope) : ScopeKind := if sc.kind.isAnnotationScope then .function else sc.kind
def swapB (c : Cc) (scope : Scope) (pos : Pos) (x : Str) (p : Pos) : Bool := bkind c.sc == .function && c.sc.names.lookup x == some .local && p.line == pos.line && !(scope.names.any fun (n, k) => n == x && (k == .local || k == .cell))
theorem swap_is (S : Sx Z M c X Wx) {elt : Expr} {gens : List Comprehension} {scope : Scope} {cp p : Pos} {x : Str} {n : Nat} : swapsWith (.ListComp elt gens scope cp) (some (.Name x p)) n X.env = pure (swapB c scope cp x p) := by
  have e1 : X.env.blockKind = bkind X.env.scope := rfl
  have e2 : X.env.kindOf x = X.env.scope.names.lookup x := rfl
  show pure _ = pure _
  rw [e1, e2, S.sc]
  rfl
theorem st_lc (S : Sx Z M c X Wx) {y : Str} {py : Pos} {j : Nat} {elt tg iter : Expr} {ifs : List Expr} {scope : Scope} {own : List (Str × Nat)} {spos : Pos} {x : E} {t : Tg} {w : List Nat} {i : It} {cs : List E} (hN : c.N[j]? = some y) (hv : stoB c y = true)
    (hi : PI X tg iter (tI Z M Wx i)) (hb : blkC c.N c.sc scope own = true) (hw : own.map (·.2) = w) (hw2 : ∀ j ∈ tslots t, j ∈ w)
    (hg : ∀ (X : Cx), Sx Z M (c.blk scope) X noW → PG X tg (tG Z M t)) (ht : ∀ (X : Cx), Sx Z M (c.blk scope) X noW → PTs X ifs (tTs Z M cs)) (he : ∀ (X : Cx), Sx Z M (c.blk scope) X noW → PE X elt (tE Z M noW x)) (hs : ∀ (env : Env) (x : Value), foldedSetIterable iter env x = pure x) :
    PS X (.Assign [.Name y py] (.ListComp elt [⟨tg, iter, ifs, 0⟩] scope pos) spos) (tS1 Z M Wx (.asg (.n j) (.comp (.comp x t w i cs)))) := by
  cases hsw : swapB c scope pos y py with
  | false => exact psI (ps_asg (peI (s_lc S hi hb hw hw2 hg ht he hs) fun σ H Q h => tQ_E h) (g_name S hN hv) (by rw [sole, swap_is S, hsw]) (stores_no (.inl rfl)) (one_assign rfl)) fun D σ H h => asg_po h
  | true =>
    subst hw
    have ok : BlkOk X.N X.env.scope scope own := by rw [S.N, S.sc]; exact blkOk_by hb
    have hl : X.env.scope.names.lookup y = some .local := by
      rw [S.sc]
      unfold swapB at hsw
      simp only [Bool.and_eq_true] at hsw
      exact eq_of_beq hsw.1.1.2
    refine psI (ps_setLc S.fx.calm S.fx.nd (i := j) (by rw [S.N]; exact hN) hl (by rw [swap_is S, hsw]) hi ok (fun s H C cl fp => hg _ (S.blk s H scope C cl fp)) (fun s H C cl fp => ht _ (S.blk s H scope C cl fp)) (fun s H C cl fp => he _ (S.blk s H scope C cl fp)) (hs X.env)) fun D σ H h => ?_
    refine tQ_lc hw2 (tQ_E ((asg_po h).imp fun v H1 ⟨W, s, f, d, rs, rf, rd, po⟩ => ?_))
    exact Po.ok po rs ⟨rf.set j rd, Keep.set⟩
/-- several stores at once: the names, if these go from the right without a tuple -/
def tnm (sc : Scope) (line : Nat) : Expr → Option Str
  | .Name id p => if sc.names.lookup id == some .local && p.line == line then some id else none
  | _ => none
def isStar : Expr → Bool
  | .Starred _ _ => true
  | _ => false
def swp (sc : Scope) (ts vs : List Expr) : Option (Option (List Str)) :=
  if (!(ts.length == 2 || ts.length == 3) || vs.length != ts.length || bkind sc != .function) = true then some none
  else if (vs.any isStar) = true then some none
  else if ((ts.filterMap (tnm sc ((ts.head?.map (·.pos.line)).getD 0))).length != ts.length || (ts.filterMap (tnm sc ((ts.head?.map (·.pos.line)).getD 0))).eraseDups.length != (ts.filterMap (tnm sc ((ts.head?.map (·.pos.line)).getD 0))).length) = true then some none
  else if (vs.all (foldedForSure 8)) = true then some none
  else if (vs.all (constantsAlone 8)) = true then none
  else some (some (ts.filterMap (tnm sc ((ts.head?.map (·.pos.line)).getD 0))))
theorem swp_eq {env : Env} {ts vs : List Expr} {k k2 : Nat} {p p2 : Pos} : swappedStores [.Tuple ts k p] (.Tuple vs k2 p2) env =
    (if (!(ts.length == 2 || ts.length == 3) || vs.length != ts.length || bkind env.scope != .function) = true then pure none
    else if (vs.any isStar) = true then pure none
    else if ((ts.filterMap (tnm env.scope ((ts.head?.map (·.pos.line)).getD 0))).length != ts.length || (ts.filterMap (tnm env.scope ((ts.head?.map (·.pos.line)).getD 0))).eraseDups.length != (ts.filterMap (tnm env.scope ((ts.head?.map (·.pos.line)).getD 0))).length) = true then pure none
    else if (vs.all (foldedForSure 8)) = true then pure none
    else if (vs.all (constantsAlone 8)) = true then (do
      let _ ← (unsupported "assign.tuple-of-constant-expressions:order-of-the-stores" : PySem.Sem PUnit)
      pure (some (ts.filterMap (tnm env.scope ((ts.head?.map (·.pos.line)).getD 0)))))
    else pure (some (ts.filterMap (tnm env.scope ((ts.head?.map (·.pos.line)).getD 0))))) := by
  have e1 : isStar = (fun e : Expr => match e with
    | .Starred .. => true
    | _ => false) := by funext e; cases e <;> rfl
  have e2 : ∀ line, tnm env.scope line = (fun e : Expr => match e with
    | .Name id pos => if (env.kindOf id == some .local && pos.line == line) = true then some id else none
    | _ => none) := by intro line; funext e; cases e <;> rfl
  rw [e1, e2]
  rfl
theorem swp_ok {env : Env} {ts vs : List Expr} {k k2 : Nat} {p p2 : Pos} {r : Option (List Str)} (h : swp env.scope ts vs = some r) : swappedStores [.Tuple ts k p] (.Tuple vs k2 p2) env = pure r := by
  rw [swp_eq]
  unfold swp at h
  split at h
  · rename_i q; cases h; rw [if_pos q]
  rename_i q; rw [if_neg q]
  split at h
  · rename_i q; cases h; rw [if_pos q]
  rename_i q; rw [if_neg q]
  split at h
  · rename_i q; cases h; rw [if_pos q]
  rename_i q; rw [if_neg q]
  split at h
  · rename_i q; cases h; rw [if_pos q]
  rename_i q; rw [if_neg q]
  split at h
  · cases h
  rename_i q; cases h; rw [if_neg q]
/-- several values stored, the tuple made and taken apart -/
theorem st_par (S : Sx Z M c X Wx) {tgs as : List Expr} {ts : List Tg} {es : List E} {k k2 : Nat} {p p2 : Pos} (ha : PA X as (tA Z M Wx es)) (hl : es.length ≤ 1000) (hg : PG X (.Tuple tgs k p) (tG Z M (.t ts))) (hlen : es.length = ts.length) (hw : swp c.sc tgs as = some none) :
    PS X (.Assign [.Tuple tgs k p] (.Tuple as k2 p2) pos) (tS1 Z M Wx (.par ts es)) :=
  psI (ps_asg (s_tup S ha hl).pe hg (by rw [sole]; exact swap_no rfl) (swp_ok (by rw [S.sc]; exact hw)) (one_assign rfl)) fun D σ H ⟨W, s, f, rs, rf, po⟩ => by
    replace po : PoS Z Wx W H (TR.ofR f (evs M es f s) fun ds s => TR.ofR f (asgs M ts ds f s) fun f s => .nx f s) D := po
    have po2 : PoS Z Wx W H (xc M (.asg (.t ts) (.tup es)) f s) D := by
      have e : xc M (.asg (.t ts) (.tup es)) f s = TR.ofR f (evs M es f s) fun ds s => TR.ofR f (asgs M ts ds f s) fun f s => .nx f s := by
        show TR.ofR f ((evs M es f s).bind fun ds s => .ok (.tup ds) s) (fun d s => TR.ofR f (asg M (.t ts) d f s) fun f s => .nx f s) = _
        cases h : evs M es f s with
        | ok ds s1 =>
          show TR.ofR f (cond (Nat.beq ds.length ts.length) (asgs M ts ds f s1) .bad) _ = TR.ofR f (asgs M ts ds f s1) _
          rw [evs_len _ _ _ _ _ h, hlen, Nat.beq_refl]
          rfl
        | ex _ _ => rfl
        | bad => rfl
      rw [e]
      exact po
    exact asg_po ⟨W, s, f, rs, rf, po2⟩
theorem par2 {i j : Nat} {es : List E} (h : tS1 Z M Wx (.par [.n i, .n j] es) D σ H) : tA Z M Wx es σ H fun vs H1 => ∃ v w, vs = [v, w] ∧ D.nx ((σ.set i (some v)).set j (some w)) H1 := by
  obtain ⟨W, s, f, rs, rf, po⟩ := h
  replace po : PoS Z Wx W H (TR.ofR f (evs M es f s) fun ds s => TR.ofR f (asgs M [.n i, .n j] ds f s) fun f s => .nx f s) D := po
  refine ⟨W, s, f, rs, rf, Po.imp (PoS.ofR (rel := RDs Z) rs rf po) fun W' s' H' a b e x r q => ⟨q, fun ⟨W1, s1, ds, e1, x1, r1, q1, po1⟩ => ?_⟩⟩
  cases ds with
  | nil => exact po1.elim
  | cons d ds => cases ds with
    | nil => exact po1.elim
    | cons d2 ds => cases ds with
      | nil =>
        obtain ⟨v, t, ev, h1, w, t2, et, h2, et2⟩ := q1
        obtain rfl : t2 = [] := et2
        subst et
        exact ⟨v, w, ev, po1 W1 H' _ Ex.refl r1 (((rf.mono (x1.tk rs)).set i h1).set j h2)⟩
      | cons _ _ => exact po1.elim
theorem par3 {i j l : Nat} {es : List E} (h : tS1 Z M Wx (.par [.n i, .n j, .n l] es) D σ H) : tA Z M Wx es σ H fun vs H1 => ∃ u v w, vs = [u, v, w] ∧ D.nx (((σ.set i (some u)).set j (some v)).set l (some w)) H1 := by
  obtain ⟨W, s, f, rs, rf, po⟩ := h
  replace po : PoS Z Wx W H (TR.ofR f (evs M es f s) fun ds s => TR.ofR f (asgs M [.n i, .n j, .n l] ds f s) fun f s => .nx f s) D := po
  refine ⟨W, s, f, rs, rf, Po.imp (PoS.ofR (rel := RDs Z) rs rf po) fun W' s' H' a b e x r q => ⟨q, fun ⟨W1, s1, ds, e1, x1, r1, q1, po1⟩ => ?_⟩⟩
  cases ds with
  | nil => exact po1.elim
  | cons d ds => cases ds with
    | nil => exact po1.elim
    | cons d2 ds => cases ds with
      | nil => exact po1.elim
      | cons d3 ds => cases ds with
        | nil =>
          obtain ⟨v, t, ev, h1, w, t2, et, h2, y, t3, et2, h3, et3⟩ := q1
          obtain rfl : t3 = [] := et3
          subst et2
          subst et
          exact ⟨v, w, y, ev, po1 W1 H' _ Ex.refl r1 ((((rf.mono (x1.tk rs)).set i h1).set j h2).set l h3)⟩
        | cons _ _ => exact po1.elim
theorem st_par2 (S : Sx Z M c X Wx) {i j : Nat} {x y : Str} {a b : Expr} {px py : Pos} {es : List E} {k k2 : Nat} {p p2 : Pos} (hi : c.N[i]? = some x) (hj : c.N[j]? = some y) (hij : i ≠ j) (hx : locB c.sc x = true) (hy : locB c.sc y = true) (ha : PA X [a, b] (tA Z M Wx es)) (hw : swp c.sc [.Name x px, .Name y py] [a, b] = some (some [x, y])) :
    PS X (.Assign [.Tuple [.Name x px, .Name y py] k p] (.Tuple [a, b] k2 p2) pos) (tS1 Z M Wx (.par [.n i, .n j] es)) :=
  psI (ps_par S.fx.calm S.fx.nd (by rw [S.N]; exact hi) (by rw [S.N]; exact hj) hij (by rw [S.sc]; exact locB_ok hx) (by rw [S.sc]; exact locB_ok hy) ha (swp_ok (by rw [S.sc]; exact hw)) (by rw [sole]; exact swap_no rfl)) fun D σ H h => par2 h
theorem st_par3 (S : Sx Z M c X Wx) {i j l : Nat} {x y z : Str} {a b d : Expr} {px py pz : Pos} {es : List E} {k k2 : Nat} {p p2 : Pos} (hi : c.N[i]? = some x) (hj : c.N[j]? = some y) (hl : c.N[l]? = some z) (hij : i ≠ j) (hil : i ≠ l) (hjl : j ≠ l) (hx : locB c.sc x = true) (hy : locB c.sc y = true) (hz : locB c.sc z = true) (ha : PA X [a, b, d] (tA Z M Wx es)) (hw : swp c.sc [.Name x px, .Name y py, .Name z pz] [a, b, d] = some (some [x, y, z])) :
    PS X (.Assign [.Tuple [.Name x px, .Name y py, .Name z pz] k p] (.Tuple [a, b, d] k2 p2) pos) (tS1 Z M Wx (.par [.n i, .n j, .n l] es)) :=
  psI (ps_par3 S.fx.calm S.fx.nd (by rw [S.N]; exact hi) (by rw [S.N]; exact hj) (by rw [S.N]; exact hl) hij hil hjl (by rw [S.sc]; exact locB_ok hx) (by rw [S.sc]; exact locB_ok hy) (by rw [S.sc]; exact locB_ok hz) ha (swp_ok (by rw [S.sc]; exact hw)) (by rw [sole]; exact swap_no rfl)) fun D σ H h => par3 h
/-! ### operators in place -/
theorem ps_aug' {i : Nat} {x : Str} {a : Expr} {te : TE} {op : Operator} {ti : TIp} {pos' : Pos} (S : Sx Z M c X Wx) (hi : c.N[i]? = some x) (hv : stoB c x = true) (he : PE X a te) (ho : PIp X op ti) : PS X (.AugAssign (.Name x pos') op a pos) (tAug i te ti) := by
  obtain ⟨h1, h2⟩ := stoB_ok S hv
  exact ps_aug S.fx.nd (by rw [S.N]; exact hi) h1 he ho h2
def rIp (Z : Zn) (o : Op2) : TIp := r2 Z (augD o)
theorem noex_augD {o : Op2} {x y : TR.D} {s : Sto} : NoEx (augD o x y s) := by
  unfold augD
  repeat' (first | exact NoEx.bad | exact noex_opI | split)
theorem ip_sim (o : Op2) (h : o = .add ∨ o = .sub) : PIp X o.py (rIp Z o) := by
  intro pins sh σ H x y v u Q I rx ry ⟨W, s, a, b, rs, ra, rb, po⟩
  cases a with
  | int i =>
    cases b with
    | int j =>
      obtain rfl : x = .int i := ra
      obtain rfl : y = .int j := rb
      rcases h with rfl | rfl
      · exact ip_add pins sh σ H _ _ v u Q I rx ry ⟨i, j, rfl, rfl, Po.ok po rs rfl⟩
      · exact ip_sub pins sh σ H _ _ v u Q I rx ry ⟨i, j, rfl, rfl, Po.ok po rs rfl⟩
    | _ => exact po.elim
  | _ => cases b <;> exact po.elim
theorem opD_int {o : Op2} {a b : Int} {s : Sto} : opD o (.int a) (.int b) s = opI o a b s := by
  cases o <;> rfl
theorem st_aug (S : Sx Z M c X Wx) {i : Nat} {x : Str} {a : Expr} {e : E} {o : Op2} {pos' : Pos} (hi : c.N[i]? = some x) (hv : stoB c x = true) (ha : PE X a (tE Z M Wx e)) (ho : o = .add ∨ o = .sub) : PS X (.AugAssign (.Name x pos') o.py a pos) (tS1 Z M Wx (.aug o i e)) :=
  psI (ps_aug' S hi hv ha (ip_sim (Z := Z) o ho)) fun D σ H ⟨W, s, f, rs, rf, po⟩ => by
    replace po : PoS Z Wx W H (match f[i]? with
      | some (some x) => TR.ofR f (ev M e f s) fun y s => TR.ofR f (augD o x y s) fun z s => .nx (f.set i (some z)) s
      | _ => .bad) D := po
    split at po
    · rename_i d hd
      obtain ⟨v, e1, r1⟩ := rf.at_ _ _ hd
      refine ⟨v, e1, W, s, f, rs, rf, Po.imp (PoS.ofR (rel := RD Z) rs rf po) fun W' s' H' a b e x r q => ⟨q, fun ⟨W1, s1, a1, e1, x1, r1', q1, po1⟩ => ?_⟩⟩
      have rf1 := rf.mono (x1.tk rs)
      refine ⟨W1, s1, d, a1, r1', RD.mono (x1.tk rs) _ r1, q1, Po.imp (Po.noex noex_augD (PoS.ofR (rel := RD Z) r1' rf1 po1)) fun W' s' H' a b e x r q => ⟨q, fun ⟨W2, s2, a2, e2, x2, r2, q2, po2⟩ => ?_⟩⟩
      exact po2 W2 H' _ Ex.refl r2 ((rf1.mono (x2.tk r1')).set i q2)
    · exact po.elim
/-! ### loops -/
def WSound (wh : WOp) : Prop := ∀ t b f s, wh t b f s = .bad ∨ ∃ n, wh t b f s = whN n t b f s
theorem PoS.loop {o : O} {k : Fr → Sto → O} (h : PoS Z Wx W H (match o with
    | .nx f' s' => k f' s'
    | .ct f' s' => k f' s'
    | .bk f' s' => .nx f' s'
    | o => o) D) : PoS Z Wx W H o { D with nx := fun σ' H' => ∃ W' s' f', Ex W H W' H' ∧ RS Z W' s' H' ∧ RF Z W' H' f' σ' ∧ PoS Z Wx W' H' (k f' s') D, ct := fun σ' H' => ∃ W' s' f', Ex W H W' H' ∧ RS Z W' s' H' ∧ RF Z W' H' f' σ' ∧ PoS Z Wx W' H' (k f' s') D, bk := D.nx } := by
  cases o with
  | nx f' s' => exact fun W' H' σ' x r q => ⟨W', s', f', x, r, q, PoS.later (o := k f' s') h x⟩
  | ct f' s' => exact fun W' H' σ' x r q => ⟨W', s', f', x, r, q, PoS.later (o := k f' s') h x⟩
  | bk f' s' => exact h
  | rt d s' => exact h
  | ex e f' s' => exact h
  | bad => exact h
theorem whN_succ {n : Nat} {t : Fr → Sto → TR.R Bool} {b : Fr → Sto → O} {f : Fr} {s : Sto} : whN (n + 1) t b f s = TR.ofR f (t f s) (fun u s' => cond u (match b f s' with
          | .nx f' s' => whN n t b f' s'
          | .ct f' s' => whN n t b f' s'
          | .bk f' s' => .nx f' s'
          | o => o) (.nx f s')) := by
  show (match t f s with
    | .ok true s1 => (match b f s1 with
      | .nx f' s' => whN n t b f' s'
      | .ct f' s' => whN n t b f' s'
      | .bk f' s' => .nx f' s'
      | o => o)
    | .ok false s1 => .nx f s1
    | .ex e s1 => .ex e f s1
    | .bad => .bad) = _
  cases t f s with
  | ok u s' => cases u <;> rfl
  | ex _ _ => rfl
  | bad => rfl
theorem st_wh (hw : WSound M.wh) (hp : PassesOwn (model X.prog X.w) X.A X.env X.xe) {t : Expr} {b : List Stmt} {et : E} {ub : List S} (ht : PT X t (tT Z M Wx et)) (hb : PSs X b (tS Z M Wx ub)) : PS X (.While t b [] pos) (tS1 Z M Wx (.wh et ub)) := psI (ps_while hp ht hb) fun D σ H ⟨W, s, f, rs, rf, po⟩ => by
  replace po : PoS Z Wx W H (M.wh (fun f s => tru (ev M et f s)) (fun f s => xcs M ub f s) f s) D := po
  rcases hw (fun f s => tru (ev M et f s)) (fun f s => xcs M ub f s) f s with h | ⟨n, h⟩
  · rw [h] at po; exact po.elim
  · rw [h] at po
    refine ⟨fun m σ' H' => ∃ W' s' f', RS Z W' s' H' ∧ RF Z W' H' f' σ' ∧ PoS Z Wx W' H' (whN m (fun f s => tru (ev M et f s)) (fun f s => xcs M ub f s) f' s') D, ⟨n, W, s, f, rs, rf, po⟩, ?_⟩
    rintro m σ1 H1 ⟨W1, s1, f1, r1, q1, po1⟩
    cases m with
    | zero => exact po1.elim
    | succ m =>
      rw [whN_succ] at po1
      refine ⟨W1, s1, f1, r1, q1, Po.imp (PoS.ofR (rel := RB) r1 q1 po1) fun W' s' H2 a b e x r q => ⟨q, fun ⟨W2, s2, a2, e2, x2, r2, q2, po2⟩ => ?_⟩⟩
      obtain rfl : a2 = b := q2
      have f2 := q1.mono (x2.tk r1)
      cases a2 with
      | false => exact po2 W2 H2 σ1 Ex.refl r2 f2
      | true =>
        rw [if_pos rfl]
        refine ⟨fun σ' H' => ∃ W' s' f', Ex W2 H2 W' H' ∧ RS Z W' s' H' ∧ RF Z W' H' f' σ' ∧ PoS Z Wx W' H' (whN m (fun f s => tru (ev M et f s)) (fun f s => xcs M ub f s) f' s') D, fun σ' H' ⟨W', s', f', _, k1, k2, k3⟩ => ⟨m, Nat.lt_succ_self m, W', s', f', k1, k2, k3⟩, ?_⟩
        exact ⟨W2, s2, f1, r2, f2, PoS.loop po2⟩
theorem st_fr (hp : PassesOwn (model X.prog X.w) X.A X.env X.xe) (S : Sx Z M c X Wx) {tg iter : Expr} {b : List Stmt} {t : Tg} {i : It} {ub : List TR.S} (hi : PI X tg iter (tI Z M Wx i)) (hg : PG X tg (tG Z M t)) (hb : PSs X b (tS Z M Wx ub)) (hs : ∀ (env : Env) (x : Value), foldedSetIterable iter env x = pure x) :
    PS X (.For tg iter b [] pos) (tS1 Z M Wx (.fr t i ub)) := psI (ps_for hp S.fx.calm hi hg hb (hs X.env)) fun D σ H ⟨W, s, f, rs, rf, po⟩ => by
  replace po : PoS Z Wx W H (TR.ofR f (evi M i f s) fun p s => loopF (nxt p.1) (fun d f s => TR.ofR f (asg M t d f s) fun f s => xcs M ub f s) 0 p.2 f s) D := po
  refine ⟨W, s, f, rs, rf, Po.imp (PoS.ofR (rel := ItR Z) rs rf po) fun W9 s9 H1 a9 J e9 x9 r9 q => ⟨q, fun ⟨W1, s1, p, e1, x1, r1, ⟨ok, hm⟩, po1⟩ => ?_⟩⟩
  refine ⟨fun i m σ' H' => ∃ W2 s2 f2, Ex W1 H1 W2 H' ∧ RS Z W2 s2 H' ∧ RF Z W2 H' f2 σ' ∧ PoS Z Wx W2 H' (loopF (nxt p.1) (fun d f s => TR.ofR f (asg M t d f s) fun f s => xcs M ub f s) i m f2 s2) D, ⟨p.2, W1, s1, f, Ex.refl, r1, rf.mono (x1.tk rs), po1⟩, ?_⟩
  rintro i m σ2 H2 ⟨W2, s2, f2, x2, r2, q2, po2⟩
  have ok2 := ok i W2 s2 H2 (x2.tk r1) r2
  cases hn : nxt p.1 i s2 with
  | none =>
    unfold loopF at po2
    rw [hn] at po2
    exact po2.elim
  | some z =>
    cases z with
    | none =>
      unfold loopF at po2
      rw [hn] at po2
      exact .inl ⟨ok2.1 hn, po2 W2 H2 σ2 Ex.refl r2 q2⟩
    | some d =>
      cases m with
      | zero =>
        unfold loopF at po2
        rw [hn] at po2
        exact po2.elim
      | succ m =>
        unfold loopF at po2
        rw [hn] at po2
        obtain ⟨go, yl⟩ := ok2.2 d hn
        refine .inr ⟨go, fun σ' H' => ∃ W3 s3 f3, Ex W1 H1 W3 H' ∧ RS Z W3 s3 H' ∧ RF Z W3 H' f3 σ' ∧ PoS Z Wx W3 H' (loopF (nxt p.1) (fun d f s => TR.ofR f (asg M t d f s) fun f s => xcs M ub f s) (i + 1) m f3 s3) D, fun σ' H' h => ⟨m, Nat.lt_succ_self m, h⟩, fun v H3 yv => ?_⟩
        obtain ⟨x3, r3, q3⟩ := yl v H3 yv
        have x13 := x2.trans x3
        have f3 := q2.mono (x3.tk r2)
        have po3 := PoS.later po2 x3
        have po4 := PoS.loop (o := TR.ofR f2 (asg M t d f2 s2) fun f s => xcs M ub f s) (k := fun f' s' => loopF (nxt p.1) (fun d f s => TR.ofR f (asg M t d f s) fun f s => xcs M ub f s) (i + 1) m f' s') po3
        refine ⟨W2, s2, f2, d, r3, f3, q3, Po.imp (Po.noex (noex_asg _ _ _ _) (PoS.ofR (rel := RFt Z (tslots t) σ2) r3 f3 po4)) fun W9 s9 H4 a9 σ4 e9 x9 r9 q => ⟨q, fun ⟨W4, s4, f4, e4, x4, r4, q4, po5⟩ => ?_⟩⟩
        refine ⟨W4, s4, f4, r4, q4.1, ?_⟩
        have wk : ∀ {σ' : L2.St} {H' : Hp}, (∃ W' s' f', Ex W2 H3 W' H' ∧ RS Z W' s' H' ∧ RF Z W' H' f' σ' ∧ PoS Z Wx W' H' (loopF (nxt p.1) (fun d f s => TR.ofR f (asg M t d f s) fun f s => xcs M ub f s) (i + 1) m f' s') D) → ∃ W3 s3 f3, Ex W1 H1 W3 H' ∧ RS Z W3 s3 H' ∧ RF Z W3 H' f3 σ' ∧ PoS Z Wx W3 H' (loopF (nxt p.1) (fun d f s => TR.ofR f (asg M t d f s) fun f s => xcs M ub f s) (i + 1) m f3 s3) D :=
          fun ⟨W', s', f', k1, k2, k3, k4⟩ => ⟨W', s', f', x13.trans k1, k2, k3, k4⟩
        revert po5
        cases xcs M ub f4 s4 with
        | nx f' s' => exact fun po5 W' H' σ' x r q => wk (po5 W' H' σ' x r q)
        | ct f' s' => exact fun po5 W' H' σ' x r q => wk (po5 W' H' σ' x r q)
        | bk f' s' => exact fun po5 => po5
        | rt d s' => exact fun po5 => po5
        | ex e f' s' => exact fun po5 => po5
        | bad => exact fun po5 => po5
/-! ### raise -/
theorem pmk0 (S : Sx Z M c X Wx) {x : Str} {p : Pos} {n : Nat} (hg : glB c.sc x = true) (hl : c.gl.lookup x = some (.exc n)) (hn : okName x = true) : PMk X (.Call (.Name x p) [] [] pos) (fun _ H Q => Q (.ref (Z.ca n)) none H) := by
  obtain ⟨hm, ⟨bmB, B, newId, initId, F, q, kC, e1, e2⟩, _⟩ := S.fx.exc x n hl
  obtain ⟨h1, _, _⟩ := okName_ok hn
  intro pins s σ H Q I h
  refine wpAny_Call_Name_kw (ld_glob I (S.gl hg) hm ?_ h1)
  refine PySem.W.callWith_K0 I.kIn kC ?_
  obtain ⟨hp1, g1, d1, tk1, os1⟩ := s
  obtain ⟨bm, N, nm, qn, bs, hdct, sn, sub, ab, col, dd, k0, k1, k2, k3, k5, mN, hC, hN, hni, T⟩ := exc_obj I.kIn q
  exact wpAny_call_exc_subT F T hC hN hni (fun h' e hm => mk_of I hm (raises_own e1 e2) h (I.hok.gone hm.new)) (Nat.zero_le _)
theorem st_rai (S : Sx Z M c X Wx) {x : Str} {p cp : Pos} {n : Nat} (hg : glB c.sc x = true) (hl : c.gl.lookup x = some (.exc n)) (hn : okName x = true) : PS X (.Raise (some (.Call (.Name x p) [] [] cp)) none pos) (tS1 Z M Wx (.rai n [])) :=
  psI (ps_raise S.fx.calm S.tk (pmk0 S hg hl hn)) fun D σ H ⟨W, s, f, rs, rf, po⟩ => by
    replace po : PoS Z Wx W H (.ex ⟨n, []⟩ f s) D := po
    exact po W H σ _ _ Ex.refl rs rf ⟨rfl, rfl, rfl, (S.fx.exc x n hl).2.2⟩
end
end TR
set_option autoImplicit false
set_option linter.all false
set_option maxRecDepth 100000
/-! Does a term of the small language say what a piece of the text says? -/
namespace TR
open PySem PySem.Spec PyProof.Rows L2
abbrev Kx := Cc → Expr → E → Bool
def opEq : Op2 → Operator → Bool
  | .add, .Add => true
  | .sub, .Sub => true
  | .mul, .Mult => true
  | .fdiv, .FloorDiv => true
  | .mod, .Mod => true
  | .pow, .Pow => true
  | _, _ => false
theorem opEq_ok {o : Op2} {p : Operator} (h : opEq o p = true) : p = o.py := by
  cases o <;> cases p <;> first | rfl | cases h
def cmEq : Cm → CmpOp → Bool
  | .eq, .Eq => true
  | .ne, .NotEq => true
  | .lt, .Lt => true
  | .le, .LtE => true
  | .gt, .Gt => true
  | .ge, .GtE => true
  | .isIn, .In => true
  | .notIn, .NotIn => true
  | _, _ => false
theorem cmEq_ok {o : Cm} {p : CmpOp} (h : cmEq o p = true) : p = o.py := by
  cases o <;> cases p <;> first | rfl | cases h
def gvEq (c : Cc) (x : Str) (g : Gv) : Bool := glB c.sc x && decide (c.gl.lookup x = some g) && okName x
theorem gvEq_ok {c : Cc} {x : Str} {g : Gv} (h : gvEq c x g = true) : glB c.sc x = true ∧ c.gl.lookup x = some g ∧ okName x = true := by
  unfold gvEq at h
  rw [Bool.and_eq_true, Bool.and_eq_true, decide_eq_true_eq] at h
  exact ⟨h.1.1, h.1.2, h.2⟩
def slotB (c : Cc) (i : Nat) (x : Str) : Bool := decide (c.N[i]? = some x)
theorem slotB_ok {c : Cc} {i : Nat} {x : Str} (h : slotB c i x = true) : c.N[i]? = some x := of_decide_eq_true h
def bltB (c : Cc) (x : Str) (y : String) : Bool := (Str.ofString y == x) && glB c.sc x
theorem bltB_ok {c : Cc} {x : Str} {y : String} (h : bltB c x y = true) : x = Str.ofString y ∧ glB c.sc x = true := by
  unfold bltB at h
  rw [Bool.and_eq_true] at h
  exact ⟨(eq_of_beq h.1).symm, h.2⟩
def kEs (k : Kx) (c : Cc) : List Expr → List E → Bool
  | [], [] => true
  | a :: as, e :: es => k c a e && notStar a && kEs k c as es
  | _, _ => false
def kKs (k : Kx) (c : Cc) : List Keyword → List E → Bool
  | [], [] => true
  | ⟨_, a, _⟩ :: as, e :: es => k c a e && kKs k c as es
  | _, _ => false
def kwNames : List Keyword → List Str
  | [] => []
  | ⟨some n, _, _⟩ :: r => n :: kwNames r
  | ⟨none, _, _⟩ :: r => kwNames r
def kAnd (k : Kx) (c : Cc) : List Expr → E → Bool
  | [], _ => false
  | [a], e => k c a e
  | a :: b :: r, .and e f => k c a e && kAnd k c (b :: r) f
  | _ :: _ :: _, _ => false
def kOr (k : Kx) (c : Cc) : List Expr → E → Bool
  | [], _ => false
  | [a], e => k c a e
  | a :: b :: r, .or e f => k c a e && kOr k c (b :: r) f
  | _ :: _ :: _, _ => false
def isTup : Expr → Bool
  | .Tuple _ _ _ => true
  | _ => false
def notSet : Expr → Bool
  | .Set _ _ _ => false
  | _ => true
def kI (k : Kx) (c : Cc) (tg a : Expr) : It → Bool
  | .seq e => k c a e
  | .rng es => match a with
    | .Call (.Name x _) as [] _ => bltB c x "range" && kEs k c as es && decide (1 ≤ as.length ∧ as.length ≤ 3)
    | _ => false
  | .enum e => match a with
    | .Call (.Name x _) [b] [] _ => bltB c x "enumerate" && kEs k c [b] [e] && isTup tg
    | _ => false
  | .zip e g => match a with
    | .Call (.Name x _) [b, d] [] _ => bltB c x "zip" && kEs k c [b, d] [e, g] && isTup tg
    | _ => false
  | .rvs e => match a with
    | .Call (.Name x _) [b] [] _ => bltB c x "reversed" && k c b e && notStar b
    | _ => false
  | .items _ => false
mutual
def kT (k : Kx) (c : Cc) : Expr → Tg → Bool
  | .Name x _, .n i => slotB c i x && stoB c x
  | .Tuple es _ _, .t ts => kTs k c es ts
  | .Subscript o i _, .s eo ei => k c o eo && k c i ei && plainIx i
  | _, _ => false
def kTs (k : Kx) (c : Cc) : List Expr → List Tg → Bool
  | [], [] => true
  | e :: es, t :: ts => kT k c e t && notStar e && kTs k c es ts
  | _, _ => false
end
def ownOf (c : Cc) (w : List Nat) : List (Str × Nat) := w.map fun j => ((c.N[j]?).getD Str.empty, j)
theorem ownOf_ix (c : Cc) (w : List Nat) : (ownOf c w).map (·.2) = w := by
  unfold ownOf
  rw [List.map_map]
  induction w with
  | nil => rfl
  | cons a w ih => exact congrArg (a :: ·) ih
/-- one clause -/
def kC1 (k : Kx) (c : Cc) (elt : Expr) (gens : List Comprehension) (scope : Scope) (x : E) (t : Tg) (w : List Nat) (i : It) (cs : List E) : Bool := match gens with
  | [⟨tg, iter, ifs, asy⟩] => decide (asy = 0) && kI k c tg iter i && notSet iter && blkC c.N c.sc scope (ownOf c w) && (tslots t).all (fun j => w.contains j) && kT k (c.blk scope) tg t && decide (ifs.length ≤ 1) && kEs k (c.blk scope) ifs cs && k (c.blk scope) elt x
  | _ => false
/-- two clauses -/
def kC2 (k : Kx) (c : Cc) (elt : Expr) (gens : List Comprehension) (scope : Scope) (x : E) (t : Tg) (w : List Nat) (i : It) (t2 : Tg) (w2 : List Nat) (i2 : It) (cs : List E) : Bool := match gens with
  | [⟨tg, iter, [], asy⟩, ⟨tg1, iter1, ifs1, asy1⟩] => decide (asy = 0) && decide (asy1 = 0) && kI k c tg iter i && notSet iter && notSet iter1 && blkC c.N c.sc scope (ownOf c w) && (tslots t).all (fun j => w.contains j) && (tslots t2).all (fun j => w2.contains j) && w2.all (fun j => w.contains j) &&
      kT k (c.blk scope) tg t && kI k (c.blk scope) tg1 iter1 i2 && kT k (c.blk scope) tg1 t2 && decide (ifs1.length ≤ 1) && kEs k (c.blk scope) ifs1 cs && k (c.blk scope) elt x
  | _ => false
def kD (k : Kx) (c : Cc) : List (Option Expr) → List Expr → List E → Bool
  | [], [], [] => true
  | some a :: ks, b :: vs, e :: g :: es => k c a e && k c b g && kD k c ks vs es
  | _, _, _ => false
def kQ (k : Kx) (c : Cc) : Expr → Sq → Bool
  | .ListComp elt gens scope _, .comp x t w i cs => kC1 k c elt gens scope x t w i cs
  | .ListComp elt gens scope _, .comp2 x t w i t2 w2 i2 cs => kC2 k c elt gens scope x t w i t2 w2 i2 cs
  | .ListComp elt gens scope _, .compR x t w i cs => c.top && kC1 k c elt gens scope x t w i cs
  | _, _ => false
/-- list(range(n)) -/
def kRg (k : Kx) (c : Cc) (x : Str) : B1 → Sq → Expr → Bool
  | .list, .it (.rng [e]), .Call (.Name z _) [a] [] _ => bltB c x "list" && bltB c z "range" && k c a e && notStar a
  | .list, .it (.rng [e, g]), .Call (.Name z _) [a, b] [] _ => bltB c x "list" && bltB c z "range" && k c a e && notStar a && k c b g && notStar b
  | .tuple, .it (.rng [e]), .Call (.Name z _) [a] [] _ => bltB c x "tuple" && bltB c z "range" && k c a e && notStar a
  | .tuple, .it (.rng [e, g]), .Call (.Name z _) [a, b] [] _ => bltB c x "tuple" && bltB c z "range" && k c a e && notStar a && k c b g && notStar b
  | .sortedSet, q, .Call (.Name z _) [a] [] _ => bltB c x "sorted" && bltB c z "set" && kQ k c a q && notStar a
  | _, _, _ => false
def kLs (k : Kx) (c : Cc) (x : Str) : B1 → E → Expr → Bool
  | .lenSet, e, .Call (.Name z _) [a] [] _ => bltB c x "len" && bltB c z "set" && k c a e && notStar a
  | _, _, _ => false
def nilL {α : Type} : List α → Bool
  | [] => true
  | _ => false
/-- one step -/
def kE (k : Kx) (c : Cc) (e : Expr) : E → Bool
  | .v i => match e with
    | .Name x _ => slotB c i x && visB c.sc x && okName x
    | _ => false
  | .c kc => match e with
    | .Constant q _ _ => kc.ok q
    | _ => false
  | .g n => match e with
    | .Name x _ => gvEq c x (.con n)
    | _ => false
  | .gdr n => match e with
    | .Name x _ => gvEq c x (.gd n)
    | _ => false
  | .f n => match e with
    | .Name x _ => gvEq c x (.fn n)
    | _ => false
  | .tup es => match e with
    | .Tuple as _ _ => kEs k c as es && decide (es.length ≤ 1000)
    | _ => false
  | .lst es => match e with
    | .List as _ => kEs k c as es && decide (es.length ≤ 1000)
    | _ => false
  | .op o a b => match e with
    | .BinOp x p y _ => opEq o p && k c x a && k c y b
    | _ => false
  | .neg a => match e with
    | .UnaryOp .USub x _ => k c x a
    | _ => false
  | .not a => match e with
    | .UnaryOp .Not x _ => k c x a
    | _ => false
  | .and a b => match e with
    | .BoolOp .And vs _ => kAnd k c vs (.and a b)
    | _ => false
  | .or a b => match e with
    | .BoolOp .Or vs _ => kOr k c vs (.or a b)
    | _ => false
  | .cmp o a b => match e with
    | .Compare x [p] [y] _ => cmEq o p && cmOk o y && k c x a && k c y b
    | _ => false
  | .chain o o2 a b d => match e with
    | .Compare x [p, p2] [y, z] _ => cmEq o p && cmEq o2 p2 && cmOk o2 z && k c x a && k c y b && k c z d
    | _ => false
  | .isN a => match e with
    | .Compare x [.Is] [.Constant .none _ _] _ => k c x a
    | _ => false
  | .isNN a => match e with
    | .Compare x [.IsNot] [.Constant .none _ _] _ => k c x a
    | _ => false
  | .ite t a b => match e with
    | .IfExp x y z _ => k c x t && k c y a && k c z b
    | _ => false
  | .ix a i => match e with
    | .Subscript x y _ => k c x a && k c y i && plainIx y
    | _ => false
  | .sl a lo hi => match e with
    | .Subscript x (.Slice l h none _) _ => k c x a && (match l, lo with
      | none, none => true
      | some p, some u => k c p u
      | _, _ => false) && (match h, hi with
      | none, none => true
      | some p, some u => k c p u
      | _, _ => false)
    | _ => false
  | .rev a => match e with
    | .Subscript x (.Slice none none (some (.UnaryOp .USub (.Constant (.int 1) _ _) _)) _) _ => k c x a
    | _ => false
  | .call f perm es => match e with
    | .Call (.Name x _) as [] _ => gvEq c x (.fn f) && nilL perm && kEs k c as es
    | .Call (.Name x _) as kws _ => gvEq c x (.fn f) && !nilL perm && kEs k c as (es.take as.length) && kKs k c kws (es.drop as.length) && kwOk kws (kwNames kws) && (c.kw f).contains (as.length, kwNames kws, perm) && perm.all (fun i => Nat.blt i es.length)
    | _ => false
  | .calv i es => match e with
    | .Call (.Name x _) (a :: as) [] _ => slotB c i x && visB c.sc x && okName x && kEs k c (a :: as) es
    | _ => false
  | .b1 b a => match e with
    | .Call (.Name x _) [y] [] _ => (nmOk b x && glB c.sc x && k c y a && notStar y) || kLs k c x b a y
    | _ => false
  | .bq b q => match e with
    | .Call (.Name x _) [y] [] _ => (nmOk b x && glB c.sc x && kQ k c y q && notStar y) || kRg k c x b q y
    | _ => false
  | .dic es => match e with
    | .Dict [] [] _ => nilL es
    | .Dict keys values _ => kD k c keys values es && !nilL keys && Nat.ble keys.length 15
    | _ => false
  | .bi b es => match e with
    | .Call (.Name x _) (y :: ys) [] _ => niOk b x && glB c.sc x && kEs k c (y :: ys) es
    | _ => false
  | .isa ts a => match e with
    | .Call (.Name x _) [y, .Tuple bs _ _] [] _ => bltB c x "isinstance" && k c y a && tysB c bs ts && notStar y && decide (ts.length ≤ 1000) && !nilL ts
    | .Call (.Name x _) [y, z] [] _ => bltB c x "isinstance" && k c y a && notStar y && notStar z && (match ts with
      | [t] => tyB c z t
      | _ => false)
    | _ => false
  | .mt m o es => match e with
    | .Call (.Attribute x name apos) as [] pos => k c x o && kEs k c as es && (Str.ofString (mtName m) == name) && decide (as.length < 29) && atOk x && (apos.endLine == pos.line)
    | _ => false
  | .comp q => kQ k c e q
  | .no => true
  | _ => false
def chkE : Nat → Kx
  | 0, _, _, _ => false
  | n + 1, c, e, u => kE (chkE n) c e u
section
variable {Z : Zn} {M : Sem} {c : Cc} {X : Cx} {Wx : WX} {pos : Pos} {k : Kx}
def OkK (Z : Zn) (M : Sem) (k : Kx) : Prop := ∀ (c : Cc) (X : Cx) (Wx : WX) (e : Expr) (u : E), Sx Z M c X Wx → k c e u = true → PP Z M X Wx e u
theorem kEs_ok (K : OkK Z M k) (S : Sx Z M c X Wx) : ∀ {as : List Expr} {es : List E}, kEs k c as es = true → PA X as (tA Z M Wx es) ∧ as.all notStar = true ∧ as.length = es.length
  | [], [], _ => ⟨s_nil, rfl, rfl⟩
  | a :: as, e :: es, h => by
    have h : (k c a e && notStar a && kEs k c as es) = true := h
    rw [Bool.and_eq_true, Bool.and_eq_true] at h
    obtain ⟨i1, i2, i3⟩ := kEs_ok K S h.2
    exact ⟨s_cons (K _ _ _ _ _ S h.1.1).pe i1 h.1.2, by rw [List.all_cons, h.1.2, i2]; rfl, congrArg Nat.succ i3⟩
  | [], _ :: _, h => by cases h
  | _ :: _, [], h => by cases h
theorem kKs_ok (K : OkK Z M k) (S : Sx Z M c X Wx) : ∀ {as : List Keyword} {es : List E}, kKs k c as es = true → PK X as (tA Z M Wx es) ∧ as.length = es.length
  | [], [], _ => ⟨s_knil, rfl⟩
  | ⟨n, a, p⟩ :: as, e :: es, h => by
    have h : (k c a e && kKs k c as es) = true := h
    rw [Bool.and_eq_true] at h
    obtain ⟨i1, i2⟩ := kKs_ok K S h.2
    exact ⟨s_kcons (K _ _ _ _ _ S h.1).pe i1, congrArg Nat.succ i2⟩
  | [], _ :: _, h => by cases h
  | ⟨_, _, _⟩ :: _, [], h => by cases h
theorem kwOk_len : ∀ {kws : List Keyword} {ks : List Str}, kwOk kws ks = true → ks.length = kws.length
  | [], [], _ => rfl
  | ⟨some n, e, _⟩ :: r, k :: ks, h => by
    have h' : (n == k && notStar e && kwOk r ks) = true := h
    rw [Bool.and_eq_true] at h'
    exact congrArg Nat.succ (kwOk_len h'.2)
  | ⟨none, _, _⟩ :: _, _, h => by cases h
  | [], _ :: _, h => by cases h
  | ⟨some _, _, _⟩ :: _, [], h => by cases h
theorem kAnd_ok (K : OkK Z M k) (S : Sx Z M c X Wx) : ∀ {as : List Expr} {e : E}, kAnd k c as e = true → PE X (.BoolOp .And as pos) (tE Z M Wx e) ∧ PW X (.BoolOp .And as pos) (tT Z M Wx e)
  | [], _, h => by cases h
  | [a], e, h => ⟨pe_one (K _ _ _ _ _ S h).pe, pw_and1 (K _ _ _ _ _ S h).pt⟩
  | a :: b :: r, .and e f, h => by
    have h : (k c a e && kAnd k c (b :: r) f) = true := h
    rw [Bool.and_eq_true] at h
    obtain ⟨i1, i2⟩ := kAnd_ok K S h.2
    exact s_and S (K _ _ _ _ _ S h.1) i1 i2
theorem kOr_ok (K : OkK Z M k) (S : Sx Z M c X Wx) : ∀ {as : List Expr} {e : E}, kOr k c as e = true → PE X (.BoolOp .Or as pos) (tE Z M Wx e) ∧ PW X (.BoolOp .Or as pos) (tT Z M Wx e)
  | [], _, h => by cases h
  | [a], e, h => ⟨pe_one (K _ _ _ _ _ S h).pe, pw_or1 (K _ _ _ _ _ S h).pt⟩
  | a :: b :: r, .or e f, h => by
    have h : (k c a e && kOr k c (b :: r) f) = true := h
    rw [Bool.and_eq_true] at h
    obtain ⟨i1, i2⟩ := kOr_ok K S h.2
    exact s_or S (K _ _ _ _ _ S h.1) i1 i2
theorem set_no {iter : Expr} (h : notSet iter = true) (env : Env) (x : Value) : foldedSetIterable iter env x = pure x := by
  cases iter <;> first | rfl | cases h
theorem isTup_of {tg : Expr} (h : isTup tg = true) : ∃ es j p, tg = .Tuple es j p := by
  cases tg <;> first | exact ⟨_, _, _, rfl⟩ | cases h
theorem kI_ok (K : OkK Z M k) (S : Sx Z M c X Wx) {tg a : Expr} {i : It} (h : kI k c tg a i = true) : PI X tg a (tI Z M Wx i) := by
  unfold kI at h
  split at h
  · exact s_iseq S (K _ _ _ _ _ S h)
  · rename_i es
    split at h
    · rename_i x p as cp
      rw [Bool.and_eq_true, Bool.and_eq_true, decide_eq_true_eq] at h
      obtain ⟨⟨h1, h2⟩, h3, h4⟩ := h
      obtain ⟨rfl, hg⟩ := bltB_ok h1
      obtain ⟨pa, ns, hl⟩ := kEs_ok K S h2
      match as, es, hl, pa, ns with
      | [a], [e], _, pa, ns => exact s_irng1 S pa hg (by simpa using ns)
      | [a, b], [e, g], _, pa, ns =>
        simp only [List.all_cons, List.all_nil, Bool.and_true, Bool.and_eq_true] at ns
        exact s_irng2 S pa hg ns.1 ns.2
      | [a, b, d], [e, g, j], _, pa, ns =>
        simp only [List.all_cons, List.all_nil, Bool.and_true, Bool.and_eq_true] at ns
        exact s_irng3 S pa hg ns.1 ns.2.1 ns.2.2
      | [], _, _, _, _ => simp at h3
      | _ :: _ :: _ :: _ :: _, _, _, _, _ => simp at h4
    · cases h
  · rename_i e
    split at h
    · rename_i x p b cp
      rw [Bool.and_eq_true, Bool.and_eq_true] at h
      obtain ⟨⟨h1, h2⟩, h3⟩ := h
      obtain ⟨rfl, hg⟩ := bltB_ok h1
      obtain ⟨pa, ns, hl⟩ := kEs_ok K S h2
      obtain ⟨_, _, _, rfl⟩ := isTup_of h3
      exact s_ienum S pa hg (by simpa using ns)
    · cases h
  · rename_i e g
    split at h
    · rename_i x p b d cp
      rw [Bool.and_eq_true, Bool.and_eq_true] at h
      obtain ⟨⟨h1, h2⟩, h3⟩ := h
      obtain ⟨rfl, hg⟩ := bltB_ok h1
      obtain ⟨pa, ns, hl⟩ := kEs_ok K S h2
      obtain ⟨_, _, _, rfl⟩ := isTup_of h3
      simp only [List.all_cons, List.all_nil, Bool.and_true, Bool.and_eq_true] at ns
      exact s_izip S pa hg ns.1 ns.2
    · cases h
  · rename_i e
    split at h
    · rename_i x p b cp
      rw [Bool.and_eq_true, Bool.and_eq_true] at h
      obtain ⟨⟨h1, h2⟩, h3⟩ := h
      obtain ⟨rfl, hg⟩ := bltB_ok h1
      exact s_irvs S (K _ _ _ _ _ S h2) hg h3
    · cases h
  · cases h
mutual
theorem kT_ok (K : OkK Z M k) (S : Sx Z M c X Wx) : ∀ {e : Expr} {t : Tg}, kT k c e t = true → PG X e (tG Z M t)
  | .Name x p, .n i, h => by
    have h : (slotB c i x && stoB c x) = true := by simpa [kT] using h
    rw [Bool.and_eq_true] at h
    exact g_name S (slotB_ok h.1) h.2
  | .Tuple es j p, .t ts, h => by
    have h : kTs k c es ts = true := by simpa [kT] using h
    obtain ⟨i1, i2, i3⟩ := kTs_ok K S h
    exact g_tup S i2 i3 i1
  | .Subscript o i p, .s eo ei, h => by
    have h : (k c o eo && k c i ei && plainIx i) = true := by simpa [kT] using h
    rw [Bool.and_eq_true, Bool.and_eq_true] at h
    exact g_sub S (K _ _ _ _ _ S h.1.1) (K _ _ _ _ _ S h.1.2) h.2
  | _, .a _ _, h => by simp [kT] at h
theorem kTs_ok (K : OkK Z M k) (S : Sx Z M c X Wx) : ∀ {es : List Expr} {ts : List Tg}, kTs k c es ts = true → PGs X es (tGs Z M ts) ∧ es.all notStar = true ∧ es.length = ts.length
  | [], [], _ => ⟨gs_nil, rfl, rfl⟩
  | e :: es, t :: ts, h => by
    have h : (kT k c e t && notStar e && kTs k c es ts) = true := by simpa [kTs] using h
    rw [Bool.and_eq_true, Bool.and_eq_true] at h
    obtain ⟨i1, i2, i3⟩ := kTs_ok K S h.2
    exact ⟨gs_cons h.1.2 (kT_ok K S h.1.1) i1, by rw [List.all_cons, h.1.2, i2]; rfl, congrArg Nat.succ i3⟩
  | [], _ :: _, h => by simp [kTs] at h
  | _ :: _, [], h => by simp [kTs] at h
end
theorem tT_bl {X : Cx} {e : Expr} {t : TT} {p : Pos} (h : PW X e t) : PT X e t := h.pt
theorem kIfs_ok (K : OkK Z M k) (S : Sx Z M c X Wx) {ifs : List Expr} {cs : List E} (h7 : ifs.length ≤ 1) (h8 : kEs k c ifs cs = true) : PTs X ifs (tTs Z M cs) := by
  match ifs, cs, h7, h8 with
  | [], [], _, _ => exact ts_nil
  | [a], [e], _, h8 =>
    have h8 : (k c a e && notStar a && true) = true := h8
    rw [Bool.and_eq_true, Bool.and_eq_true] at h8
    exact ts_oneW (K _ _ _ _ _ S h8.1.1).pt
  | [], _ :: _, _, h8 => cases h8
  | [_], [], _, h8 => cases h8
  | [_], _ :: _ :: _, _, h8 => simp [kEs] at h8
  | _ :: _ :: _, _, h7, _ => simp at h7
theorem kD_ok {pos : Pos} (K : OkK Z M k) (S : Sx Z M c X Wx) : ∀ {ks : List (Option Expr)} {vs : List Expr} {es : List E}, kD k c ks vs es = true → PPs X pos ks vs (trsE Z M Wx es) ∧ ks.all (·.isSome) = true ∧ ks.length = vs.length ∧ evenL es = true ∧ es.length = 2 * ks.length
  | [], [], [], _ => ⟨pps_nil, rfl, rfl, rfl, rfl⟩
  | some a :: ks, b :: vs, e :: g :: es, h => by
    have h : (k c a e && k c b g && kD k c ks vs es) = true := by simpa [kD] using h
    rw [Bool.and_eq_true, Bool.and_eq_true] at h
    obtain ⟨i1, i2, i3, i4, i5⟩ := kD_ok (pos := pos) K S h.2
    exact ⟨pps_cons (K _ _ _ _ _ S h.1.1).pe (K _ _ _ _ _ S h.1.2).pe i1, by rw [List.all_cons, i2]; rfl, congrArg Nat.succ i3, i4, by simp only [List.length_cons, i5]; omega⟩
  | none :: _, _, _, h => by simp [kD] at h
  | [], _ :: _, _, h => by simp [kD] at h
  | [], [], _ :: _, h => by simp [kD] at h
  | some _ :: _, [], _, h => by simp [kD] at h
  | some _ :: _, _ :: _, [], h => by simp [kD] at h
  | some _ :: _, _ :: _, [_], h => by simp [kD] at h
theorem kC1_ok (K : OkK Z M k) (S : Sx Z M c X Wx) {elt : Expr} {gens : List Comprehension} {scope : Scope} {x : E} {t : Tg} {w : List Nat} {i : It} {cs : List E} (h : kC1 k c elt gens scope x t w i cs = true) :
    ∃ tg iter ifs, gens = [⟨tg, iter, ifs, 0⟩] ∧ PI X tg iter (tI Z M Wx i) ∧ blkC c.N c.sc scope (ownOf c w) = true ∧ (∀ j ∈ tslots t, j ∈ w) ∧ (∀ (X : Cx) (W : WX), Sx Z M (c.blk scope) X W → PG X tg (tG Z M t)) ∧ (∀ (X : Cx) (W : WX), Sx Z M (c.blk scope) X W → PTs X ifs (tTs Z M cs)) ∧
      (∀ (X : Cx) (W : WX), Sx Z M (c.blk scope) X W → PE X elt (tE Z M W x)) ∧ ∀ (env : Env) (x : Value), foldedSetIterable iter env x = pure x := by
  unfold kC1 at h
  split at h
  · rename_i tg iter ifs asy
    simp only [Bool.and_eq_true, decide_eq_true_eq, List.all_eq_true] at h
    obtain ⟨⟨⟨⟨⟨⟨⟨⟨h1, h2⟩, h3⟩, h4⟩, h5⟩, h6⟩, h7⟩, h8⟩, h9⟩ := h
    subst h1
    refine ⟨tg, iter, ifs, rfl, kI_ok K S h2, h4, fun j hj => List.contains_iff_mem.mp (h5 j hj), fun X W S' => kT_ok K S' h6, fun X W S' => ?_, fun X W S' => (K _ _ _ _ _ S' h9).pe, set_no h3⟩
    match ifs, cs, h7, h8 with
    | [], [], _, _ => exact ts_nil
    | [a], [e], _, h8 =>
      have h8 : (k (c.blk scope) a e && notStar a && true) = true := h8
      rw [Bool.and_eq_true, Bool.and_eq_true] at h8
      exact ts_oneW (K _ _ _ _ _ S' h8.1.1).pt
    | [], _ :: _, _, h8 => cases h8
    | [_], [], _, h8 => cases h8
    | [_], _ :: _ :: _, _, h8 => simp [kEs] at h8
    | _ :: _ :: _, _, h7, _ => simp at h7
  · cases h
theorem kQ_ok (K : OkK Z M k) (S : Sx Z M c X Wx) {e : Expr} {q : Sq} (h : kQ k c e q = true) : PE X e (tQ Z M Wx q) := by
  unfold kQ at h
  split at h
  · obtain ⟨tg, iter, ifs, rfl, h1, h2, h3, h4, h5, h6, h7⟩ := kC1_ok K S h
    exact s_lc S h1 h2 (ownOf_ix c _) h3 (fun X => h4 X noW) (fun X => h5 X noW) (fun X => h6 X noW) h7
  · unfold kC2 at h
    split at h
    · simp only [Bool.and_eq_true, decide_eq_true_eq, List.all_eq_true] at h
      obtain ⟨⟨⟨⟨⟨⟨⟨⟨⟨⟨⟨⟨⟨⟨a1, a2⟩, a3⟩, a4⟩, a5⟩, a6⟩, a7⟩, a8⟩, a9⟩, b1⟩, b2⟩, b3⟩, b4⟩, b5⟩, b6⟩ := h
      subst a1
      subst a2
      exact s_lc2 S (kI_ok K S a3) a6 (ownOf_ix c _) (fun j hj => List.contains_iff_mem.mp (a7 j hj)) (fun j hj => List.contains_iff_mem.mp (a8 j hj)) (fun j hj => List.contains_iff_mem.mp (a9 j hj))
        (fun X S' => kT_ok K S' b1) (fun X S' => kI_ok K S' b2) (fun X S' => kT_ok K S' b3) (fun X S' => kIfs_ok K S' b4 b5) (fun X S' => (K _ _ _ _ _ S' b6).pe) (set_no a4) (set_no a5)
    · cases h
  · rw [Bool.and_eq_true] at h
    obtain ⟨tg, iter, ifs, rfl, h1, h2, h3, h4, h5, h6, h7⟩ := kC1_ok K S h.2
    exact s_lcR S (S.top h.1) h1 h2 (ownOf_ix c _) h3 h4 h5 h6 h7
  · cases h
theorem lc_tru {q : Sq} {e : Expr} (S : Sx Z M c X Wx) (h : PE X e (tQ Z M Wx q)) (hc : ∀ whole, isTrue e X.env whole = (do let v ← whole; standAt e.pos; holding [v] (truthy v))) : PP Z M X Wx e (.comp q) := by
  have pe : PE X e (tE Z M Wx (.comp q)) := peI h fun σ H Q h => tQ_E h
  exact ⟨pe, pt_plain S.fx.K pe hc⟩
theorem nilL_ok {α : Type} {l : List α} (h : nilL l = true) : l = [] := by
  cases l with
  | nil => rfl
  | cons _ _ => cases h
theorem nilL_no {α : Type} {l : List α} (h : (!nilL l) = true) : l ≠ [] := by
  cases l with
  | nil => cases h
  | cons _ _ => exact fun q => nomatch q
theorem kE_ok (K : OkK Z M k) : OkK Z M (fun c e u => kE k c e u) := by
  intro c X Wx e u S h
  replace h : kE k c e u = true := h
  unfold kE at h
  split at h
  · rename_i i
    split at h
    · simp only [Bool.and_eq_true] at h
      exact s_v S (slotB_ok h.1.1) h.1.2 h.2
    · cases h
  · split at h
    · exact s_c S h
    · cases h
  · split at h
    · obtain ⟨h1, h2, h3⟩ := gvEq_ok h
      exact s_g S h1 h2 h3
    · cases h
  · split at h
    · obtain ⟨h1, h2, h3⟩ := gvEq_ok h
      exact s_gd S h1 h2 h3
    · cases h
  · split at h
    · obtain ⟨h1, h2, h3⟩ := gvEq_ok h
      exact s_f S h1 h2 h3
    · cases h
  · split at h
    · simp only [Bool.and_eq_true, decide_eq_true_eq] at h
      exact s_tup S (kEs_ok K S h.1).1 h.2
    · cases h
  · split at h
    · simp only [Bool.and_eq_true, decide_eq_true_eq] at h
      exact s_lst S (kEs_ok K S h.1).1 h.2
    · cases h
  · split at h
    · simp only [Bool.and_eq_true] at h
      obtain rfl := opEq_ok h.1.1
      exact s_op S (K _ _ _ _ _ S h.1.2) (K _ _ _ _ _ S h.2)
    · cases h
  · split at h
    · exact s_neg S (K _ _ _ _ _ S h)
    · cases h
  · split at h
    · exact s_not S (K _ _ _ _ _ S h)
    · cases h
  · split at h
    · obtain ⟨i1, i2⟩ := kAnd_ok K S h
      exact ⟨i1, i2.pt⟩
    · cases h
  · split at h
    · obtain ⟨i1, i2⟩ := kOr_ok K S h
      exact ⟨i1, i2.pt⟩
    · cases h
  · split at h
    · simp only [Bool.and_eq_true] at h
      obtain rfl := cmEq_ok h.1.1.1
      exact s_cmp S (K _ _ _ _ _ S h.1.2) (K _ _ _ _ _ S h.2) h.1.1.2
    · cases h
  · split at h
    · simp only [Bool.and_eq_true] at h
      obtain ⟨⟨⟨⟨⟨h1, h2⟩, h3⟩, h4⟩, h5⟩, h6⟩ := h
      obtain rfl := cmEq_ok h1
      obtain rfl := cmEq_ok h2
      exact s_chain S (K _ _ _ _ _ S h4) (K _ _ _ _ _ S h5) (K _ _ _ _ _ S h6) h3
    · cases h
  · split at h
    · exact s_isN S (K _ _ _ _ _ S h)
    · cases h
  · split at h
    · exact s_isNN S (K _ _ _ _ _ S h)
    · cases h
  · split at h
    · simp only [Bool.and_eq_true] at h
      exact s_ite S (K _ _ _ _ _ S h.1.1) (K _ _ _ _ _ S h.1.2) (K _ _ _ _ _ S h.2)
    · cases h
  · split at h
    · simp only [Bool.and_eq_true] at h
      exact s_ix S (K _ _ _ _ _ S h.1.1) (K _ _ _ _ _ S h.1.2) h.2
    · cases h
  · split at h
    · simp only [Bool.and_eq_true] at h
      obtain ⟨⟨h1, h2⟩, h3⟩ := h
      refine s_sl S (K _ _ _ _ _ S h1) ?_ ?_
      · split at h2
        · exact s_none
        · exact s_some (K _ _ _ _ _ S h2).pe
        · cases h2
      · split at h3
        · exact s_none
        · exact s_some (K _ _ _ _ _ S h3).pe
        · cases h3
    · cases h
  · split at h
    · exact s_rev S (K _ _ _ _ _ S h)
    · cases h
  · split at h
    · simp only [Bool.and_eq_true] at h
      obtain ⟨h1, h2, h3⟩ := gvEq_ok h.1.1
      obtain rfl := nilL_ok h.1.2
      obtain ⟨i1, i2, i3⟩ := kEs_ok K S h.2
      exact s_call S h1 h2 h3 i1 i2 i3
    · rename_i perm es _ x p as kws cp _
      simp only [Bool.and_eq_true] at h
      obtain ⟨⟨⟨⟨⟨⟨h1, h2⟩, h3⟩, h4⟩, h5⟩, h6⟩, h7⟩ := h
      obtain ⟨g1, g2, g3⟩ := gvEq_ok h1
      obtain ⟨i1, i2, i3⟩ := kEs_ok K S h3
      obtain ⟨j1, j2⟩ := kKs_ok K S h4
      have := s_callK (pos := cp) (p := p) S g1 g2 g3 i1 i2 i3 j1 h5 ((kwOk_len h5).trans j2) (by rw [S.kw]; exact List.contains_iff_mem.mp h6) (fun i hi => by
        have := List.all_eq_true.mp h7 i hi
        have e : es.length = (es.take as.length).length + (es.drop as.length).length := by rw [← List.length_append, List.take_append_drop]
        rw [← e]
        simpa [Nat.blt_eq] using this) (nilL_no h2)
      rw [List.take_append_drop] at this
      exact this
    · cases h
  · split at h
    · simp only [Bool.and_eq_true] at h
      obtain ⟨i1, i2, i3⟩ := kEs_ok K S h.2
      exact s_calv S (slotB_ok h.1.1.1) h.1.1.2 h.1.2 i1 i2
    · cases h
  · split at h
    · rcases Bool.or_eq_true _ _ |>.mp h with h | h
      · simp only [Bool.and_eq_true] at h
        exact s_b1 S h.1.1.1 h.1.1.2 (K _ _ _ _ _ S h.1.2) h.2
      · unfold kLs at h
        split at h
        · simp only [Bool.and_eq_true] at h
          obtain ⟨rfl, hg⟩ := bltB_ok h.1.1.1
          obtain ⟨rfl, hg2⟩ := bltB_ok h.1.1.2
          exact s_lenSet S hg hg2 (K _ _ _ _ _ S h.1.2) h.2
        · cases h
    · cases h
  · split at h
    · rcases Bool.or_eq_true _ _ |>.mp h with h | h
      · simp only [Bool.and_eq_true] at h
        exact s_bq S h.1.1.1 h.1.1.2 (kQ_ok K S h.1.2) h.2
      · unfold kRg at h
        split at h
        · simp only [Bool.and_eq_true] at h
          obtain ⟨rfl, hg⟩ := bltB_ok h.1.1.1
          obtain ⟨rfl, hg2⟩ := bltB_ok h.1.1.2
          exact s_listRg S hg hg2 (K _ _ _ _ _ S h.1.2) h.2
        · simp only [Bool.and_eq_true] at h
          obtain ⟨rfl, hg⟩ := bltB_ok h.1.1.1.1.1
          obtain ⟨rfl, hg2⟩ := bltB_ok h.1.1.1.1.2
          exact s_listRg2 S hg hg2 (K _ _ _ _ _ S h.1.1.1.2) (K _ _ _ _ _ S h.1.2) h.1.1.2 h.2
        · simp only [Bool.and_eq_true] at h
          obtain ⟨rfl, hg⟩ := bltB_ok h.1.1.1
          obtain ⟨rfl, hg2⟩ := bltB_ok h.1.1.2
          exact s_tupRg1 S hg hg2 (K _ _ _ _ _ S h.1.2) h.2
        · simp only [Bool.and_eq_true] at h
          obtain ⟨rfl, hg⟩ := bltB_ok h.1.1.1.1.1
          obtain ⟨rfl, hg2⟩ := bltB_ok h.1.1.1.1.2
          exact s_tupRg2 S hg hg2 (K _ _ _ _ _ S h.1.1.1.2) (K _ _ _ _ _ S h.1.2) h.1.1.2 h.2
        · simp only [Bool.and_eq_true] at h
          obtain ⟨rfl, hg⟩ := bltB_ok h.1.1.1
          obtain ⟨rfl, hg2⟩ := bltB_ok h.1.1.2
          exact s_sortSet S hg hg2 (kQ_ok K S h.1.2) h.2
        · cases h
    · cases h
  · split at h
    · obtain rfl := nilL_ok h
      exact s_dnew S
    · simp only [Bool.and_eq_true] at h
      obtain ⟨⟨h1, h2⟩, h3⟩ := h
      obtain ⟨i1, i2, i3, i4, i5⟩ := kD_ok K S h1
      exact s_disp S i1 i2 i3 (nilL_no h2) (Nat.le_of_ble_eq_true h3) i4 i5
    · cases h
  · split at h
    · simp only [Bool.and_eq_true] at h
      obtain ⟨i1, i2, i3⟩ := kEs_ok K S h.2
      exact s_bi S h.1.1 h.1.2 i1 i2
    · cases h
  · split at h
    · simp only [Bool.and_eq_true, decide_eq_true_eq] at h
      obtain ⟨⟨⟨⟨⟨h1, h2⟩, h3⟩, h4⟩, h5⟩, h6⟩ := h
      obtain ⟨rfl, hg⟩ := bltB_ok h1
      exact s_isaT S hg (K _ _ _ _ _ S h2) h3 h4 h5 (nilL_no h6)
    · simp only [Bool.and_eq_true] at h
      obtain ⟨⟨⟨⟨h1, h2⟩, h3⟩, h4⟩, h5⟩ := h
      obtain ⟨rfl, hg⟩ := bltB_ok h1
      split at h5
      · exact s_isa1 S hg (K _ _ _ _ _ S h2) h5 h3 h4
      · cases h5
    · cases h
  · split at h
    · simp only [Bool.and_eq_true, decide_eq_true_eq] at h
      obtain ⟨⟨⟨⟨⟨h1, h2⟩, h3⟩, h4⟩, h5⟩, h6⟩ := h
      obtain ⟨i1, i2, i3⟩ := kEs_ok K S h2
      exact s_mt S (K _ _ _ _ _ S h1) i1 h3 i2 i3 h4 h5 h6
    · cases h
  · have hc : ∀ (env : Env) (whole : PySem.Sem Value), isTrue e env whole = (do let v ← whole; standAt e.pos; holding [v] (truthy v)) := by
      unfold kQ at h
      split at h
      · exact fun _ _ => rfl
      · exact fun _ _ => rfl
      · exact fun _ _ => rfl
      · cases h
    exact lc_tru S (kQ_ok K S h) (hc X.env)
  · exact ⟨⟨fun _ _ _ _ _ _ ⟨_, _, _, _, _, po⟩ => po.elim⟩, ⟨fun _ _ _ _ _ _ ⟨_, _, _, _, _, po⟩ => po.elim⟩⟩
  · cases h
theorem chkE_ok : ∀ n : Nat, OkK Z M (chkE n)
  | 0 => fun _ _ _ _ _ _ h => by cases h
  | n + 1 => kE_ok (chkE_ok n)
end
end TR
set_option autoImplicit false
set_option linter.all false
set_option maxRecDepth 100000
/-! try with several clauses, each with a name or without. -/
namespace TR
open PySem PySem.Spec PyProof.Rows L2
/-- a clause: its class, its name's slot, what its suite does -/
structure Cl where
  c : Value
  slot : Option Nat
  ts : Addr → Value → Option Addr → TS
/-- the ends of a suite whose name is gone behind it -/
def Ends.off (i : Nat) (D : Ends) : Ends := { nx := fun τ G => D.nx (τ.set i none) G, rt := D.rt, bk := fun τ G => D.bk (τ.set i none) G, ct := fun τ G => D.ct (τ.set i none) G }
def Cl.go (k : Cl) (D : Ends) (a : Addr) (cls : Value) (d : Option Addr) (σ : L2.St) (H : Hp) : Prop := match k.slot with
  | none => k.ts a cls d D σ H
  | some i => k.ts a cls d (Ends.off i D) (σ.set i (some (.ref a))) H
def wCl (K : PySem.W.Frag) (Wout : WX) (D : Ends) : List Cl → WX
  | [] => Wout
  | k :: r => fun cls d σ H => ∃ b, PySem.W.exmOne K cls k.c = some b ∧ (b = true → ∀ a, H a = none → k.go D a cls d σ H) ∧ (b = false → wCl K Wout D r cls d σ H)
inductive ClOk (X : Cx) : List ExceptHandler → List Cl → Prop
  | nil : ClOk X [] []
  | cons {x : Str} {k : Cl} {nm : Option Str} {st : Stmt} {sts : List Stmt} {p q : Pos} {hs : List ExceptHandler} {ks : List Cl} (hc : Names X x k.c)
      (hn : match k.slot, nm with
        | none, none => True
        | some i, some n => X.N[i]? = some n ∧ X.env.kindOf n = some .local
        | _, _ => False)
      (run : ∀ (a : Addr) (oe : Obj) (cls : Value) (d : Option Addr) (pn : List (Addr × Obj)), Zc cls d oe → (∃ vs, oe.data = .fields vs) → PSs (X.suite a ((a, oe) :: pn)) (st :: sts) (k.ts a cls d)) (r : ClOk X hs ks) :
      ClOk X (.ExceptHandler (some (.Name x p)) nm (st :: sts) q :: hs) (k :: ks)
section
variable {X : Cx} {body : List Stmt} {h0 : ExceptHandler} {hs : List ExceptHandler} {ks : List Cl} {pos : Pos} {tb : WX → TS} {Wout : WX}
theorem ps_tryC (est : X.stack = X.env :: X.outer) (efr : X.env.frame = some X.env.locals) (nd : X.N.Nodup) (tk : Takes X Wout)
    (hb : ∀ (W : WX) (pn : List (Addr × Obj)) (xe : Value → Shared → Prop), Takes (X.tr pn xe) W → PassesOwn (model X.prog X.w) X.A X.env xe → PSs (X.tr pn xe) body (tb W)) (hh : ClOk X (h0 :: hs) ks) :
    PS X (.Try body (h0 :: hs) [] [] pos) (fun D σ H => tb (wCl X.K Wout D ks) D σ H) := by
  refine ⟨fun pins s σ H D I h => ?_⟩
  have okX := I.ok
  have efs : X.A.frames = some (X.env :: X.outer) := by rw [okX.frames, est]
  refine wpAny_Try_except (wpAny_mono ((hb (wCl X.K Wout D ks) (X.pn ++ pins) (fun e t₁ => wpAny (model X.prog X.w) X.A (noteFrame e X.env) (fun _ t₂ => wpAny (model X.prog X.w) X.A (setFlight e none) (fun _ t₃ => wpAny (model X.prog X.w) X.A (handleBy e X.env (h0 :: hs)) (SP X pins D) X.xe t₃) X.xe t₂) X.xe t₁)
    (fun u t xx => ?_) PassesOwn.looking).run [] s σ H D (I.toTry _) h) (fun fl t hsp => ?_) (fun e t he => he))
  · obtain ⟨a, B, sJ, pins', τ, G, cls, d, rfl, J', nb, up, sk, na, eos, ag, w⟩ := xx
    have J : Inv X pins τ G sJ := J'.ofTry okX
    have sk' : Sky B (X.env :: X.outer) a (Zc cls d) X.env.locals t.heap := by rw [← est]; exact sk
    show wpAny (model X.prog X.w) X.A (noteFrame (.ref a) X.env) _ _ _
    refine Sky.land Zc.steady efs efr sk' fun g3 fl3 up3 => ?_
    have J3 : Inv X pins τ G { t with heap := g3 } := J.landed nb fl3.1 (up.trans up3) eos ag
    obtain ⟨o3, v3, e3, z3, f3⟩ := fl3.there
    have far : a ∉ frs (X.env :: X.outer) := fun hm => by
      obtain ⟨_, o', e', no⟩ := fl3.2.2.1.mem hm
      rw [e3] at e'; cases e'
      exact no _ f3
    have nl : a ≠ X.env.locals := fun z => far (List.mem_filterMap.mpr ⟨X.env, List.mem_cons_self, by rw [efr, z]⟩)
    have nf : a ∉ X.fs := fun hm => by
      obtain ⟨e, m, q⟩ := List.mem_filterMap.mp hm
      exact far (List.mem_filterMap.mpr ⟨e, List.mem_cons_of_mem _ m, q⟩)
    have S3 := J3.suite e3 f3 na nl nf
    have go : ∀ {hs' : List ExceptHandler} {ks' : List Cl}, ClOk X hs' ks' → wCl X.K Wout D ks' cls d τ G → wpAny (model X.prog X.w) X.A (handleBy (.ref a) X.env hs') (SP X pins D) X.xe { t with heap := g3 } := by
      intro hs' ks' hk
      induction hk with
      | nil =>
        intro w
        refine wpAny_handleBy_nil ?_
        obtain ⟨_, _, _, _, _, T, _, _, he, _, hd, h1, _⟩ := id fl3
        unfold PySem.passOn
        refine wpAny_bind (wpAny_field he hd h1 ?_)
        rw [if_neg (by simp : ¬ ((Value.ref T == Value.none) = true))]
        have leave : wpAny (model X.prog X.w) X.A (setFlight (.ref a) X.env.frame) (fun _ t4 => wpAny (model X.prog X.w) X.A (throw (.ref a) : PySem.Sem Flow) (SP X pins D) X.xe t4) X.xe { t with heap := g3 } := by
          rw [efr]
          exact HandSPX.setFlight_upZ fl3 fun g4 hh4 up4 => wpAny_throw (tk _ _ ⟨a, B, sJ, pins, τ, G, cls, d, rfl, J, nb, (up.trans up3).trans up4, .inr (.inr (by rw [est]; exact hh4)), na, eos, ag, w⟩)
        first | exact wpAny_bind (wpAny_pure (wpAny_bind leave)) | exact wpAny_bind leave
      | @cons x k nm st sts p q hs2 ks2 hc hn run r ih =>
        rintro ⟨b, hb1, yes, no⟩
        refine wpAny_handleBy_cons (codeAny_handlers_test ?_) (by intro z; cases z)
        have lt : PySem.W.Looks (model X.prog X.w) g3 (typeOf (.ref a)) cls := fun A Q E s k q => wpAny_typeOf_ref (k _ _ e3) (by rw [z3.1]; exact q)
        have lm := PySem.W.exm_one (M := model X.prog X.w) (J3.kIn) lt hb1
        have test : ∀ {Q E : Value → Shared → Prop}, Q k.c { t with heap := g3 } → wpAny (model X.prog X.w) (X.A.mark (some (.ref a))) (eval (.Name x p) X.env) Q E { t with heap := g3 } := fun {Q E} y => by
          obtain ⟨hg, hd, hm | ⟨hm, hv, hx⟩⟩ := hc
          · exact ld_glob (X := X.suite a ((a, o3) :: (X.pn ++ pins))) S3 hg hm y hd
          · exact ld_blt (X := X.suite a ((a, o3) :: (X.pn ++ pins))) S3 hg hm hv y hx hd
        refine test (lm.here ?_)
        cases b with
        | false => exact ih (no rfl)
        | true =>
          have w1 := yes rfl a na
          unfold Cl.go at w1
          cases hsl : k.slot with
          | none =>
            rw [hsl] at w1 hn
            cases nm with
            | some n => exact hn.elim
            | none =>
              refine codeAny_handlers_suite (HandSPX.lands_againZ fl3 fun g4 fl4 up4 => ?_)
              have J4 : Inv X pins τ G { t with heap := g4 } := J.landed nb fl4.1 ((up.trans up3).trans up4) eos ag
              obtain ⟨o4, v4, e4, z4, f4⟩ := fl4.there
              refine wpAny_mono ((run a o4 cls d (X.pn ++ pins) z4 ⟨_, f4⟩).run [] _ _ G _ (J4.suite e4 f4 na nl nf) w1) (fun f s6 sp => ?_) (fun _ _ z => False.elim z)
              cases f with
              | next => obtain ⟨σ6, H6, S6, q6⟩ := sp; exact ⟨_, _, S6.unsuite okX, q6⟩
              | brk => obtain ⟨σ6, H6, S6, q6⟩ := sp; exact ⟨_, _, S6.unsuite okX, q6⟩
              | cont => obtain ⟨σ6, H6, S6, q6⟩ := sp; exact ⟨_, _, S6.unsuite okX, q6⟩
              | ret u => obtain ⟨v6, σ6, H6, S6, r6, q6⟩ := sp; exact ⟨_, _, _, S6.unsuite okX, r6, q6⟩
          | some i =>
            rw [hsl] at w1 hn
            cases nm with
            | none => exact hn.elim
            | some n =>
              obtain ⟨hi, hl⟩ := hn
              refine codeAny_handlers_suite_as (HandSPX.lands_againZ fl3 fun g4 fl4 up4 => ?_)
              have J4 : Inv X pins τ G { t with heap := g4 } := J.landed nb fl4.1 ((up.trans up3).trans up4) eos ag
              obtain ⟨o4, v4, e4, z4, f4⟩ := fl4.there
              refine store_ok (X := X.suite a ((a, o4) :: (X.pn ++ pins))) (v := .ref a) (J4.suite e4 f4 na nl nf) nd hi (.inl hl) rfl (fun s5 S5 => ?_) (.inr hl)
              refine wpAny_mono ((run a o4 cls d (X.pn ++ pins) z4 ⟨_, f4⟩).run [] s5 _ G _ S5 w1) (fun f s6 sp => ?_) (fun _ _ z => False.elim z)
              have behind : ∀ {σ6 : L2.St} {H6 : Hp} {Q : Shared → Prop}, Inv (X.suite a ((a, o4) :: (X.pn ++ pins))) [] σ6 H6 s6 → (∀ s7, Inv X pins (σ6.set i none) H6 s7 → Q s7) → wpAny (model X.prog X.w) X.A (do bindName X.env n .none; unbindBehindTheSuite X.env n q) (fun _ s7 => Q s7) X.xe s6 := fun {σ6 H6 Q} S6 hq => gone_ok (S6.unsuite okX) nd hi hl hq
              cases f with
              | next => obtain ⟨σ6, H6, S6, q6⟩ := sp; exact behind S6 fun s7 J7 => ⟨_, _, J7, q6⟩
              | brk => obtain ⟨σ6, H6, S6, q6⟩ := sp; exact behind S6 fun s7 J7 => ⟨_, _, J7, q6⟩
              | cont => obtain ⟨σ6, H6, S6, q6⟩ := sp; exact behind S6 fun s7 J7 => ⟨_, _, J7, q6⟩
              | ret u => obtain ⟨v6, σ6, H6, S6, r6, q6⟩ := sp; exact behind S6 fun s7 J7 => ⟨_, _, _, J7, r6, q6⟩
    exact go hh w
  · cases fl with
    | next => obtain ⟨σ', H', J', q⟩ := hsp; exact wpAny_execs_nil ⟨σ', H', J'.ofTry okX, q⟩
    | brk => obtain ⟨σ', H', J', q⟩ := hsp; exact ⟨σ', H', J'.ofTry okX, q⟩
    | cont => obtain ⟨σ', H', J', q⟩ := hsp; exact ⟨σ', H', J'.ofTry okX, q⟩
    | ret u => obtain ⟨v, σ', H', J', r, q⟩ := hsp; exact ⟨v, σ', H', J'.ofTry okX, r, q⟩
end
end TR
set_option autoImplicit false
set_option linter.all false
set_option maxRecDepth 100000
/-! try: suites that tell a row of constants and of what the error is. -/
namespace TR
open PySem PySem.Spec PyProof.Rows L2
section
variable {Z : Zn} {M : Sem} {c : Cc} {X : Cx} {Wx : WX} {pos : Pos} {W : Wd} {H : Hp} {s : Sto} {f : Fr} {σ : L2.St}
def Kc.V : Kc → V
  | .non => .non
  | .bl b => .bl b
  | .int i => .int i
  | .str x => .str x
def hD (M : Sem) (n : Nat) : E → TR.D
  | .c k => k.d
  | _ => .bl (M.T.ve n)
def hV (M : Sem) (n : Nat) : E → V
  | .c k => k.V
  | _ => .bl (M.T.ve n)
def isC : E → Bool
  | .c _ => true
  | _ => false
/-- a row's items in a suite -/
def hB (i : Nat) : E → Bool
  | .c _ => true
  | .isv (.v j) => Nat.beq j i
  | _ => false
theorem h_evs {i n : Nat} : ∀ {es : List E}, es.all (hB i) = true → evs M es (f.set i (some (.ex n))) s = .bad ∨ (evs M es (f.set i (some (.ex n))) s = .ok (es.map (hD M n)) s ∧ (es.all isC = false → i < f.length))
  | [], _ => .inr ⟨rfl, fun h => nomatch h⟩
  | e :: es, h => by
    rw [List.all_cons, Bool.and_eq_true] at h
    have ih := h_evs (n := n) h.2
    have hd : ev M e (f.set i (some (.ex n))) s = .bad ∨ (ev M e (f.set i (some (.ex n))) s = .ok (hD M n e) s ∧ (isC e = false → i < f.length)) := by
      match e, h.1 with
      | .c k, _ => exact .inr ⟨rfl, fun h => nomatch h⟩
      | .isv (.v j), h1 =>
        have h1 : Nat.beq j i = true := h1
        obtain rfl := Nat.eq_of_beq_eq_true h1
        by_cases hl : j < f.length
        · refine .inr ⟨?_, fun _ => hl⟩
          show ((match (f.set j (some (.ex n)))[j]? with
            | some (some d) => .ok d s
            | _ => .bad : TR.R TR.D).bind _) = _
          rw [List.getElem?_set_self hl]
          rfl
        · refine .inl ?_
          show ((match (f.set j (some (.ex n)))[j]? with
            | some (some d) => .ok d s
            | _ => .bad : TR.R TR.D).bind _) = _
          rw [List.getElem?_eq_none (by rw [List.length_set]; exact Nat.not_lt.mp hl)]
          rfl
    rcases hd with hd | ⟨hd, k1⟩
    · refine .inl ?_
      show ((ev M e (f.set i (some (.ex n))) s).bind _) = _
      rw [hd]
      rfl
    · rcases ih with ih | ⟨ih, k2⟩
      · refine .inl ?_
        show ((ev M e (f.set i (some (.ex n))) s).bind fun x s => (evs M es (f.set i (some (.ex n))) s).bind fun xs s => .ok (x :: xs) s) = _
        rw [hd]
        show ((evs M es (f.set i (some (.ex n))) s).bind _) = _
        rw [ih]
        rfl
      · refine .inr ⟨?_, fun q => ?_⟩
        · show ((ev M e (f.set i (some (.ex n))) s).bind fun x s => (evs M es (f.set i (some (.ex n))) s).bind fun xs s => .ok (x :: xs) s) = _
          rw [hd]
          show ((evs M es (f.set i (some (.ex n))) s).bind _) = _
          rw [ih]
          rfl
        · rw [List.all_cons] at q
          cases hc : isC e with
          | false => exact k1 hc
          | true => rw [hc] at q; exact k2 q
theorem h_rel {n : Nat} : ∀ (es : List E), (es.all fun e => isC e || (match e with
    | .isv _ => true
    | _ => false)) = true → RDs Z W H (es.map (hD M n)) (es.map (hV M n))
  | [], _ => rfl
  | e :: es, h => by
    rw [List.all_cons, Bool.and_eq_true] at h
    refine ⟨hV M n e, _, rfl, ?_, h_rel es h.2⟩
    match e, h.1 with
    | .c k, _ => cases k <;> exact rfl
    | .isv _, _ => exact rfl
/-- what such a suite asks -/
def tsR (Z : Zn) (M : Sem) (i n : Nat) (es : List E) : Addr → Value → Option Addr → TS := fun a cls d D σ H => cls = .ref (Z.ca n) ∧ d = none ∧ (es.all isC = false → σ[i]? = some (some (.ref a))) ∧ ∀ p, H p = none → D.rt (.ref p) (upd H p (.lst (es.map (hV M n))))
/-- what such a suite asks that keeps the row under a name -/
def tsA (Z : Zn) (M : Sem) (i j n : Nat) (es : List E) : Addr → Value → Option Addr → TS := fun a cls d D σ H => cls = .ref (Z.ca n) ∧ d = none ∧ (es.all isC = false → σ[i]? = some (some (.ref a))) ∧ ∀ p, H p = none → D.nx (σ.set j (some (.ref p))) (upd H p (.lst (es.map (hV M n))))
/-- the text of an item -/
def kH (c : Cc) (i : Nat) (nm : Str) : Expr → E → Bool
  | .Constant q _ _, .c k => k.ok q
  | .Call (.Name x _) [.Name y _, .Name z _] [] _, .isv (.v j) => Nat.beq j i && (y == nm) && okName y && (Str.ofString "isinstance" == x) && glB c.sc x && (Str.ofString "ValueError" == z) && glB c.sc z
  | _, _ => false
def kHs (c : Cc) (i : Nat) (nm : Str) : List Expr → List E → Bool
  | [], [] => true
  | a :: as, e :: es => kH c i nm a e && kHs c i nm as es
  | _, _ => false
theorem kHs_hB {i : Nat} {nm : Str} : ∀ {as : List Expr} {es : List E}, kHs c i nm as es = true → es.all (hB i) = true ∧ (es.all fun e => isC e || (match e with
    | .isv _ => true
    | _ => false)) = true ∧ as.all notStar = true ∧ as.length = es.length
  | [], [], _ => ⟨rfl, rfl, rfl, rfl⟩
  | a :: as, e :: es, h => by
    have h : (kH c i nm a e && kHs c i nm as es) = true := h
    rw [Bool.and_eq_true] at h
    obtain ⟨i1, i2, i3, i4⟩ := kHs_hB h.2
    have h1 := h.1
    unfold kH at h1
    split at h1
    · exact ⟨by rw [List.all_cons, i1]; rfl, by rw [List.all_cons, i2]; rfl, by rw [List.all_cons, i3]; rfl, congrArg Nat.succ i4⟩
    · simp only [Bool.and_eq_true] at h1
      exact ⟨by rw [List.all_cons, i1]; simp [hB, h1.1.1.1.1.1.1], by rw [List.all_cons, i2]; rfl, by rw [List.all_cons, i3]; rfl, congrArg Nat.succ i4⟩
    · cases h1
  | [], _ :: _, h => by cases h
  | _ :: _, [], h => by cases h
/-- the items, read in the suite -/
theorem pa_h (S : Sx Z M c X Wx) {i n : Nat} {nm : Str} {a : Addr} {oe : Obj} {pn : List (Addr × Obj)} (hN : c.N[i]? = some nm) (hl : locB c.sc nm = true) (hx : Z.xc n) (hz : Zc (.ref (Z.ca n)) none oe) (hf : ∃ vs, oe.data = .fields vs) : ∀ {as : List Expr} {es : List E}, kHs c i nm as es = true →
    PA (X.suite a ((a, oe) :: pn)) as (fun σ H Q => (es.all isC = false → σ[i]? = some (some (.ref a))) ∧ Q (es.map (hV M n)) H)
  | [], [], _ => paI pa_nil fun σ H Q h => h.2
  | b :: as, e :: es, h => by
    have h : (kH c i nm b e && kHs c i nm as es) = true := h
    rw [Bool.and_eq_true] at h
    have ih := pa_h S (a := a) (oe := oe) (pn := pn) hN hl hx hz hf h.2
    have h1 := h.1
    unfold kH at h1
    have hs : notStar b = true := by
      obtain ⟨_, _, q, _⟩ := kHs_hB (show kHs c i nm [b] [e] = true by rw [show kHs c i nm [b] [e] = (kH c i nm b e && true) from rfl, h.1]; rfl)
      simpa using q
    split at h1
    · rename_i q j p k _
      have pe : PE (X.suite a ((a, oe) :: pn)) (.Constant q j p) (tC k.V) := by
        cases k <;> cases q <;> first | (cases h1; done) | (obtain rfl := eq_of_beq h1; first | exact pe_bl | exact pe_int | exact pe_str) | exact pe_non
      exact paI (pa_cons pe ih (star_cons hs)) fun σ H Q h => h
    · rename_i x p y p1 z p2 cp j _
      simp only [Bool.and_eq_true] at h1
      obtain ⟨⟨⟨⟨⟨⟨g1, g2⟩, g3⟩, g4⟩, g5⟩, g6⟩, g7⟩ := h1
      obtain rfl := Nat.eq_of_beq_eq_true g1
      obtain rfl := eq_of_beq g2
      obtain rfl := (eq_of_beq g4).symm
      obtain rfl := (eq_of_beq g6).symm
      obtain ⟨n1, n2, _⟩ := okName_ok g3
      have eK : (X.suite a ((a, oe) :: pn)).K = X.K := rfl
      have vis : Vis (X.suite a ((a, oe) :: pn)).env.scope y := by
        show Vis X.env.scope y
        rw [S.sc]
        exact .inl (locB_ok hl)
      have p1' : PE (X.suite a ((a, oe) :: pn)) (.Name y p1) (tVar j) := pe_var (by show X.N[j]? = _; rw [S.N]; exact hN) vis n1 n2
      have p2' : PE (X.suite a ((a, oe) :: pn)) (.Name (Str.ofString "ValueError") p2) (tC (.ty "ValueError")) := pe_bltn (v := .ty "ValueError") (u := .type "ValueError") (S.gl g7) (S.nob (by decide +kernel)) (by decide +kernel) rfl (by decide) (by decide)
      have pe := pe_callB (X := X.suite a ((a, oe) :: pn)) (p := p) (pos := cp) (call_isE (X := X) (pn := pn) (a := a) (S.fx.xcc n hx).1 hz hf) (S.gl g5) (S.nob (by decide +kernel)) PyProof.Rows.boot_isinstance (pa_cons p1' (pa_cons p2' pa_nil)) (by decide) (by decide)
      exact paI (pa_cons pe ih) fun σ H Q ⟨h, q⟩ => ⟨_, h (by rw [List.all_cons]; rfl), _, _, _, rfl, fun u r => r, (S.fx.xcc n hx).2, fun q' => h (by rw [List.all_cons]; rfl), q⟩
    · cases h1
  | [], _ :: _, h => by cases h
  | _ :: _, [], h => by cases h
/-- a clause's text -/
def kHd (c : Cc) : ExceptHandler → Nat × Option Nat × List S → Bool
  | .ExceptHandler (some (.Name x _)) (some nm) [.Return (some (.List as _)) _] _, (n, some i, [.ret (.lst es)]) => gvEq c x (.exc n) && slotB c i nm && locB c.sc nm && kHs c i nm as es && decide (es.length ≤ 1000)
  | .ExceptHandler (some (.Name x _)) (some nm) [.Assign [.Name y _] (.List as _) _] _, (n, some i, [.asg (.n j) (.lst es)]) => gvEq c x (.exc n) && slotB c i nm && locB c.sc nm && kHs c i nm as es && decide (es.length ≤ 1000) && slotB c j y && locB c.sc y && !(Nat.beq i j)
  | _, _ => false
def kHds (c : Cc) : List ExceptHandler → List (Nat × Option Nat × List S) → Bool
  | [], [] => true
  | h :: hs, u :: us => kHd c h u && kHds c hs us
  | _, _ => false
/-- the clauses, as the layer has them; what the body's error then finds -/
theorem kHds_ok (S : Sx Z M c X Wx) : ∀ {hs : List ExceptHandler} {us : List (Nat × Option Nat × List TR.S)}, kHds c hs us = true → ∃ ks, ClOk X hs ks ∧ ∀ (D : Ends) (e : Er) (f : Fr) (s : Sto) (W : Wd) (H : Hp), PoS Z Wx W H (xh M us e f s) D →
    ∀ W' H' σ' cls dd, Ex W H W' H' → RS Z W' s H' → RF Z W' H' f σ' → ErrOk Z W' H' e cls dd → wCl X.K Wx D ks cls dd σ' H'
  | [], [], _ => ⟨[], .nil, fun D e f s W H po => po⟩
  | h :: hs, u :: us, hh => by
    have hh : (kHd c h u && kHds c hs us) = true := hh
    rw [Bool.and_eq_true] at hh
    obtain ⟨ks, k1, k2⟩ := kHds_ok S hh.2
    have h1 := hh.1
    unfold kHd at h1
    split at h1
    · rename_i x p nm as lp rp hp n i es _
      simp only [Bool.and_eq_true, decide_eq_true_eq] at h1
      obtain ⟨⟨⟨⟨g1, g2⟩, g3⟩, g4⟩, g5⟩ := h1
      obtain ⟨a1, a2, a3⟩ := gvEq_ok g1
      obtain ⟨hm, hE, hx⟩ := S.fx.exc x n a2
      obtain ⟨b1, b2, b3, b4⟩ := kHs_hB g4
      obtain ⟨n1, _, _⟩ := okName_ok a3
      refine ⟨⟨.ref (Z.ca n), some i, tsR Z M i n es⟩ :: ks, .cons ⟨S.gl a1, n1, .inl hm⟩ ⟨by rw [S.N]; exact slotB_ok g2, by show X.env.scope.names.lookup nm = _; rw [S.sc]; exact locB_ok g3⟩ (fun a oe cls d pn hz hf => ?_) k1, ?_⟩
      · refine ⟨fun pins sh σ H D I ⟨e1, e2, q1, q2⟩ => ?_⟩
        subst e1
        subst e2
        exact (pss_one (ps_ret (pe_lst (pa_h S (slotB_ok g2) g3 hx hz hf g4)))).run pins sh σ H D I ⟨q1, by rw [List.length_map, sizeLine_eq]; omega, q2⟩
      · intro D e f s W H po W' H' σ' cls dd x1 r1 rf1 er
        obtain ⟨e1, e2, e3, e4⟩ := er
        refine ⟨Nat.beq n e.cls, by rw [e1]; exact S.fx.xcm e.cls n e4 hx, fun hb a na => ?_, fun hb => ?_⟩
        · replace po : PoS Z Wx W H (cond (Nat.beq n e.cls) (match xcs M [.ret (.lst es)] (f.set i (some (.ex n))) s with
            | .nx f' s' => .nx (f'.set i none) s'
            | .bk f' s' => .bk (f'.set i none) s'
            | .ct f' s' => .ct (f'.set i none) s'
            | o => o) (xh M us e f s)) D := po
          rw [hb] at po
          have en := Nat.eq_of_beq_eq_true hb
          have ex : xcs M [.ret (.lst es)] (f.set i (some (.ex n))) s = TR.ofR (f.set i (some (.ex n))) ((evs M es (f.set i (some (.ex n))) s).bind fun ds s => .ok (.ref s.next) (s.new (.lst ds))) fun d s => .rt d s := by
            show (match TR.ofR (f.set i (some (.ex n))) ((evs M es (f.set i (some (.ex n))) s).bind fun ds s => .ok (TR.D.ref s.next) (s.new (.lst ds))) (fun d s => O.rt d s) with
              | .nx f' s' => xcs M [] f' s'
              | o => o) = _
            cases evs M es (f.set i (some (.ex n))) s <;> rfl
          rw [ex] at po
          rcases h_evs (M := M) (f := f) (s := s) (n := n) b1 with hv | ⟨hv, hlt⟩
          · rw [hv] at po
            exact po.elim
          · rw [hv] at po
            replace po : PoS Z Wx W H (.rt (.ref s.next) (s.new (.lst (es.map (hD M n))))) D := po
            show tsR Z M i n es a cls dd (Ends.off i D) (σ'.set i (some (.ref a))) H'
            refine ⟨by rw [e1, ← en], e3, fun q => ?_, fun p hp => ?_⟩
            · rw [List.getElem?_set_self (by rw [← rf1.len]; exact hlt q)]
            · have rr : RDs Z W' H' (es.map (hD M n)) (es.map (hV M n)) := h_rel es b2
              refine po _ _ _ (x1.trans (ex_new (o := .lst (es.map (hV M n))) hp)) (r1.new hp ⟨_, upd_same, RDs.mono (tk_new hp) _ rr⟩) ⟨?_, ?_⟩
              · show s.next < W'.n + 1
                rw [r1.n]
                exact Nat.lt_succ_self _
              · rw [← r1.n, Wd.new_at]
        · refine k2 D e f s W H ?_ W' H' σ' cls dd x1 r1 rf1 ⟨e1, e2, e3, e4⟩
          replace po : PoS Z Wx W H (cond (Nat.beq n e.cls) _ (xh M us e f s)) D := po
          rw [hb] at po
          exact po
    · rename_i x p nm y py as lp rp hp n i j es _
      simp only [Bool.and_eq_true, decide_eq_true_eq, Bool.not_eq_true'] at h1
      obtain ⟨⟨⟨⟨⟨⟨⟨g1, g2⟩, g3⟩, g4⟩, g5⟩, g6⟩, g7⟩, g8⟩ := h1
      have hij : i ≠ j := Nat.ne_of_beq_eq_false g8
      obtain ⟨a1, a2, a3⟩ := gvEq_ok g1
      obtain ⟨hm, hE, hx⟩ := S.fx.exc x n a2
      obtain ⟨b1, b2, b3, b4⟩ := kHs_hB g4
      obtain ⟨n1, _, _⟩ := okName_ok a3
      refine ⟨⟨.ref (Z.ca n), some i, tsA Z M i j n es⟩ :: ks, .cons ⟨S.gl a1, n1, .inl hm⟩ ⟨by rw [S.N]; exact slotB_ok g2, by show X.env.scope.names.lookup nm = _; rw [S.sc]; exact locB_ok g3⟩ (fun a oe cls d pn hz hf => ?_) k1, ?_⟩
      · refine ⟨fun pins sh σ H D I ⟨e1, e2, q1, q2⟩ => ?_⟩
        subst e1
        subst e2
        have hy : (X.suite a ((a, oe) :: pn)).env.scope.names.lookup y = some .local := by
          show X.env.scope.names.lookup y = _
          rw [S.sc]
          exact locB_ok g7
        exact (pss_one (ps_set (i := j) (by show X.N.Nodup; exact S.fx.nd) (by show X.N[j]? = _; rw [S.N]; exact slotB_ok g6) (.inl hy) (pe_lst (pa_h S (slotB_ok g2) g3 hx hz hf g4)) rfl (.inr hy))).run pins sh σ H D I ⟨q1, by rw [List.length_map, sizeLine_eq]; omega, q2⟩
      · intro D e f s W H po W' H' σ' cls dd x1 r1 rf1 er
        obtain ⟨e1, e2, e3, e4⟩ := er
        refine ⟨Nat.beq n e.cls, by rw [e1]; exact S.fx.xcm e.cls n e4 hx, fun hb a na => ?_, fun hb => ?_⟩
        · replace po : PoS Z Wx W H (cond (Nat.beq n e.cls) (match xcs M [.asg (.n j) (.lst es)] (f.set i (some (.ex n))) s with
            | .nx f' s' => .nx (f'.set i none) s'
            | .bk f' s' => .bk (f'.set i none) s'
            | .ct f' s' => .ct (f'.set i none) s'
            | o => o) (xh M us e f s)) D := po
          rw [hb] at po
          have en := Nat.eq_of_beq_eq_true hb
          rcases h_evs (M := M) (f := f) (s := s) (n := n) b1 with hv | ⟨hv, hlt⟩
          · have ex : xcs M [.asg (.n j) (.lst es)] (f.set i (some (.ex n))) s = .bad := by
              show (match TR.ofR (f.set i (some (.ex n))) ((evs M es (f.set i (some (.ex n))) s).bind fun ds s => .ok (TR.D.ref s.next) (s.new (.lst ds))) _ with
                | .nx f' s' => xcs M [] f' s'
                | o => o) = _
              rw [hv]
              rfl
            rw [ex] at po
            exact po.elim
          · have ex : xcs M [.asg (.n j) (.lst es)] (f.set i (some (.ex n))) s = .nx ((f.set i (some (.ex n))).set j (some (.ref s.next))) (s.new (.lst (es.map (hD M n)))) := by
              show (match TR.ofR (f.set i (some (.ex n))) ((evs M es (f.set i (some (.ex n))) s).bind fun ds s => .ok (TR.D.ref s.next) (s.new (.lst ds))) _ with
                | .nx f' s' => xcs M [] f' s'
                | o => o) = _
              rw [hv]
              rfl
            rw [ex] at po
            replace po : PoS Z Wx W H (.nx (((f.set i (some (.ex n))).set j (some (.ref s.next))).set i none) (s.new (.lst (es.map (hD M n))))) D := po
            rw [List.set_comm _ _ hij, List.set_set] at po
            show tsA Z M i j n es a cls dd (Ends.off i D) (σ'.set i (some (.ref a))) H'
            refine ⟨by rw [e1, ← en], e3, fun q => ?_, fun p hp => ?_⟩
            · rw [List.getElem?_set_self (by rw [← rf1.len]; exact hlt q)]
            · have rr : RDs Z W' H' (es.map (hD M n)) (es.map (hV M n)) := h_rel es b2
              have xn := ex_new (W := W') (H := H') (o := .lst (es.map (hV M n))) hp
              have rn := r1.new (c := .lst (es.map (hD M n))) hp ⟨_, upd_same, RDs.mono (tk_new hp) _ rr⟩
              have rd : RD Z (W'.new p) (upd H' p (.lst (es.map (hV M n)))) (.ref s.next) (.ref p) := by
                refine ⟨?_, ?_⟩
                · show s.next < W'.n + 1
                  rw [r1.n]
                  exact Nat.lt_succ_self _
                · rw [← r1.n, Wd.new_at]
              show D.nx (((σ'.set i (some (.ref a))).set j (some (.ref p))).set i none) _
              rw [List.set_comm _ _ hij, List.set_set]
              exact po _ _ _ (x1.trans xn) rn (((rf1.mono (xn.tk r1)).set j rd).unset i)
        · refine k2 D e f s W H ?_ W' H' σ' cls dd x1 r1 rf1 ⟨e1, e2, e3, e4⟩
          replace po : PoS Z Wx W H (cond (Nat.beq n e.cls) _ (xh M us e f s)) D := po
          rw [hb] at po
          exact po
    · cases h1
  | [], _ :: _, h => by cases h
  | _ :: _, [], h => by cases h
end
end TR
set_option autoImplicit false
set_option linter.all false
set_option maxRecDepth 100000
/-! Statements checked; defs. -/
namespace TR
open PySem PySem.Spec PyProof.Rows L2
abbrev Kz := Cc → Stmt → S → Bool
def kSs (k : Kz) (c : Cc) : List Stmt → List S → Bool
  | [], [] => true
  | a :: as, u :: us => k c a u && kSs k c as us
  | _, _ => false
def nmSlot (c : Cc) : Expr → Tg → Bool
  | .Name x _, .n i => slotB c i x && stoB c x
  | _, _ => false
def kPar (k : Kx) (c : Cc) (tgs as : List Expr) (ts : List Tg) (es : List E) : Bool := match swp c.sc tgs as with
  | some none => kEs k c as es && decide (es.length ≤ 1000) && kTs k c tgs ts && decide (es.length = ts.length)
  | some (some ns) => match tgs, as, ts with
    | [.Name x _, .Name y _], [_, _], [.n i, .n j] => kEs k c as es && slotB c i x && slotB c j y && !(Nat.beq i j) && locB c.sc x && locB c.sc y && decide (ns = [x, y])
    | [.Name x _, .Name y _, .Name z _], [_, _, _], [.n i, .n j, .n l] => kEs k c as es && slotB c i x && slotB c j y && slotB c l z && !(Nat.beq i j) && !(Nat.beq i l) && !(Nat.beq j l) && locB c.sc x && locB c.sc y && locB c.sc z && decide (ns = [x, y, z])
    | _, _, _ => false
  | none => false
def kS (k : Kx) (kz : Kz) (c : Cc) (st : Stmt) : S → Bool
  | .asg t e => match st with
    | .Assign [.Name y py] (.ListComp elt gens scope _) _ => (match t, e with
      | .n j, .comp (.comp x t w i cs) => slotB c j y && stoB c y && kC1 k c elt gens scope x t w i cs
      | _, _ => false)
    | .Assign [tg] a _ => k c a e && kT k c tg t && notComp a && (notTup tg || notTup a) && notStar tg
    | _ => false
  | .par ts es => match st with
    | .Assign [.Tuple tgs _ _] (.Tuple as _ _) _ => kPar k c tgs as ts es
    | _ => false
  | .aug o i e => match st with
    | .AugAssign (.Name x _) p a _ => opEq o p && (decide (o = .add) || decide (o = .sub)) && slotB c i x && stoB c x && k c a e
    | _ => false
  | .ex e => match st with
    | .Expr a _ => k c a e && notComp a
    | _ => false
  | .ite t a b => match st with
    | .If x y z _ => k c x t && kSs kz c y a && kSs kz c z b
    | _ => false
  | .wh t b => match st with
    | .While x y [] _ => k c x t && kSs kz c y b
    | _ => false
  | .fr t i b => match st with
    | .For tg iter y [] _ => kI k c tg iter i && kT k c tg t && kSs kz c y b && notSet iter
    | _ => false
  | .ret e => match st with
    | .Return (some a) _ => k c a e
    | _ => false
  | .retN => match st with
    | .Return none _ => true
    | _ => false
  | .rai n [] => match st with
    | .Raise (some (.Call (.Name x _) [] [] _)) none _ => gvEq c x (.exc n)
    | _ => false
  | .pass => match st with
    | .Pass _ => true
    | _ => false
  | .brk => match st with
    | .Break _ => true
    | _ => false
  | .no => true
  | .cont => match st with
    | .Continue _ => true
    | _ => false
  | .tr b hs => match st with
    | .Try body (h0 :: hds) [] [] _ => kSs kz c body b && kHds c (h0 :: hds) hs
    | _ => false
  | _ => false
def chkS (k : Kx) : Nat → Kz
  | 0, _, _, _ => false
  | n + 1, c, st, u => kS k (chkS k n) c st u
section
variable {Z : Zn} {M : Sem} {c : Cc} {X : Cx} {Wx : WX} {pos : Pos} {k : Kx} {kz : Kz}
/-- a context in which statements run: exceptions go through the loops -/
structure Sp' (Z : Zn) (M : Sem) (c : Cc) (X : Cx) (Wx : WX) : Prop where
  sx : Sx Z M c X Wx
  hp : PassesOwn (model X.prog X.w) X.A X.env X.xe
  stk : X.stack = X.env :: X.outer
  fr : X.env.frame = some X.env.locals
def OkZ (Z : Zn) (M : Sem) (kz : Kz) : Prop := ∀ (c : Cc) (X : Cx) (Wx : WX) (st : Stmt) (u : S), Sp' Z M c X Wx → kz c st u = true → PS X st (tS1 Z M Wx u)
theorem kSs_ok (Kz : OkZ Z M kz) (S' : Sp' Z M c X Wx) : ∀ {as : List Stmt} {us : List S}, kSs kz c as us = true → PSs X as (tS Z M Wx us)
  | [], [], _ => st_nil
  | a :: as, u :: us, h => by
    have h : (kz c a u && kSs kz c as us) = true := h
    rw [Bool.and_eq_true] at h
    exact st_cons (Kz _ _ _ _ _ S' h.1) (kSs_ok Kz S' h.2)
  | [], _ :: _, h => by cases h
  | _ :: _, [], h => by cases h
theorem kPar_ok (K : OkK Z M k) (S : Sx Z M c X Wx) {tgs as : List Expr} {ts : List Tg} {es : List E} {j1 j2 : Nat} {p1 p2 : Pos} (h : kPar k c tgs as ts es = true) : PS X (.Assign [.Tuple tgs j1 p1] (.Tuple as j2 p2) pos) (tS1 Z M Wx (.par ts es)) := by
  unfold kPar at h
  split at h
  · rename_i hw
    simp only [Bool.and_eq_true, decide_eq_true_eq] at h
    obtain ⟨⟨⟨h1, h2⟩, h3⟩, h4⟩ := h
    obtain ⟨i1, i2, i3⟩ := kTs_ok K S h3
    exact st_par S (kEs_ok K S h1).1 h2 (g_tup S i2 i3 i1) h4 hw
  · rename_i ns hw
    split at h
    · simp only [Bool.and_eq_true, decide_eq_true_eq, Bool.not_eq_true'] at h
      obtain ⟨⟨⟨⟨⟨⟨h1, h2⟩, h3⟩, h4⟩, h5⟩, h6⟩, rfl⟩ := h
      exact st_par2 S (slotB_ok h2) (slotB_ok h3) (Nat.ne_of_beq_eq_false h4) h5 h6 (kEs_ok K S h1).1 hw
    · simp only [Bool.and_eq_true, decide_eq_true_eq, Bool.not_eq_true'] at h
      obtain ⟨⟨⟨⟨⟨⟨⟨⟨⟨⟨h1, h2⟩, h3⟩, h4⟩, h5⟩, h6⟩, h7⟩, h8⟩, h9⟩, h10⟩, rfl⟩ := h
      exact st_par3 S (slotB_ok h2) (slotB_ok h3) (slotB_ok h4) (Nat.ne_of_beq_eq_false h5) (Nat.ne_of_beq_eq_false h6) (Nat.ne_of_beq_eq_false h7) h8 h9 h10 (kEs_ok K S h1).1 hw
    · cases h
  · cases h
theorem Sp'.tr (S' : Sp' Z M c X Wx) {W : WX} {pn : List (Addr × Obj)} {xe : Value → Shared → Prop} (tk : Takes (X.tr pn xe) W) (hp : PassesOwn (model X.prog X.w) X.A X.env xe) : Sp' Z M c (X.tr pn xe) W := by
  have S := S'.sx
  refine ⟨⟨⟨S.fx.K, S.fx.calm, S.fx.hu, S.fx.hd, S.fx.nd, S.fx.fn, fun f h => ?_, S.fx.con, S.fx.gd, S.fx.gdo, S.fx.blt, S.fx.exc, S.fx.xcc, S.fx.xcm, S.fx.gds⟩, S.N, S.sc, tk, S.fnc, S.kw, fun h => ⟨(S.top h).st, (S.top h).fr⟩⟩, hp, S'.stk, S'.fr⟩
  obtain ⟨k, fd, ps, h1, h2, h3, h4, h5⟩ := (S.fx.pr f h).ex
  exact ⟨k, fd, ps, h1, h2, h3, h4, h5⟩
theorem st_tr (S' : Sp' Z M c X Wx) {body : List Stmt} {h0 : ExceptHandler} {hds : List ExceptHandler} {b : List S} {us : List (Nat × Option Nat × List S)} (hb : ∀ (X' : Cx) (W : WX), Sp' Z M c X' W → PSs X' body (tS Z M W b)) (hh : kHds c (h0 :: hds) us = true) :
    PS X (.Try body (h0 :: hds) [] [] pos) (tS1 Z M Wx (.tr b us)) := by
  have S := S'.sx
  obtain ⟨ks, k1, k2⟩ := kHds_ok S hh
  refine psI (ps_tryC S'.stk S'.fr S.fx.nd S.tk (fun W pn xe tk hp => hb _ W (S'.tr tk hp)) k1) fun D σ H ⟨W, s, f, rs, rf, po⟩ => ⟨W, s, f, rs, rf, ?_⟩
  replace po : PoS Z Wx W H (match xcs M b f s with
    | .ex e f' s' => xh M us e f' s'
    | o => o) D := po
  cases h : xcs M b f s with
  | ex e f' s' =>
    rw [h] at po
    exact fun W' H' σ' cls dd x r q er => k2 D e f' s' W H po W' H' σ' cls dd x r q er
  | nx f' s' => rw [h] at po; exact po
  | bk f' s' => rw [h] at po; exact po
  | ct f' s' => rw [h] at po; exact po
  | rt d s' => rw [h] at po; exact po
  | bad => rw [h] at po; exact po
theorem kS_ok (hw : WSound M.wh) (K : OkK Z M k) (Kz : OkZ Z M kz) : OkZ Z M (fun c st u => kS k kz c st u) := by
  intro c X Wx st u S' h
  have S := S'.sx
  replace h : kS k kz c st u = true := h
  unfold kS at h
  split at h
  · split at h
    · split at h
      · simp only [Bool.and_eq_true] at h
        obtain ⟨⟨h1, h2⟩, h3⟩ := h
        obtain ⟨tg, iter, ifs, rfl, g1, g2, g3, g4, g5, g6, g7⟩ := kC1_ok K S h3
        exact st_lc S (slotB_ok h1) h2 g1 g2 (ownOf_ix c _) g3 (fun X => g4 X noW) (fun X => g5 X noW) (fun X => g6 X noW) g7
      · cases h
    · simp only [Bool.and_eq_true, Bool.or_eq_true] at h
      obtain ⟨⟨⟨⟨h1, h2⟩, h3⟩, h4⟩, h5⟩ := h
      exact st_asg S (K _ _ _ _ _ S h1).pe (kT_ok K S h2) h3 h4 h5
    · cases h
  · split at h
    · exact kPar_ok K S h
    · cases h
  · split at h
    · simp only [Bool.and_eq_true, Bool.or_eq_true, decide_eq_true_eq] at h
      obtain ⟨⟨⟨⟨h1, h2⟩, h3⟩, h4⟩, h5⟩ := h
      obtain rfl := opEq_ok h1
      exact st_aug S (slotB_ok h3) h4 (K _ _ _ _ _ S h5).pe h2
    · cases h
  · split at h
    · simp only [Bool.and_eq_true] at h
      exact st_ex (K _ _ _ _ _ S h.1).pe h.2
    · cases h
  · split at h
    · simp only [Bool.and_eq_true] at h
      exact st_ite (K _ _ _ _ _ S h.1.1).pt (kSs_ok Kz S' h.1.2) (kSs_ok Kz S' h.2)
    · cases h
  · split at h
    · simp only [Bool.and_eq_true] at h
      exact st_wh hw S'.hp (K _ _ _ _ _ S h.1).pt (kSs_ok Kz S' h.2)
    · cases h
  · split at h
    · simp only [Bool.and_eq_true] at h
      exact st_fr S'.hp S (kI_ok K S h.1.1.1) (kT_ok K S h.1.1.2) (kSs_ok Kz S' h.1.2) (set_no h.2)
    · cases h
  · split at h
    · exact st_ret (K _ _ _ _ _ S h).pe
    · cases h
  · split at h
    · exact st_retN
    · cases h
  · split at h
    · obtain ⟨h1, h2, h3⟩ := gvEq_ok h
      exact st_rai S h1 h2 h3
    · cases h
  · split at h
    · exact st_pass
    · cases h
  · split at h
    · exact st_brk
    · cases h
  · exact ⟨fun _ _ _ _ _ _ ⟨_, _, _, _, _, po⟩ => po.elim⟩
  · split at h
    · exact st_cont
    · cases h
  · split at h
    · simp only [Bool.and_eq_true] at h
      exact st_tr S' (fun X' W S2 => kSs_ok Kz S2 h.1) h.2
    · cases h
  · cases h
theorem chkS_ok (hw : WSound M.wh) (K : OkK Z M k) : ∀ n : Nat, OkZ Z M (chkS k n)
  | 0 => fun _ _ _ _ _ _ h => by cases h
  | n + 1 => kS_ok hw K (chkS_ok hw K n)
end
end TR
set_option autoImplicit false
set_option linter.all false
set_option maxRecDepth 100000
/-! The store's log only grows. -/
namespace TR
open PySem (Str PyData)
def Gr (s s' : Sto) : Prop := ∃ l, s'.log = l ++ s.log
theorem Gr.refl {s : Sto} : Gr s s := ⟨[], rfl⟩
theorem Gr.trans {a b c : Sto} (h : Gr a b) (g : Gr b c) : Gr a c := by
  obtain ⟨l, e⟩ := h
  obtain ⟨m, e2⟩ := g
  exact ⟨m ++ l, by rw [e2, e, List.append_assoc]⟩
theorem Gr.new {s : Sto} {c : Cell} : Gr s (s.new c) := ⟨[(s.next, c)], rfl⟩
theorem Gr.put {s : Sto} {a : Nat} {c : Cell} : Gr s (s.put a c) := ⟨[(a, c)], rfl⟩
def GR {α : Type} (s : Sto) : R α → Prop
  | .ok _ s' => Gr s s'
  | .ex _ s' => Gr s s'
  | .bad => True
def GO (s : Sto) : O → Prop
  | .nx _ s' => Gr s s'
  | .rt _ s' => Gr s s'
  | .bk _ s' => Gr s s'
  | .ct _ s' => Gr s s'
  | .ex _ _ s' => Gr s s'
  | .bad => True
section
variable {α β : Type} {s s0 : Sto}
theorem GR.from {r : R α} (h : GR s r) (g : Gr s0 s) : GR s0 r := by
  cases r with
  | ok a s' => exact g.trans h
  | ex e s' => exact g.trans h
  | bad => trivial
theorem GO.from {r : O} (h : GO s r) (g : Gr s0 s) : GO s0 r := by
  cases r <;> first | trivial | exact g.trans h
theorem GR.ok {a : α} : GR s (.ok a s) := Gr.refl
theorem GR.bad : GR s (.bad : R α) := trivial
theorem GR.bind {r : R α} {k : α → Sto → R β} (h : GR s r) (hk : ∀ a s', GR s' (k a s')) : GR s (r.bind k) := by
  cases r with
  | ok a s' => exact (hk a s').from h
  | ex e s' => exact h
  | bad => trivial
theorem GR.ofO {o : Option α} : GR s (R.ofO o s) := by
  cases o with
  | none => trivial
  | some a => exact Gr.refl
theorem GR.nox {r : R α} (h : GR s r) : GR s (R.nox r) := by
  cases r with
  | ok a s' => exact h
  | ex e s' => trivial
  | bad => trivial
theorem GR.cond {b : Bool} {r r' : R α} (h : GR s r) (h' : GR s r') : GR s (cond b r r') := by
  cases b <;> assumption
theorem GO.cond {b : Bool} {r r' : O} (h : GO s r) (h' : GO s r') : GO s (cond b r r') := by
  cases b <;> assumption
theorem GO.ofR {f : Fr} {r : R α} {k : α → Sto → O} (h : GR s r) (hk : ∀ a s', GO s' (k a s')) : GO s (ofR f r k) := by
  cases r with
  | ok a s' => exact (hk a s').from h
  | ex e s' => exact h
  | bad => trivial
theorem GR.new {a : α} {c : Cell} : GR s (.ok a (s.new c)) := Gr.new
theorem GR.put {a : α} {n : Nat} {c : Cell} : GR s (.ok a (s.put n c)) := Gr.put
end
section
variable {g : Nat → List (D × D)} {s : Sto}
theorem gr_opI {o : Op2} {a b : Int} : GR s (opI o a b s) := by unfold opI; (repeat' (first | exact GR.bad | exact GR.ok | exact GR.new | exact GR.put | exact GR.ofO | refine GR.cond ?_ ?_ | refine GR.bind GR.ofO fun _ _ => ?_ | split))
theorem gr_opD {o : Op2} {a b : D} : GR s (opD o a b s) := by
  unfold opD
  repeat' (first | exact gr_opI | exact GR.bad | exact GR.ok | exact GR.new | refine GR.cond ?_ ?_ | split)
theorem gr_augD {o : Op2} {a b : D} : GR s (augD o a b s) := by
  unfold augD
  repeat' (first | exact gr_opI | exact GR.bad | split)
theorem gr_cmD {o : Cm} {a b : D} : GR s (cmD g o a b s) := by unfold cmD; (repeat' (first | exact GR.bad | exact GR.ok | exact GR.new | exact GR.put | exact GR.ofO | refine GR.cond ?_ ?_ | refine GR.bind GR.ofO fun _ _ => ?_ | split))
theorem gr_ixD {a b : D} : GR s (ixD g a b s) := by unfold ixD; (repeat' (first | exact GR.bad | exact GR.ok | exact GR.new | exact GR.put | exact GR.ofO | refine GR.cond ?_ ?_ | refine GR.bind GR.ofO fun _ _ => ?_ | split))
theorem gr_slD {a : D} {l h : Option Int} : GR s (slD a l h s) := by unfold slD; (repeat' (first | exact GR.bad | exact GR.ok | exact GR.new | exact GR.put | exact GR.ofO | refine GR.cond ?_ ?_ | refine GR.bind GR.ofO fun _ _ => ?_ | split))
theorem gr_revD {a : D} : GR s (revD a s) := by unfold revD; (repeat' (first | exact GR.bad | exact GR.ok | exact GR.new | exact GR.put | exact GR.ofO | refine GR.cond ?_ ?_ | refine GR.bind GR.ofO fun _ _ => ?_ | split))
theorem gr_stD {a b d : D} : GR s (stD a b d s) := by unfold stD; (repeat' (first | exact GR.bad | exact GR.ok | exact GR.new | exact GR.put | exact GR.ofO | refine GR.cond ?_ ?_ | refine GR.bind GR.ofO fun _ _ => ?_ | split))
theorem gr_b1D {b : B1} {ds : List D} : GR s (b1D b ds s) := by unfold b1D; (repeat' (first | exact GR.bad | exact GR.ok | exact GR.new | exact GR.put | exact GR.ofO | refine GR.cond ?_ ?_ | refine GR.bind GR.ofO fun _ _ => ?_ | split))
theorem gr_b1V {b : B1} {d : D} : GR s (b1V b d s) := by
  unfold b1V
  repeat' (first | exact gr_b1D | exact GR.bad | exact GR.ok | exact GR.new | refine GR.cond ?_ ?_ | split)
theorem gr_biD {b : Bi} {ds : List D} : GR s (biD b ds s) := by unfold biD; (repeat' (first | exact GR.bad | exact GR.ok | exact GR.new | exact GR.put | exact GR.ofO | refine GR.cond ?_ ?_ | refine GR.bind GR.ofO fun _ _ => ?_ | split))
theorem gr_mtL {m : Mt} {a : Nat} {ds as : List D} : GR s (mtL m a ds as s) := by unfold mtL; (repeat' (first | exact GR.bad | exact GR.ok | exact GR.new | exact GR.put | exact GR.ofO | refine GR.cond ?_ ?_ | refine GR.bind GR.ofO fun _ _ => ?_ | split))
theorem gr_mtM {m : Mt} {ds : List (D × D)} {as : List D} : GR s (mtM m ds as s) := by unfold mtM; (repeat' (first | exact GR.bad | exact GR.ok | exact GR.new | exact GR.put | exact GR.ofO | refine GR.cond ?_ ?_ | refine GR.bind GR.ofO fun _ _ => ?_ | split))
theorem gr_mtD {m : Mt} {o : D} {as : List D} : GR s (mtD g m o as s) := by
  unfold mtD
  repeat' (first | exact gr_mtL | exact gr_mtM | exact GR.bad | split)
end
/-- calls and loops (repeat' (first | exact GR.bad | exact GR.ok | exact GR.new | exact GR.put | exact GR.ofO | refine GR.cond ?_ ?_ | refine GR.bind GR.ofO fun _ _ => ?_ | split)) -/
structure GM (M : Sem) : Prop where
  call : ∀ n ds s, GR s (M.call n ds s)
  wh : ∀ t b f s, (∀ f s, GR s (t f s)) → (∀ f s, GO s (b f s)) → GO s (M.wh t b f s)
theorem gr_loopC {nx : Nat → Sto → Option (Option D)} {b : D → Sto → R (Option D)} (hb : ∀ d s, GR s (b d s)) : ∀ (m i : Nat) (s : Sto), GR s (loopC nx b i m s)
  | m, i, s => by
    unfold loopC
    split
    · exact GR.bad
    · exact GR.ok
    · cases m with
      | zero => exact GR.bad
      | succ m => exact GR.bind (hb _ _) fun _ _ => GR.bind (gr_loopC hb m (i + 1) _) fun _ _ => GR.ok
theorem gr_loopC2 {nx : Nat → Sto → Option (Option D)} {b : D → Sto → R (List D)} (hb : ∀ d s, GR s (b d s)) : ∀ (m i : Nat) (s : Sto), GR s (loopC2 nx b i m s)
  | m, i, s => by
    unfold loopC2
    split
    · exact GR.bad
    · exact GR.ok
    · cases m with
      | zero => exact GR.bad
      | succ m => exact GR.bind (hb _ _) fun _ _ => GR.bind (gr_loopC2 hb m (i + 1) _) fun _ _ => GR.ok
theorem gr_loopF {nx : Nat → Sto → Option (Option D)} {b : D → Fr → Sto → O} (hb : ∀ d f s, GO s (b d f s)) : ∀ (m i : Nat) (f : Fr) (s : Sto), GO s (loopF nx b i m f s)
  | m, i, f, s => by
    unfold loopF
    split
    · trivial
    · exact Gr.refl
    · rename_i d _
      cases m with
      | zero => trivial
      | succ m =>
        have := hb d f s
        show GO s (match b d f s with
          | .nx f' s' => loopF nx b (i + 1) m f' s'
          | .ct f' s' => loopF nx b (i + 1) m f' s'
          | .bk f' s' => .nx f' s'
          | o => o)
        revert this
        cases b d f s with
        | nx f' s' => exact fun h => (gr_loopF hb m (i + 1) f' s').from h
        | ct f' s' => exact fun h => (gr_loopF hb m (i + 1) f' s').from h
        | bk f' s' => exact fun h => h
        | rt d s' => exact fun h => h
        | ex e f' s' => exact fun h => h
        | bad => exact fun h => h
section
variable {M : Sem} (G : GM M)
theorem gr_tru {s : Sto} {r : R D} (h : GR s r) : GR s (tru r) := GR.bind h fun _ _ => GR.ofO
include G
mutual
theorem gr_ev : ∀ (e : E) (f : Fr) (s : Sto), GR s (ev M e f s)
  | .v i, f, s => by
    show GR s (match f[i]? with
      | some (some d) => .ok d s
      | _ => .bad)
    (repeat' (first | exact GR.bad | exact GR.ok | exact GR.new | exact GR.put | exact GR.ofO | refine GR.cond ?_ ?_ | refine GR.bind GR.ofO fun _ _ => ?_ | split))
  | .c k, f, s => GR.ok
  | .g n, f, s => GR.ok
  | .gdr n, f, s => GR.ok
  | .f n, f, s => GR.ok
  | .tup es, f, s => GR.bind (gr_evs es f s) fun _ _ => GR.ok
  | .lst es, f, s => GR.bind (gr_evs es f s) fun _ _ => GR.new
  | .op o a b, f, s => GR.bind (gr_ev a f s) fun _ _ => GR.bind (gr_ev b f _) fun _ _ => gr_opD
  | .neg a, f, s => GR.bind (gr_ev a f s) fun _ _ => by (repeat' (first | exact GR.bad | exact GR.ok | exact GR.new | exact GR.put | exact GR.ofO | refine GR.cond ?_ ?_ | refine GR.bind GR.ofO fun _ _ => ?_ | split))
  | .not a, f, s => GR.bind (gr_tru (gr_ev a f s)) fun _ _ => GR.ok
  | .and a b, f, s => GR.bind (gr_ev a f s) fun _ _ => GR.bind GR.ofO fun _ _ => GR.cond (gr_ev b f _) GR.ok
  | .or a b, f, s => GR.bind (gr_ev a f s) fun _ _ => GR.bind GR.ofO fun _ _ => GR.cond GR.ok (gr_ev b f _)
  | .cmp o a b, f, s => GR.bind (gr_ev a f s) fun _ _ => GR.bind (gr_ev b f _) fun _ _ => gr_cmD
  | .chain o p a b c, f, s => GR.bind (gr_ev a f s) fun _ _ => GR.bind (gr_ev b f _) fun _ _ => GR.bind (gr_tru gr_cmD) fun _ _ => GR.cond (GR.bind (gr_ev c f _) fun _ _ => gr_cmD) GR.ok
  | .isN a, f, s => GR.bind (gr_ev a f s) fun _ _ => GR.ok
  | .isNN a, f, s => GR.bind (gr_ev a f s) fun _ _ => GR.ok
  | .ite c a b, f, s => GR.bind (gr_tru (gr_ev c f s)) fun _ _ => GR.cond (gr_ev a f _) (gr_ev b f _)
  | .ix a i, f, s => GR.bind (gr_ev a f s) fun _ _ => GR.bind (gr_ev i f _) fun _ _ => gr_ixD
  | .sl a lo hi, f, s => GR.bind (gr_ev a f s) fun _ _ => GR.bind (gr_evo lo f _) fun _ _ => GR.bind (gr_evo hi f _) fun _ _ => gr_slD
  | .rev a, f, s => GR.bind (gr_ev a f s) fun _ _ => gr_revD
  | .call n p es, f, s => GR.bind (gr_evs es f s) fun _ _ => G.call _ _ _
  | .calv x es, f, s => by
    show GR s (match f[x]? with
      | some (some (.fn n)) => (evs M es f s).bind fun ds s => M.call n ds s
      | _ => .bad)
    split
    · exact GR.bind (gr_evs es f s) fun _ _ => G.call _ _ _
    · exact GR.bad
  | .b1 b a, f, s => GR.bind (gr_ev a f s) fun _ _ => gr_b1V
  | .bq b q, f, s => GR.bind (gr_evq q f s) fun _ _ => gr_b1D
  | .dic es, f, s => GR.bind (gr_evs es f s) fun _ _ => gr_b1D
  | .bi b es, f, s => GR.bind (gr_evs es f s) fun _ _ => gr_biD
  | .isa ts a, f, s => GR.bind (gr_ev a f s) fun _ _ => GR.bind GR.ofO fun _ _ => GR.ok
  | .isv a, f, s => GR.bind (gr_ev a f s) fun _ _ => by (repeat' (first | exact GR.bad | exact GR.ok | exact GR.new | exact GR.put | exact GR.ofO | refine GR.cond ?_ ?_ | refine GR.bind GR.ofO fun _ _ => ?_ | split))
  | .mt m o es, f, s => GR.bind (gr_ev o f s) fun _ _ => GR.cond (GR.bind (gr_evs es f _) fun _ _ => GR.cond gr_mtD GR.bad) GR.bad
  | .at o n, f, s => GR.bind (gr_ev o f s) fun _ _ => by (repeat' (first | exact GR.bad | exact GR.ok | exact GR.new | exact GR.put | exact GR.ofO | refine GR.cond ?_ ?_ | refine GR.bind GR.ofO fun _ _ => ?_ | split))
  | .new c es, f, s => GR.bind (gr_evs es f s) fun _ _ => GR.bind ((G.call _ _ _).from Gr.new) fun _ _ => GR.ok
  | .own o c m es, f, s => GR.bind (gr_ev o f s) fun _ _ => by
    split
    · split
      · exact GR.cond (GR.bind (gr_evs es f _) fun _ _ => G.call _ _ _) GR.bad
      · exact GR.bad
    · exact GR.bad
  | .comp q, f, s => GR.bind (gr_evq q f s) fun _ _ => GR.new
  | .no, f, s => trivial
theorem gr_evs : ∀ (es : List E) (f : Fr) (s : Sto), GR s (evs M es f s)
  | [], f, s => GR.ok
  | e :: es, f, s => GR.bind (gr_ev e f s) fun _ _ => GR.bind (gr_evs es f _) fun _ _ => GR.ok
theorem gr_evo : ∀ (e : Option E) (f : Fr) (s : Sto), GR s (evo M e f s)
  | none, f, s => GR.ok
  | some e, f, s => GR.bind (gr_ev e f s) fun _ _ => by (repeat' (first | exact GR.bad | exact GR.ok | exact GR.new | exact GR.put | exact GR.ofO | refine GR.cond ?_ ?_ | refine GR.bind GR.ofO fun _ _ => ?_ | split))
theorem gr_evt : ∀ (es : List E) (f : Fr) (s : Sto), GR s (evt M es f s)
  | [], f, s => GR.ok
  | e :: es, f, s => GR.bind (gr_tru (gr_ev e f s)) fun _ _ => GR.cond (gr_evt es f _) GR.ok
theorem gr_evq : ∀ (q : Sq) (f : Fr) (s : Sto), GR s (evq M q f s)
  | .comp x t w i cs, f, s => GR.bind (gr_evi i f s) fun _ _ => gr_loopC (fun _ _ => GR.bind (gr_asg t _ _ _) fun _ _ => GR.bind (GR.nox (gr_evt cs _ _)) fun _ _ => GR.cond (GR.bind (GR.nox (gr_ev x _ _)) fun _ _ => GR.ok) GR.ok) _ _ _
  | .comp2 x t w i t2 w2 i2 cs, f, s => GR.bind (gr_evi i f s) fun _ _ => GR.bind (gr_loopC2 (fun _ _ => GR.bind (gr_asg t _ _ _) fun _ _ => GR.bind (GR.nox (gr_evi i2 _ _)) fun _ _ => gr_loopC (fun _ _ => GR.bind (gr_asg t2 _ _ _) fun _ _ => GR.bind (GR.nox (gr_evt cs _ _)) fun _ _ =>
      GR.cond (GR.bind (GR.nox (gr_ev x _ _)) fun _ _ => GR.ok) GR.ok) _ _ _) _ _ _) fun _ _ => GR.cond GR.ok GR.bad
  | .it i, f, s => GR.bind (gr_evi i f s) fun _ _ => GR.ofO
  | .compR x t w i cs, f, s => GR.bind (gr_evi i f s) fun _ _ => gr_loopC (fun _ _ => GR.bind (gr_asg t _ _ _) fun _ _ => GR.bind (GR.nox (gr_evt cs _ _)) fun _ _ => GR.cond (GR.bind (gr_ev x _ _) fun _ _ => GR.ok) GR.ok) _ _ _
theorem gr_evi : ∀ (i : It) (f : Fr) (s : Sto), GR s (evi M i f s)
  | .seq a, f, s => GR.bind (gr_ev a f s) fun _ _ => GR.ofO
  | .rng es, f, s => GR.bind (gr_evs es f s) fun _ _ => by (repeat' (first | exact GR.bad | exact GR.ok | exact GR.new | exact GR.put | exact GR.ofO | refine GR.cond ?_ ?_ | refine GR.bind GR.ofO fun _ _ => ?_ | split))
  | .enum a, f, s => GR.bind (gr_ev a f s) fun _ _ => GR.bind GR.ofO fun _ _ => GR.ok
  | .zip a b, f, s => GR.bind (gr_ev a f s) fun _ _ => GR.bind (gr_ev b f _) fun _ _ => GR.ofO
  | .rvs a, f, s => GR.bind (gr_ev a f s) fun _ _ => GR.ofO
  | .items _, f, s => GR.bad
theorem gr_asg : ∀ (t : Tg) (d : D) (f : Fr) (s : Sto), GR s (asg M t d f s)
  | .n i, d, f, s => GR.ok
  | .t ts, d, f, s => by
    show GR s (match rowOf s d with
      | some ds => cond (Nat.beq ds.length ts.length) (asgs M ts ds f s) .bad
      | none => .bad)
    split
    · exact GR.cond (gr_asgs ts _ f s) GR.bad
    · exact GR.bad
  | .a o n, d, f, s => GR.bind (GR.nox (gr_ev o f s)) fun _ _ => by (repeat' (first | exact GR.bad | exact GR.ok | exact GR.new | exact GR.put | exact GR.ofO | refine GR.cond ?_ ?_ | refine GR.bind GR.ofO fun _ _ => ?_ | split))
  | .s o i, d, f, s => GR.bind (GR.nox (gr_ev o f s)) fun _ _ => GR.bind (GR.nox (gr_ev i f _)) fun _ _ => GR.bind gr_stD fun _ _ => GR.ok
theorem gr_asgs : ∀ (ts : List Tg) (ds : List D) (f : Fr) (s : Sto), GR s (asgs M ts ds f s)
  | [], [], f, s => GR.ok
  | [], _ :: _, f, s => GR.bad
  | _ :: _, [], f, s => GR.bad
  | t :: ts, d :: ds, f, s => GR.bind (gr_asg t d f s) fun _ _ => gr_asgs ts ds _ _
end
mutual
theorem gr_xc : ∀ (c : S) (f : Fr) (s : Sto), GO s (xc M c f s)
  | .asg t e, f, s => GO.ofR (gr_ev G e f s) fun _ _ => GO.ofR (gr_asg G t _ _ _) fun _ _ => Gr.refl
  | .par ts es, f, s => GO.ofR (gr_evs G es f s) fun _ _ => GO.ofR (gr_asgs G ts _ _ _) fun _ _ => Gr.refl
  | .aug o i e, f, s => by
    show GO s (match f[i]? with
      | some (some x) => ofR f (ev M e f s) fun y s => ofR f (augD o x y s) fun z s => .nx (f.set i (some z)) s
      | _ => .bad)
    split
    · exact GO.ofR (gr_ev G e f s) fun _ _ => GO.ofR gr_augD fun _ _ => Gr.refl
    · trivial
  | .augs o a i e, f, s => GO.ofR (gr_ev G a f s) fun _ _ => GO.ofR (gr_ev G i f _) fun _ _ => GO.ofR gr_ixD fun _ _ => GO.ofR (gr_ev G e f _) fun _ _ => GO.ofR gr_augD fun _ _ => GO.ofR gr_stD fun _ _ => Gr.refl
  | .ex e, f, s => GO.ofR (gr_ev G e f s) fun _ _ => Gr.refl
  | .ite c a b, f, s => GO.ofR (gr_tru (gr_ev G c f s)) fun _ _ => GO.cond (gr_xcs a f _) (gr_xcs b f _)
  | .wh c b, f, s => G.wh _ _ f s (fun f s => gr_tru (gr_ev G c f s)) fun f s => gr_xcs b f s
  | .fr t i b, f, s => GO.ofR (gr_evi G i f s) fun _ _ => gr_loopF (fun _ _ _ => GO.ofR (gr_asg G t _ _ _) fun _ _ => gr_xcs b _ _) _ _ _ _
  | .ret e, f, s => GO.ofR (gr_ev G e f s) fun _ _ => Gr.refl
  | .retN, f, s => Gr.refl
  | .rai c es, f, s => GO.ofR (gr_evs G es f s) fun _ _ => Gr.refl
  | .tr b hs, f, s => by
    have h := gr_xcs b f s
    show GO s (match xcs M b f s with
      | .ex e f' s' => xh M hs e f' s'
      | o => o)
    revert h
    cases xcs M b f s with
    | ex e f' s' => exact fun h => (gr_xh hs e f' s').from h
    | nx f' s' => exact fun h => h
    | ct f' s' => exact fun h => h
    | bk f' s' => exact fun h => h
    | rt d s' => exact fun h => h
    | bad => exact fun h => h
  | .pass, f, s => Gr.refl
  | .brk, f, s => Gr.refl
  | .cont, f, s => Gr.refl
  | .no, f, s => trivial
theorem gr_xcs : ∀ (cs : List S) (f : Fr) (s : Sto), GO s (xcs M cs f s)
  | [], f, s => Gr.refl
  | c :: r, f, s => by
    have h := gr_xc c f s
    show GO s (match xc M c f s with
      | .nx f' s' => xcs M r f' s'
      | o => o)
    revert h
    cases xc M c f s with
    | nx f' s' => exact fun h => (gr_xcs r f' s').from h
    | ex e f' s' => exact fun h => h
    | ct f' s' => exact fun h => h
    | bk f' s' => exact fun h => h
    | rt d s' => exact fun h => h
    | bad => exact fun h => h
theorem gr_xh : ∀ (hs : List (Nat × Option Nat × List S)) (e : Er) (f : Fr) (s : Sto), GO s (xh M hs e f s)
  | [], e, f, s => Gr.refl
  | (c, v, b) :: r, e, f, s => by
    show GO s (cond (Nat.beq c e.cls) (match v with
      | none => xcs M b f s
      | some i => match xcs M b (f.set i (some (.ex c))) s with
        | .nx f' s' => .nx (f'.set i none) s'
        | .bk f' s' => .bk (f'.set i none) s'
        | .ct f' s' => .ct (f'.set i none) s'
        | o => o) (xh M r e f s))
    refine GO.cond ?_ (gr_xh r e f s)
    cases v with
    | none => exact gr_xcs b f s
    | some i =>
      have h := gr_xcs b (f.set i (some (.ex c))) s
      revert h
      show GO s (xcs M b (f.set i (some (.ex c))) s) → GO s (match xcs M b (f.set i (some (.ex c))) s with
        | .nx f' s' => .nx (f'.set i none) s'
        | .bk f' s' => .bk (f'.set i none) s'
        | .ct f' s' => .ct (f'.set i none) s'
        | o => o)
      cases xcs M b (f.set i (some (.ex c))) s with
      | nx f' s' => exact fun h => h
      | ex e f' s' => exact fun h => h
      | ct f' s' => exact fun h => h
      | bk f' s' => exact fun h => h
      | rt d s' => exact fun h => h
      | bad => exact fun h => h
end
end
def WGrow (wh : WOp) : Prop := ∀ t b f s, (∀ f s, GR s (t f s)) → (∀ f s, GO s (b f s)) → GO s (wh t b f s)
theorem gr_gc {d : Bool} {s s' : Sto} (h : Gr s s') : Gr s (gc d s s') := by
  unfold gc
  cases (d && fresh s s') with
  | true => exact Gr.refl
  | false => exact h
theorem gr_fin {s : Sto} {o : O} (h : GO s o) : GR s (fin s o) := by
  cases o with
  | nx f s' => exact gr_gc h
  | rt d s' => exact gr_gc h
  | ex e f s' => exact gr_gc h
  | _ => trivial
theorem gr_Phi {T : Tab} {wh : WOp} (hw : WGrow wh) : ∀ (k n : Nat) (ds : List D) (s : Sto), GR s (Phi T wh k n ds s)
  | 0, _, _, _ => trivial
  | k + 1, n, ds, s => by
    show GR s (match T.fn n with
      | none => .bad
      | some c => cond (Nat.beq ds.length c.np) (fin s (xcs ⟨T, Phi T wh k, wh⟩ c.body (ds.map some ++ List.replicate (c.nl - c.np) none) s)) .bad)
    split
    · exact GR.bad
    · exact GR.cond (gr_fin (gr_xcs (M := ⟨T, Phi T wh k, wh⟩) ⟨gr_Phi hw k, hw⟩ _ _ _)) GR.bad
theorem gr_whN : ∀ n : Nat, WGrow (whN n)
  | 0 => fun _ _ _ _ _ _ => trivial
  | n + 1 => fun t b f s ht hb => by
    have h := ht f s
    show GO s (match t f s with
      | .ok true s1 => (match b f s1 with
        | .nx f' s' => whN n t b f' s'
        | .ct f' s' => whN n t b f' s'
        | .bk f' s' => .nx f' s'
        | o => o)
      | .ok false s1 => .nx f s1
      | .ex e s1 => .ex e f s1
      | .bad => .bad)
    revert h
    cases t f s with
    | ok u s1 =>
      cases u with
      | true =>
        intro h
        have h2 := hb f s1
        show GO s (match b f s1 with
          | .nx f' s' => whN n t b f' s'
          | .ct f' s' => whN n t b f' s'
          | .bk f' s' => .nx f' s'
          | o => o)
        revert h2
        cases b f s1 with
        | nx f' s' => exact fun h2 => (gr_whN n t b f' s' ht hb).from (h.trans h2)
        | ct f' s' => exact fun h2 => (gr_whN n t b f' s' ht hb).from (h.trans h2)
        | bk f' s' => exact fun h2 => h.trans h2
        | rt d s' => exact fun h2 => h.trans h2
        | ex e f' s' => exact fun h2 => h.trans h2
        | bad => exact fun h2 => h2
      | false => exact fun h => h
    | ex e s1 => exact fun h => h
    | bad => exact fun h => h
/-- behind what made nothing but new cells, the old ones stand -/
theorem fresh_get {s s' : Sto} (h : Gr s s') (hf : fresh s s' = true) {i : Nat} (hi : i < s.next) : s'.get i = s.get i := by
  obtain ⟨l, e⟩ := h
  unfold fresh at hf
  have e1 : s'.log.length - s.log.length = l.length := by rw [e, List.length_append]; omega
  rw [e1, e, List.take_left] at hf
  show look i s'.log = look i s.log
  rw [e]
  clear e e1
  induction l with
  | nil => rfl
  | cons p r ih =>
    rw [List.all_cons, Bool.and_eq_true] at hf
    obtain ⟨a, c⟩ := p
    show cond (Nat.beq a i) (some c) (look i (r ++ s.log)) = _
    have : Nat.beq a i = false := by
      cases q : Nat.beq a i with
      | false => rfl
      | true =>
        have h1 : s.next ≤ a := Nat.le_of_ble_eq_true hf.1
        have h2 := Nat.eq_of_beq_eq_true q
        omega
    rw [this]
    exact ih hf.2
end TR
set_option autoImplicit false
set_option linter.all false
set_option maxRecDepth 100000
/-! Each def does what the small language's call says. -/
namespace TR
open PySem PySem.Spec PyProof.Rows L2
section
variable {Z : Zn} {W W' : Wd} {H H' H0 : Hp} {s s' : Sto}
mutual
/-- what is told of a value without new cells -/
theorem RD.down (hn : ∀ i, i < W.n → W'.ρ i = W.ρ i) : ∀ (d : D) {v0 v : V}, RD Z W H0 d v0 → RD Z W' H' d v → RD Z W H' d v
  | .non, _, _, _, h => h
  | .bl _, _, _, _, h => h
  | .int _, _, _, _, h => h
  | .str _, _, _, _, h => h
  | .tup ds, _, _, ⟨_, _, _, _, h0⟩, ⟨a, vs, e, q, r⟩ => ⟨a, vs, e, q, RDs.down hn ds h0 r⟩
  | .rol ds, _, _, ⟨_, _, _, _, h0⟩, ⟨a, vs, e, q, r⟩ => ⟨a, vs, e, q, RDs.down hn ds h0 r⟩
  | .ref n, _, _, ⟨h0, _⟩, ⟨_, e⟩ => ⟨h0, by rw [← hn n h0]; exact e⟩
  | .fn _, _, _, _, h => h
  | .gd _, _, _, _, h => h
  | .ex _, _, _, _, h => h
theorem RDs.down (hn : ∀ i, i < W.n → W'.ρ i = W.ρ i) : ∀ (ds : List D) {vs0 vs : List V}, RDs Z W H0 ds vs0 → RDs Z W' H' ds vs → RDs Z W H' ds vs
  | [], _, _, _, h => h
  | d :: ds, _, _, ⟨_, _, _, h1, h2⟩, ⟨v, r, e, g1, g2⟩ => ⟨v, r, e, RD.down hn d h1 g1, RDs.down hn ds h2 g2⟩
end
theorem RFs.down (hn : ∀ i, i < W.n → W'.ρ i = W.ρ i) : ∀ (ds : List (Nat × D)) {vs0 vs : List (Str × V)}, RFs Z W H0 ds vs0 → RFs Z W' H' ds vs → RFs Z W H' ds vs
  | [], _, _, _, h => h
  | (f, d) :: ds, _, _, ⟨_, _, _, h1, h2⟩, ⟨v, r, e, g1, g2⟩ => ⟨v, r, e, RD.down hn d h1 g1, RFs.down hn ds h2 g2⟩
theorem RKs.down (hn : ∀ i, i < W.n → W'.ρ i = W.ρ i) : ∀ (ds : List (D × D)) {vs0 vs : List (Key × V)}, RKs Z W H0 ds vs0 → RKs Z W' H' ds vs → RKs Z W H' ds vs
  | [], _, _, _, h => h
  | (f, d) :: ds, _, _, ⟨_, _, _, _, _, h1, h2⟩, ⟨q, v, r, e, g0, g1, g2⟩ => ⟨q, v, r, e, g0, RD.down hn d h1 g1, RKs.down hn ds h2 g2⟩
mutual
theorem RD.pure : ∀ (d : D) {v : V}, pure1 d = true → RD Z W' H' d v → RD Z W H' d v
  | .non, _, _, h => h
  | .bl _, _, _, h => h
  | .int _, _, _, h => h
  | .str _, _, _, h => h
  | .tup ds, _, p, ⟨a, vs, e, q, r⟩ => ⟨a, vs, e, q, RDs.pure ds (by simpa [pure1] using p) r⟩
  | .rol ds, _, p, ⟨a, vs, e, q, r⟩ => ⟨a, vs, e, q, RDs.pure ds (by simpa [pure1] using p) r⟩
  | .ref n, _, p, _ => by simp [pure1] at p
  | .fn _, _, _, h => h
  | .gd _, _, _, h => h
  | .ex _, _, _, h => h
theorem RDs.pure : ∀ (ds : List D) {vs : List V}, pureL ds = true → RDs Z W' H' ds vs → RDs Z W H' ds vs
  | [], _, _, h => h
  | d :: ds, _, p, ⟨v, r, e, g1, g2⟩ => by
    have p : (pure1 d && pureL ds) = true := by simpa [pureL] using p
    rw [Bool.and_eq_true] at p
    exact ⟨v, r, e, RD.pure d p.1 g1, RDs.pure ds p.2 g2⟩
end
/-- the old store, where only new cells came -/
theorem RS.back (r0 : RS Z W s H) (x : Ex W H W' H') (r : RS Z W' s' H') (g : Gr s s') (hf : fresh s s' = true) : Ex W H W H' ∧ RS Z W s H' := by
  refine ⟨⟨Nat.le_refl _, fun _ _ => rfl, fun i h1 h2 => absurd h2 (Nat.not_lt.mpr h1), x.kp, x.th⟩, r0.n, r0.inj, fun i hi => ?_, r0.lt⟩
  obtain ⟨c, e, h⟩ := r0.has i hi
  have e' : s'.get i = some c := by rw [fresh_get g hf (by rw [← r0.n]; exact hi)]; exact e
  have h' := r.cell e'
  rw [x.ρ i hi] at h'
  refine ⟨c, e, ?_⟩
  cases c with
  | lst xs =>
    obtain ⟨vs0, q0, p0⟩ := h
    obtain ⟨vs, q, p⟩ := h'
    exact ⟨vs, q, RDs.down x.ρ xs p0 p⟩
  | dct kvs =>
    obtain ⟨vs0, q0, p0⟩ := h
    obtain ⟨vs, q, p⟩ := h'
    exact ⟨vs, q, RKs.down x.ρ kvs p0 p⟩
  | ins c fs =>
    obtain ⟨_, vs0, q0, p0⟩ := h
    obtain ⟨dx, vs, q, p⟩ := h'
    exact ⟨dx, vs, q, RFs.down x.ρ fs p0 p⟩
theorem gc_back {d : Bool} (r0 : RS Z W s H) (x : Ex W H W' H') (r : RS Z W' s' H') (g : Gr s s') : (gc d s s' = s' ∧ True) ∨ (d = true ∧ gc d s s' = s ∧ Ex W H W H' ∧ RS Z W s H') := by
  unfold gc
  cases d with
  | false => exact .inl ⟨rfl, trivial⟩
  | true =>
    cases hf : fresh s s' with
    | false => exact .inl ⟨rfl, trivial⟩
    | true => exact .inr ⟨rfl, rfl, RS.back r0 x r g hf⟩
/-- a def's body run to its end -/
theorem PoS.fin {E : XK} {Q : VK} {o : O} (r0 : RS Z W s H) (g : GO s o) (h : Po Z E W H (fin s o) (RD Z) Q) : PoS Z (fun cls d _ H => E cls d H) W H o { nx := fun _ H' => Q .non H', rt := Q } := by
  cases o with
  | nx f s' =>
    intro W' H' σ' x r _
    replace h : Po Z E W H (.ok D.non (gc true s s')) (RD Z) Q := h
    rcases gc_back (d := true) r0 x r g with ⟨e, _⟩ | ⟨_, e, x2, r2⟩
    · rw [e] at h
      exact Po.ok' (rel := RD Z) (b := V.non) h x r rfl
    · rw [e] at h
      exact Po.ok' (rel := RD Z) (b := V.non) h x2 r2 rfl
  | rt d s' =>
    intro W' H' v x r q
    replace h : Po Z E W H (.ok d (gc (pure1 d) s s')) (RD Z) Q := h
    rcases gc_back (d := pure1 d) r0 x r g with ⟨e, _⟩ | ⟨p, e, x2, r2⟩
    · rw [e] at h
      exact Po.ok' h x r q
    · rw [e] at h
      exact Po.ok' h x2 r2 (RD.pure d p q)
  | ex e f s' =>
    intro W' H' σ' cls dd x r _ er
    replace h : Po Z E W H (.ex e (gc (pureL e.args) s s') : TR.R D) (RD Z) Q := h
    rcases gc_back (d := pureL e.args) r0 x r g with ⟨e1, _⟩ | ⟨p, e1, x2, r2⟩
    · rw [e1] at h
      exact h W' H' cls dd x r er
    · rw [e1] at h
      exact h W H' cls dd x2 r2 er
  | bk f s' => exact h.elim
  | ct f s' => exact h.elim
  | bad => exact h.elim
theorem RF.start {N : List Str} {ds : List D} {vs : List V} {nl np : Nat} (r : RDs Z W H ds vs) (hl : nl = N.length) (hp : ds.length = np) (hle : np ≤ nl) : RF Z W H (ds.map some ++ List.replicate (nl - np) none) (L2.start N vs) := by
  have el := r.length
  refine ⟨?_, fun i d e => ?_⟩
  · unfold L2.start
    simp only [List.length_append, List.length_map, List.length_replicate]
    omega
  · by_cases hi : i < ds.length
    · rw [List.getElem?_append_left (by simpa using hi), List.getElem?_map] at e
      cases hd : ds[i]? with
      | none => rw [hd] at e; cases e
      | some d' =>
        rw [hd] at e
        cases e
        obtain ⟨v, e1, q⟩ := r.get hd
        refine ⟨v, ?_, q⟩
        unfold L2.start
        rw [List.getElem?_append_left (by simp; omega), List.getElem?_map, e1]
        rfl
    · rw [List.getElem?_append_right (by simpa using hi), List.getElem?_replicate] at e
      split at e <;> cases e
end
/-- what the module's names stand for -/
structure Mo (Z : Zn) (T : Tab) (gl : List (Str × Gv)) (P : Program) (w : World) (mg : Str → Option Value) : Prop where
  fn : ∀ x f, gl.lookup x = some (.fn f) → mg x = some (.ref (Z.fa f)) ∧ Z.pr f
  con : ∀ x n, gl.lookup x = some (.con n) → ∃ u v, mg x = some u ∧ RelV v u ∧ ∀ W H, RD Z W H (T.con n) v
  gd : ∀ x n, gl.lookup x = some (.gd n) → mg x = some (.ref (Z.ga n))
  gdo : ∀ n, T.gdc n ≠ [] → ∀ h, Z.K.In h → ∃ vs, h.DictOf (mixKind P w) (Z.ga n) vs ∧ GdRel Z (T.gdc n) vs
  blt : ∀ x, x ∈ bltNames → mg x = none
  exc : ∀ x n, gl.lookup x = some (.exc n) → mg x = some (.ref (Z.ca n)) ∧ ExcF Z.K (Z.ca n) ∧ Z.xc n
  xcc : ∀ n, Z.xc n → ExcC Z.K (Z.ca n) ∧ PySem.W.kitOne Z.K (.ref (Z.ca n)) (.type "ValueError") = some (T.ve n)
  xcm : ∀ m n, Z.xc m → Z.xc n → PySem.W.exmOne Z.K (.ref (Z.ca m)) (.ref (Z.ca n)) = some (Nat.beq n m)
  gds : ∀ n, T.gdc n ≠ [] → (Z.ga n == sysModules) = false
/-- a def of the text and its term -/
def FnT.cc (t : FnT) (gl : List (Str × Gv)) (kw : Nat → List (Nat × List Str × List Nat)) : Cc := ⟨t.N, t.scope, gl, fun _ => true, kw, true⟩
def chkFn (gl : List (Str × Gv)) (kw : Nat → List (Nat × List Str × List Nat)) (t : FnT) : Bool := kSs (chkS (chkE 40) 40) (t.cc gl kw) t.body t.c.body && decide (t.c.np = t.ps.length) && decide (t.c.nl = t.N.length) && decide (t.ps.length ≤ t.N.length)
structure Defs (Z : Zn) (T : Tab) (gl : List (Str × Gv)) (pso : Nat → List Str) (fdo : Nat → FuncData) : Prop where
  of : ∀ f, Z.pr f → ∃ (t : FnT), T.fn f = some t.c ∧ t.ps = pso f ∧ FunD Z.K t.name t.qual t.params t.body t.scope [] [] (Z.fa f) (fdo f) ∧ FnScope t.N t.ps t.scope ∧ chkFn gl Z.kws t = true ∧ Binds Z.K (fdo f) t.ps [] ∧ (∀ q ∈ Z.kws f, KBnd Z.K (fdo f) t.ps q) ∧ ∀ (s : Shared) (us : List Value), us.length = t.ps.length → BindsTo s (fdo f) ⟨us, []⟩ (t.ps.zip us)
section
variable {Z : Zn} {T : Tab} {gl : List (Str × Gv)} {P : Program} {w : World} {mg : Str → Option Value} {base : Heap} {wh : WOp} {pso : Nat → List Str} {fdo : Nat → FuncData}
theorem fn_main (mo : Mo Z T gl P w mg) (df : Defs Z T gl pso fdo) (hw : WSound wh) (hg : WGrow wh) : ∀ (n f : Nat), Z.pr f →
    FnOk P w Z.K mg base (CX P w) n (Z.fa f) (fdo f) (pso f) (spF Z (Phi T wh n) f) ∧ PySem.W.keepIn Z.K (.ref (Z.fa f)) = true ∧ Binds Z.K (fdo f) (pso f) [] ∧ ∀ q ∈ Z.kws f, KBnd Z.K (fdo f) (pso f) q
  | 0, f, hf => by
    obtain ⟨t, h1, ep, F, h3, h4, h5, h6, _⟩ := df.of f hf
    rw [← ep]
    refine ⟨⟨fun vs H Q E ⟨W, s, ds, _, _, po⟩ => po.elim, fun A outer s H args us vs Q E _ _ _ _ ⟨W, s0, ds, _, _, po⟩ => po.elim⟩, F.kp, h5, h6⟩
  | n + 1, f, hf => by
    obtain ⟨t, h1, ep, F, h3, h4, h5, h6, _⟩ := df.of f hf
    rw [← ep]
    unfold chkFn at h4
    simp only [Bool.and_eq_true, decide_eq_true_eq] at h4
    obtain ⟨⟨⟨k1, k2⟩, k3⟩, k4⟩ := h4
    have unf : ∀ (ds : List D) (s : Sto), Phi T wh (n + 1) f ds s = cond (Nat.beq ds.length t.c.np) (fin s (xcs ⟨T, Phi T wh n, wh⟩ t.c.body (ds.map some ++ List.replicate (t.c.nl - t.c.np) none) s)) TR.R.bad := by
      intro ds s
      show (match T.fn f with
        | none => TR.R.bad
        | some c => cond (Nat.beq ds.length c.np) (fin s (xcs ⟨T, Phi T wh n, wh⟩ c.body (ds.map some ++ List.replicate (c.nl - c.np) none) s)) TR.R.bad) = _
      rw [h1]
    refine ⟨F.ok h3 (fun vs H Q E ⟨W, s, ds, rs, rd, po⟩ => ?_) (fun cdv A outer s0 H vs Q E hr ⟨W, s, ds, rs, rd, po⟩ => ?_), F.kp, h5, h6⟩
    · rw [unf] at po
      cases hb : Nat.beq ds.length t.c.np with
      | false => rw [hb] at po; exact po.elim
      | true => rw [rd.length, Nat.eq_of_beq_eq_true hb, k2]
    · rw [unf] at po
      cases hb : Nat.beq ds.length t.c.np with
      | false => rw [hb] at po; exact po.elim
      | true =>
        rw [hb] at po
        have hb := Nat.eq_of_beq_eq_true hb
        have gm : GM ⟨T, Phi T wh n, wh⟩ := ⟨gr_Phi hg n, hg⟩
        have S : Sp' Z ⟨T, Phi T wh n, wh⟩ (t.cc gl Z.kws) (cxOf (CX P w) P w Z.K mg base t.N t.qual t.scope (Z.fa f) cdv A outer s0 H E) (fun cls d _ H => E cls d H) := by
          refine ⟨⟨⟨rfl, rfl, ?_, hr.hd, h3.nd, mo.fn, fun g hgp => ?_, mo.con, mo.gd, mo.gdo, mo.blt, mo.exc, mo.xcc, mo.xcm, mo.gds⟩, rfl, rfl, takes_of rfl rfl rfl rfl, fun _ _ => rfl, rfl, fun _ => ⟨rfl, rfl⟩⟩, passes_of rfl, rfl, rfl⟩
          · have := hr.un
            show (A.deeper (envOfC t.qual t.scope s0.heap.objs.size (Z.fa f) cdv)).units + 64 < cLine
            omega
          · obtain ⟨i1, i2, i3, i4⟩ := fn_main mo df hw hg n g hgp
            exact ⟨n, fdo g, pso g, i1, hr, i2, i3, i4⟩
        refine ⟨tS Z ⟨T, Phi T wh n, wh⟩ (fun cls d _ H => E cls d H) t.c.body, kSs_ok (chkS_ok hw (chkE_ok 40) 40) S k1, W, s, _, rs, RF.start rd k3 hb (by omega), ?_⟩
        exact PoS.fin rs (gr_xcs gm _ _ _) po
end
end TR
set_option autoImplicit false
set_option linter.all false
set_option maxRecDepth 100000
/-! The head's facts, the law's end. -/
namespace TR
open PySem PySem.Spec PyProof.Rows L2
mutual
theorem relD_ok {Z : Zn} : ∀ {d : D} {u : Value}, relD Z.K d u = true → ∃ v, RelV v u ∧ ∀ W H, RD Z W H d v
  | .non, .none, _ => ⟨.non, rfl, fun _ _ => rfl⟩
  | .bl a, .bool b, h => by
    have h : (a == b) = true := by simpa [relD] using h
    exact ⟨.bl b, rfl, fun _ _ => by rw [eq_of_beq h]; rfl⟩
  | .int a, .int b t, h => by
    have h : a = b := by simpa [relD] using h
    exact ⟨.int b, ⟨t, rfl⟩, fun _ _ => by rw [h]; rfl⟩
  | .str a, .str b t, h => by
    have h : a = b := by simpa [relD] using h
    exact ⟨.str b, ⟨t, rfl⟩, fun _ _ => by rw [h]; rfl⟩
  | .tup ds, .ref a, h => by
    unfold relD at h
    split at h
    · rename_i c od its n sl hl
      simp only [Bool.and_eq_true, decide_eq_true_eq] at h
      obtain ⟨⟨h1, h2⟩, h3⟩ := h
      obtain ⟨vs, r, q⟩ := relDs_ok h3
      exact ⟨.ref a, rfl, fun W H => ⟨a, vs, rfl, .inr ⟨_, its, n, hl, congrArg Value.type h1, rfl, h2, r⟩, q W H⟩⟩
    · cases h
  | .rol _, u, h => by cases u <;> simp [relD] at h
  | .ref _, u, h => by cases u <;> simp [relD] at h
  | .fn _, u, h => by cases u <;> simp [relD] at h
  | .gd _, u, h => by cases u <;> simp [relD] at h
  | .ex _, u, h => by cases u <;> simp [relD] at h
theorem relDs_ok {Z : Zn} : ∀ {ds : List D} {us : List Value}, relDs Z.K ds us = true → ∃ vs, Vals vs us ∧ ∀ W H, RDs Z W H ds vs
  | [], [], _ => ⟨[], .nil, fun _ _ => rfl⟩
  | d :: ds, u :: us, h => by
    have h : (relD Z.K d u && relDs Z.K ds us) = true := by simpa [relDs] using h
    rw [Bool.and_eq_true] at h
    obtain ⟨v, r1, q1⟩ := relD_ok h.1
    obtain ⟨vs, r2, q2⟩ := relDs_ok h.2
    exact ⟨v :: vs, .cons r1 r2, fun W H => ⟨v, vs, rfl, q1 W H, q2 W H⟩⟩
  | [], _ :: _, h => by simp [relDs] at h
  | _ :: _, [], h => by simp [relDs] at h
end
theorem gdEs_ok {Z : Zn} {P : Program} {w : World} : ∀ {kvs : List (D × D)} {es : List DictEntry}, gdEs Z.K kvs es = true → ∃ vs, (∀ e ∈ es, ∃ k, (mixKind P w).is k e.key = true ∧ e.hash = (mixKind P w).hash k) ∧ Pairs (mixKind P w) es vs ∧ GdRel Z kvs vs ∧ kvs.map (fun q => keyV q.1) = vs.map fun q => some q.1
  | [], [], _ => ⟨[], (fun _ h => nomatch h), .nil, rfl, rfl⟩
  | (k, d) :: r, e :: es, h => by
    have h : (entB Z.K k d e && gdEs Z.K r es) = true := by simpa [gdEs] using h
    rw [Bool.and_eq_true] at h
    obtain ⟨vs, a1, a2, a3, a4⟩ := gdEs_ok (P := P) (w := w) h.2
    have h1 := h.1
    unfold entB at h1
    rw [Bool.and_eq_true] at h1
    obtain ⟨v, rv, q⟩ := relD_ok (Z := Z) h1.2
    obtain ⟨eh, ek, ev⟩ := e
    cases k with
    | int i =>
      cases ek with
      | int j t =>
        have h2 : (i == j && eh == hashInt i) = true := h1.1
        rw [Bool.and_eq_true] at h2
        obtain rfl : i = j := eq_of_beq h2.1
        obtain rfl : eh = hashInt i := eq_of_beq h2.2
        refine ⟨(.inl i, ev) :: vs, fun e he => ?_, .cons (keyIs_int i t) rfl a2, ⟨.inl i, ev, vs, rfl, rfl, ⟨v, rv, q⟩, a3⟩, ?_⟩
        · rcases List.mem_cons.mp he with rfl | he
          · exact ⟨.inl i, keyIs_int i t, rfl⟩
          · exact a1 e he
        · rw [List.map_cons, List.map_cons, a4]; rfl
      | _ => cases h1.1
    | _ => cases h1.1
  | [], _ :: _, h => by simp [gdEs] at h
  | (_, _) :: _, [], h => by simp [gdEs] at h
theorem gdB_ok {Z : Zn} {P : Program} {w : World} {a : Addr} {kvs : List (D × D)} (h : gdB Z.K a kvs = true) : (a == sysModules) = false ∧ ∀ hp : Heap, Z.K.In hp → ∃ vs, hp.DictOf (mixKind P w) a vs ∧ GdRel Z kvs vs := by
  unfold gdB at h
  split at h
  · rename_i c es n sl hl
    simp only [Bool.and_eq_true, decide_eq_true_eq] at h
    obtain ⟨⟨⟨⟨h1, h2⟩, h3⟩, h4⟩, h5⟩ := h
    subst h1
    obtain rfl : sl = #[] := Array.isEmpty_iff.mp h2
    refine ⟨by simpa using h3, fun hp KX => ?_⟩
    obtain ⟨vs, a1, a2, a3, a4⟩ := gdEs_ok (P := P) (w := w) h4
    refine ⟨vs, ⟨_, es, n, KX _ _ hl, ⟨rfl, rfl, rfl⟩, rfl, fun e he => a1 e (Array.mem_toList_iff.mpr he), a2, ?_⟩, a3⟩
    rw [a4] at h5
    rw [show vs.map (fun q => some q.1) = (vs.map (·.1)).map some by rw [List.map_map]; rfl] at h5
    exact (List.pairwise_map.mp h5).imp fun h e => h (congrArg some e)
  · cases h
def Ln.Z (l : Ln) (K : PySem.W.Frag) : Zn := ⟨K, fun f => He.ga K (l.nm f), fun n => He.ga K (l.gn n), fun n => He.ga K (l.cn n), fun _ => Str.empty, fun _ _ => False, l.kws, fun f => (l.L.lookup f).isSome = true, fun n => n ∈ l.xcs⟩
theorem excB_ok {K : PySem.W.Frag} {a : Addr} (h : excB K a = true) : ExcF K a := by
  unfold excB at h
  simp only [Bool.and_eq_true, decide_eq_true_eq] at h
  exact ⟨_, _, _, _, PySem.F.excBase_ValueError, h.1.1.1, h.1.1.2, h.1.2, h.2⟩
theorem excCB_ok {K : PySem.W.Frag} {a : Addr} (h : excCB K a = true) : ExcC K a := by
  unfold excCB at h
  simp only [Bool.and_eq_true, decide_eq_true_eq] at h
  obtain ⟨⟨⟨⟨⟨⟨⟨h1, h2⟩, h3⟩, h4⟩, h5⟩, h6⟩, h7⟩, h8⟩ := h
  exact ⟨He.eqO_ok h1, He.eqO_ok h2, h3, h4, He.eqO_ok h5, He.eqO_ok h6, h7, h8⟩
theorem lookup_mem {α : Type} {x : Str} {l : List (Str × α)} {g : α} (h : l.lookup x = some g) : (x, g) ∈ l := PySem.mem_of_lookup h
theorem Ln.mo (l : Ln) {K : PySem.W.Frag} {h : Heap} {mg : Str → Option Value} {P : Program} {w : World} (KX : K.In h) (G : h.Ns mainGlobals mg) (a : l.ask K = true) (hg : ∀ n, l.T.gdc n ≠ [] → ∃ x, l.gl.lookup x = some (.gd n)) : Mo (l.Z K) l.T l.gl P w mg := by
  unfold Ln.ask at a
  simp only [Bool.and_eq_true] at a
  obtain ⟨⟨a1, a2⟩, a3⟩ := a
  have one : ∀ {x : Str} {g : Gv}, l.gl.lookup x = some g → (match g with
    | .fn f => gloB K x (He.ga K (l.nm f)) && (l.L.lookup f).isSome
    | .con n => (match PySem.W.nsIn K mainGlobals x with
      | some (some u) => relD K (l.T.con n) u
      | _ => false)
    | .gd n => gloB K x (He.ga K (l.gn n)) && gdB K (He.ga K (l.gn n)) (l.T.gdc n)
    | .exc n => gloB K x (He.ga K (l.cn n)) && excB K (He.ga K (l.cn n)) && l.xcs.contains n
    | .cls _ => false) = true := fun hl => List.all_eq_true.mp a1 _ (lookup_mem hl)
  have glo : ∀ {x : Str} {b : Addr}, gloB K x b = true → mg x = some (.ref b) := fun hh => PySem.W.mg_of KX G (He.eqO_ok hh)
  have xc : ∀ {n : Nat}, n ∈ l.xcs → (excCB K (He.ga K (l.cn n)) && decide (PySem.W.kitOne K (.ref (He.ga K (l.cn n))) (.type "ValueError") = some (l.T.ve n)) && l.xcs.all fun m => decide (PySem.W.exmOne K (.ref (He.ga K (l.cn m))) (.ref (He.ga K (l.cn n))) = some (Nat.beq n m))) = true := fun hm => List.all_eq_true.mp a3 _ hm
  refine ⟨fun x f hl => ?_, fun x n hl => ?_, fun x n hl => glo (He.ba (one hl)).1, fun n hn h KX => ?_, fun x hx => ?_, fun x n hl => ?_, fun n hn => ?_, fun m n hm hn => ?_, fun n hn => ?_⟩
  · obtain ⟨h1, h2⟩ := He.ba (one hl)
    exact ⟨glo h1, h2⟩
  · have h1 := one hl
    cases e : PySem.W.nsIn K mainGlobals x with
    | none => simp only [e] at h1; cases h1
    | some o =>
      cases o with
      | none => simp only [e] at h1; cases h1
      | some u =>
        simp only [e] at h1
        obtain ⟨v, r, q⟩ := relD_ok (Z := l.Z K) h1
        exact ⟨u, v, PySem.W.mg_of KX G e, r, q⟩
  · obtain ⟨x, hl⟩ := hg n hn
    exact (gdB_ok (Z := l.Z K) (He.ba (one hl)).2).2 h KX
  · exact PySem.W.mg_none_of KX G (He.eqO_ok (List.all_eq_true.mp a2 x hx))
  · obtain ⟨h1, h2⟩ := He.ba (one hl)
    obtain ⟨h3, h4⟩ := He.ba h1
    exact ⟨glo h3, excB_ok h4, List.contains_iff_mem.mp h2⟩
  · obtain ⟨h1, _⟩ := He.ba (xc hn)
    obtain ⟨h3, h4⟩ := He.ba h1
    exact ⟨excCB_ok h3, of_decide_eq_true h4⟩
  · obtain ⟨_, h2⟩ := He.ba (xc hn)
    exact of_decide_eq_true (List.all_eq_true.mp h2 m hm)
  · obtain ⟨x, hl⟩ := hg n hn
    exact (gdB_ok (Z := l.Z K) (P := P) (w := w) (He.ba (one hl)).2).1
/-! ### the defs -/
def scopeB (t : FnT) : Bool := (match t.scope.kind with
    | .function => true
    | _ => false) && !t.scope.isCoroutine && !t.scope.isGenerator && decide t.N.Nodup && decide (t.N.take t.ps.length = t.ps) &&
  (t.ps.all fun x => match t.scope.names.lookup x with
    | some .local => true
    | some .cell => true
    | _ => false) && t.scope.names.all fun y => match y.2 with
    | .free => false
    | _ => true
theorem scopeB_ok {t : FnT} (h : scopeB t = true) : FnScope t.N t.ps t.scope := by
  unfold scopeB at h
  simp only [Bool.and_eq_true, decide_eq_true_eq, Bool.not_eq_true', List.all_eq_true] at h
  obtain ⟨⟨⟨⟨⟨⟨h1, h2⟩, h3⟩, h4⟩, h5⟩, h6⟩, h7⟩ := h
  refine ⟨?_, h2, h3, h4, h5, fun x hx => ?_, fun y hy e => ?_⟩
  · split at h1
    · assumption
    · cases h1
  · have := h6 x hx
    split at this
    · exact .inl ‹_›
    · exact .inr ‹_›
    · cases this
  · have := h7 y hy
    rw [e] at this
    cases this
/-- how arguments are bound -/
def BindP (t : FnT) : Prop := ∀ (kV doc pm : Value) (an : Option Addr) (cdv ct : Value) (us : List Value), us.length = t.ps.length → bindArgs (PySem.W.fnOf t.name t.qual t.params t.body t.scope .none kV doc pm an cdv ct) ⟨us, []⟩ = pure (t.ps.zip us)
def BindK (t : FnT) (q : Nat × List Str × List Nat) : Prop := ∀ (kV doc pm : Value) (an : Option Addr) (cdv ct : Value) (us ws : List Value), us.length = q.1 → ws.length = q.2.1.length →
  bindArgs (PySem.W.fnOf t.name t.qual t.params t.body t.scope .none kV doc pm an cdv ct) ⟨us, q.2.1.zip ws⟩ = pure (t.ps.zip (permU .none (us ++ ws) q.2.2))
structure Ln.Ok (l : Ln) : Prop where
  fn : ∀ p ∈ l.L, l.T.fn p.1 = some p.2.c ∧ scopeB p.2 = true ∧ chkFn l.gl l.kws p.2 = true
  bd : ∀ p ∈ l.L, BindP p.2
  bk : ∀ p ∈ l.L, ∀ q ∈ l.kws p.1, BindK p.2 q
theorem mem_lookupN {α : Type} : ∀ {l : List (Nat × α)} {k : Nat} {v : α}, l.lookup k = some v → (k, v) ∈ l
  | (j, w) :: r, k, v, h => by
    unfold List.lookup at h
    split at h
    · rename_i e
      have : k = j := eq_of_beq e
      cases h
      rw [this]
      exact List.mem_cons_self
    · exact List.mem_cons_of_mem _ (mem_lookupN h)
theorem mem_get {α : Type} {l : List α} {a : α} (h : a ∈ l) : ∃ i : Nat, l[i]? = some a := List.getElem?_of_mem h
def Ln.pso (l : Ln) (f : Nat) : List Str := match l.L.lookup f with
  | some t => t.ps
  | none => []
theorem Ln.defs (l : Ln) {K : PySem.W.Frag} (ok : l.Ok) (c : He.SaysD [] l.fn K) : ∃ fdo, Defs (l.Z K) l.T l.gl l.pso fdo := by
  have one : ∀ f, ∃ fd, (l.L.lookup f).isSome = true → ∃ (t : FnT), l.T.fn f = some t.c ∧ t.ps = l.pso f ∧ FunD K t.name t.qual t.params t.body t.scope [] [] (He.ga K (l.nm f)) fd ∧ FnScope t.N t.ps t.scope ∧ chkFn l.gl l.kws t = true ∧ Binds K fd t.ps [] ∧ (∀ q ∈ l.kws f, KBnd K fd t.ps q) ∧ ∀ (s : Shared) (us : List Value), us.length = t.ps.length → BindsTo s fd ⟨us, []⟩ (t.ps.zip us) := by
    intro f
    cases hs : l.L.lookup f with
    | none => exact ⟨default, fun h => nomatch h⟩
    | some t =>
      have ht := hs
      have hm : (f, t) ∈ l.L := mem_lookupN ht
      obtain ⟨h1, h2, h3⟩ := ok.fn _ hm
      obtain ⟨i, hi⟩ := mem_get hm
      obtain ⟨fd, F⟩ := c.def_ i (d := t.dd) (by unfold Ln.fn; rw [List.getElem?_map, hi]; rfl)
      have en : l.nm f = t.name := by
        unfold Ln.nm
        rw [ht]
      have F : FunD K t.name t.qual t.params t.body t.scope [] [] (He.ga K (l.nm f)) fd := by
        rw [en]
        exact F
      have ep : t.ps = l.pso f := by
        unfold Ln.pso
        rw [ht]
      refine ⟨fd, fun _ => ⟨t, h1, ep, F, scopeB_ok h2, h3, F.bindsN (ok.bd _ hm), fun q hq s us ws _ hu hw => ?_, fun s us hl => F.bindsA (ok.bd _ hm) s us hl⟩⟩
      obtain ⟨oc, od, dV, kV, doc, pm, an, cdv, ct, osl, rfl, lk, hcd, hD, hK⟩ := F.ex
      rcases hD with ⟨_, rfl⟩ | ⟨e, _⟩
      · exact .of_eq (ok.bk _ hm q hq kV doc pm an cdv ct us ws hu hw)
      · exact absurd rfl e
  obtain ⟨fdo, h⟩ := Classical.axiomOfChoice one
  exact ⟨fdo, ⟨fun f hf => h f hf⟩⟩
/-! ### the end -/
theorem whN_sound (n : Nat) : WSound (whN n) := fun t b f s => .inr ⟨n, rfl⟩
/-- the script, as the law gets it -/
def scr (ns : List Int) : D := .rol (ns.map D.int)
theorem rds_ints {Z : Zn} {W : Wd} {H : Hp} : ∀ ns : List Int, RDs Z W H (ns.map D.int) (ns.map V.int)
  | [] => rfl
  | n :: ns => ⟨_, _, rfl, rfl, rds_ints ns⟩
theorem sqR_of {K : PySem.W.Frag} {H : Hp} {a : Addr} {xs : List V} (o : Only H) (h : SqL K H a xs) : SqR K H a xs := by
  rcases h with (h | h) | h
  · rcases o a with e | ⟨ob, ys, e⟩
    · rw [e] at h; cases h
    · rw [e] at h; cases h
  · exact .inl h
  · exact .inr h
theorem cx_no {P : Program} {w : World} (H : Hp) (s : Shared) (e : Value) (s' : Shared) (h : CX P w [] H s (fun _ _ _ => False) e s') : False := by
  obtain ⟨_, _, _, _, _, _, _, _, _, _, _, _, q⟩ := h
  exact q
/-- whatever the world -/
def CXw (P : Program) : CXT := fun outer H s E u s' => ∃ w, CX P w outer H s E u s'
theorem fn_cx {P : Program} {w : World} {K : PySem.W.Frag} {mg : Str → Option Value} {base : Heap} {k : Nat} {f : Addr} {fd : FuncData} {ps : List Str} {sp : Sp} (F : FnOk P w K mg base (CX P w) k f fd ps sp) : FnOk P w K mg base (CXw P) k f fd ps sp := by
  refine ⟨F.len, fun A outer s H args us vs Q E hr e0 hb r h => codeAny_mono (F.run A outer s H args us vs Q E hr e0 hb r h) fun r s' q => ?_⟩
  cases r with
  | error e => exact ⟨w, q⟩
  | ok fl => cases fl <;> exact q
/-- the law's walk: the small language's call at each script is true -/
theorem Ln.walk (l : Ln) {lw : PySem.W.OpenLaw} {n : Nat} {q : Program} {loose : List Str} {d : DefRec} {k f : Nat} (hn : lw.most = some n) (hn2 : n ≤ sizeLine) (hdf : d.params.defaults = []) (hr : Room k callerA) (hdn : d.name = l.nm f) (hg : ∀ n, l.T.gdc n ≠ [] → ∃ x, l.gl.lookup x = some (.gd n)) (ok : l.Ok) {x : Str} (hps : l.pso f = [x]) (hgl : l.gl.lookup (l.nm f) = some (.fn f))
    (hlaw : ∀ ns : List Int, ns.length ≤ n → ∃ m s, Phi l.T (whN m) k f [scr ns] ⟨0, []⟩ = .ok (.bl true) s) {XP : (Str → Option Value) → Heap → Prop} :
    PySem.W.WalkO q loose XP (fun _ h => ∃ K : PySem.W.Frag, K.In h ∧ He.SaysD [] l.fn K ∧ l.ask K = true) lw.row.toRowW d [] (fun f vs => PySem.call f vs) := by
  refine walk_ofE (l := lw) (n := n) (k := k) (x := x) (CX := CXw lw.prog) hn hn2 hdf hr ?_ fun H s e s' ⟨w, h⟩ => cx_no H s e s' h
  rintro w mg fa h ⟨K, KX, c, a⟩ G hm
  obtain ⟨fdo, df⟩ := l.defs ok c
  have mo := l.mo (P := lw.prog) (w := w) KX G a hg
  obtain ⟨g1, hpr⟩ := mo.fn _ _ hgl
  rw [hdn] at hm
  have efa : He.ga K (l.nm f) = fa := by
    have e : some (Value.ref (He.ga K (l.nm f))) = some (.ref fa) := g1.symm.trans hm
    exact Value.ref.inj (Option.some.inj e)
  have main := fun (m : Nat) (base : Heap) => fn_main (base := base) mo df (whN_sound m) (gr_whN m) k f hpr
  refine ⟨K, fdo f, fun vs H Q E => ∃ m, spF (l.Z K) (Phi l.T (whN m) k) f vs H Q E, KX, fun s u => ?_, fun H b ns hl hO hS => ?_, fun base _ _ => ?_⟩
  · obtain ⟨t, _, ep, _, _, _, _, _, hb⟩ := df.of f hpr
    have e : t.ps = [x] := ep.trans hps
    have := hb s [u] (by rw [e]; rfl)
    rw [e] at this
    exact this
  · obtain ⟨m, s, hp⟩ := hlaw ns hl
    refine ⟨m, ⟨0, fun _ => 0⟩, ⟨0, []⟩, [scr ns], ⟨rfl, fun i j hi _ _ => absurd hi (Nat.not_lt_zero _), fun i hi => absurd hi (Nat.not_lt_zero _), fun i c e => nomatch e⟩, ⟨.ref b, [], rfl, ⟨b, _, rfl, sqR_of hO hS, rds_ints ns⟩, rfl⟩, ?_⟩
    rw [hp]
    exact fun W' H' v _ _ r => r
  · have F0 := fn_cx (main 0 base).1
    rw [hps] at F0
    refine ⟨fun vs H Q E ⟨m, hm⟩ => ?_, fun A outer s H args us vs Q E hr e0 hb r ⟨m, hm⟩ => ?_⟩
    · have F := fn_cx (main m base).1
      rw [hps] at F
      exact F.len vs H Q E hm
    · have F := fn_cx (main m base).1
      rw [hps, show (l.Z K).fa f = fa from efa] at F
      exact F.run A outer s H args us vs Q E hr e0 hb r hm
end TR
set_option autoImplicit false
set_option linter.all false
set_option maxRecDepth 100000
/-! What runs in one store runs in each store that holds more: addresses shifted. -/
namespace TR
open PySem (Str PyData)
structure Sf where
  n : Nat
  old : List (Nat × Cell)
  ho : ∀ e ∈ old, e.1 < n
mutual
def shD (n : Nat) : D → D
  | .tup ds => .tup (shL n ds)
  | .rol ds => .rol (shL n ds)
  | .ref a => .ref (a + n)
  | .non => .non
  | .bl b => .bl b
  | .int i => .int i
  | .str x => .str x
  | .fn f => .fn f
  | .gd k => .gd k
  | .ex c => .ex c
def shL (n : Nat) : List D → List D
  | [] => []
  | d :: ds => shD n d :: shL n ds
end
def shK (n : Nat) (p : D × D) : D × D := (shD n p.1, shD n p.2)
def shC (n : Nat) : Cell → Cell
  | .lst xs => .lst (shL n xs)
  | .dct kvs => .dct (kvs.map (shK n))
  | .ins c fs => .ins c (fs.map fun p => (p.1, shD n p.2))
def shE (n : Nat) (e : Nat × Cell) : Nat × Cell := (e.1 + n, shC n e.2)
def shS (σ : Sf) (s : Sto) : Sto := ⟨s.next + σ.n, s.log.map (shE σ.n) ++ σ.old⟩
def shF (n : Nat) (f : Fr) : Fr := f.map (Option.map (shD n))
def shR {α β : Type} (σ : Sf) (m : α → β) : R α → R β
  | .ok a s => .ok (m a) (shS σ s)
  | .ex e s => .ex ⟨e.cls, shL σ.n e.args⟩ (shS σ s)
  | .bad => .bad
def shO (σ : Sf) : O → O
  | .nx f s => .nx (shF σ.n f) (shS σ s)
  | .rt d s => .rt (shD σ.n d) (shS σ s)
  | .bk f s => .bk (shF σ.n f) (shS σ s)
  | .ct f s => .ct (shF σ.n f) (shS σ s)
  | .ex e f s => .ex ⟨e.cls, shL σ.n e.args⟩ (shF σ.n f) (shS σ s)
  | .bad => .bad
section
variable {n : Nat}
theorem shL_map : ∀ ds : List D, shL n ds = ds.map (shD n)
  | [] => rfl
  | d :: ds => by rw [shL, shL_map ds]; rfl
theorem shL_len (ds : List D) : (shL n ds).length = ds.length := by rw [shL_map, List.length_map]
theorem shL_app (a b : List D) : shL n (a ++ b) = shL n a ++ shL n b := by rw [shL_map, shL_map, shL_map, List.map_append]
theorem shL_get (ds : List D) (i : Nat) : (shL n ds)[i]? = ds[i]?.map (shD n) := by rw [shL_map, List.getElem?_map]
theorem shL_rev (ds : List D) : (shL n ds).reverse = shL n ds.reverse := by rw [shL_map, shL_map, List.map_reverse]
theorem shL_take (i : Nat) (ds : List D) : (shL n ds).take i = shL n (ds.take i) := by rw [shL_map, shL_map, List.map_take]
theorem shL_drop (i : Nat) (ds : List D) : (shL n ds).drop i = shL n (ds.drop i) := by rw [shL_map, shL_map, List.map_drop]
theorem shL_set (ds : List D) (i : Nat) (d : D) : (shL n ds).set i (shD n d) = shL n (ds.set i d) := by rw [shL_map, shL_map, List.map_set]
theorem shL_erase : ∀ (ds : List D) (i : Nat), (shL n ds).eraseIdx i = shL n (ds.eraseIdx i)
  | [], _ => rfl
  | _ :: _, 0 => rfl
  | d :: ds, i + 1 => congrArg (shD n d :: ·) (shL_erase ds i)
theorem shL_cut (ds : List D) (lo hi : Option Int) : cut (shL n ds) lo hi = shL n (cut ds lo hi) := by
  unfold cut
  rw [shL_len]
  exact (congrArg _ (shL_take _ ds)).trans (shL_drop _ _)
theorem shL_rep : ∀ (k : Nat) (ds : List D), rep k (shL n ds) = shL n (rep k ds)
  | 0, _ => rfl
  | k + 1, ds => by rw [rep, rep, shL_app, shL_rep k ds]
theorem shL_nil (ds : List D) : (shL n ds).isEmpty = ds.isEmpty := by cases ds <;> rfl
mutual
theorem pure1_sh : ∀ d : D, pure1 (shD n d) = pure1 d
  | .tup ds => pureL_sh ds
  | .rol ds => pureL_sh ds
  | .ref _ => rfl
  | .non => rfl
  | .bl _ => rfl
  | .int _ => rfl
  | .str _ => rfl
  | .fn _ => rfl
  | .gd _ => rfl
  | .ex _ => rfl
theorem pureL_sh : ∀ ds : List D, pureL (shL n ds) = pureL ds
  | [] => rfl
  | d :: ds => by rw [shL, pureL, pureL, pure1_sh d, pureL_sh ds]
end
mutual
theorem sh_pure : ∀ d : D, pure1 d = true → shD n d = d
  | .tup ds, h => congrArg D.tup (shL_pure ds h)
  | .rol ds, h => congrArg D.rol (shL_pure ds h)
  | .non, _ => rfl
  | .bl _, _ => rfl
  | .int _, _ => rfl
  | .str _, _ => rfl
  | .fn _, _ => rfl
  | .gd _, _ => rfl
  | .ex _, _ => rfl
theorem shL_pure : ∀ ds : List D, pureL ds = true → shL n ds = ds
  | [], _ => rfl
  | d :: ds, h => by
    rw [pureL, Bool.and_eq_true] at h
    rw [shL, sh_pure d h.1, shL_pure ds h.2]
end
theorem key_sh (d : D) : key (shD n d) = key d := by cases d <;> rfl
theorem numv_sh (d : D) : numv (shD n d) = numv d := by cases d <;> rfl
theorem isNone_sh (d : D) : isNone (shD n d) = isNone d := by cases d <;> rfl
theorem intsD_sh : ∀ ds : List D, intsD (shL n ds) = intsD ds
  | [] => rfl
  | d :: ds => by
    have h := intsD_sh ds
    cases d <;> first | rfl | exact congrArg (Option.map _) h
theorem blsD_sh : ∀ ds : List D, blsD (shL n ds) = blsD ds
  | [] => rfl
  | d :: ds => by
    have h := blsD_sh ds
    cases d <;> first | rfl | exact congrArg (Option.map _) h
theorem intsD_pure : ∀ (ds : List D) (is : List Int), intsD ds = some is → True := fun _ _ _ => trivial
theorem keyEq_sh (a : PyData) (d : D) : keyEq a (shD n d) = keyEq a d := by unfold keyEq; rw [key_sh]
theorem dget_sh (a : PyData) : ∀ l : List (D × D), dget a (l.map (shK n)) = (dget a l).map (shD n)
  | [] => rfl
  | (k, v) :: r => by
    show cond (keyEq a (shD n k)) (some (shD n v)) (dget a (r.map (shK n))) = _
    rw [keyEq_sh, dget_sh a r]
    show _ = Option.map _ (cond (keyEq a k) (some v) (dget a r))
    cases keyEq a k <;> rfl
theorem dhas_sh (a : PyData) : ∀ l : List (D × D), dhas a (l.map (shK n)) = dhas a l
  | [] => rfl
  | (k, v) :: r => by
    show (keyEq a (shD n k) || dhas a (r.map (shK n))) = _
    rw [keyEq_sh, dhas_sh a r]
    rfl
theorem dset_sh (a : PyData) (v : D) : ∀ l : List (D × D), dset a (shD n v) (l.map (shK n)) = (dset a v l).map (shK n)
  | [] => rfl
  | (k, w) :: r => by
    show (shD n k, cond (keyEq a (shD n k)) (shD n v) (shD n w)) :: dset a (shD n v) (r.map (shK n)) = _
    rw [keyEq_sh, dset_sh a v r]
    show _ = shK n (k, cond (keyEq a k) v w) :: _
    cases keyEq a k <;> rfl
theorem dput_sh (a : PyData) (k v : D) (l : List (D × D)) : dput a (shD n k) (shD n v) (l.map (shK n)) = (dput a k v l).map (shK n) := by
  unfold dput
  rw [dhas_sh, dset_sh]
  cases dhas a l with
  | true => rfl
  | false => show l.map (shK n) ++ [(shD n k, shD n v)] = _; rw [cond_false, List.map_append]; rfl
theorem dictOf_sh : ∀ (ds : List D) (acc : List (D × D)), dictOf (acc.map (shK n)) (shL n ds) = (dictOf acc ds).map (List.map (shK n))
  | [], acc => rfl
  | .tup [k, v] :: r, acc => by
    show (match key (shD n k) with
      | some a => dictOf (dput a (shD n k) (shD n v) (acc.map (shK n))) (shL n r)
      | none => none) = Option.map _ (match key k with
      | some a => dictOf (dput a k v acc) r
      | none => none)
    rw [key_sh]
    cases key k with
    | none => rfl
    | some a => show dictOf (dput a (shD n k) (shD n v) (acc.map (shK n))) (shL n r) = _; rw [dput_sh, dictOf_sh r]
  | .tup [] :: r, acc => rfl
  | .tup [_] :: r, acc => rfl
  | .tup (_ :: _ :: _ :: _) :: r, acc => rfl
  | .rol _ :: r, acc => rfl
  | .ref _ :: r, acc => rfl
  | .non :: r, acc => rfl
  | .bl _ :: r, acc => rfl
  | .int _ :: r, acc => rfl
  | .str _ :: r, acc => rfl
  | .fn _ :: r, acc => rfl
  | .gd _ :: r, acc => rfl
  | .ex _ :: r, acc => rfl
theorem fget_sh (f : Nat) : ∀ l : List (Nat × D), fget f (l.map fun p => (p.1, shD n p.2)) = (fget f l).map (shD n)
  | [] => rfl
  | (g, v) :: r => by
    show cond (Nat.beq g f) (some (shD n v)) (fget f (r.map fun p => (p.1, shD n p.2))) = Option.map _ (cond (Nat.beq g f) (some v) (fget f r))
    rw [fget_sh f r]
    cases Nat.beq g f <;> rfl
theorem fput_sh (f : Nat) (v : D) : ∀ l : List (Nat × D), fput f (shD n v) (l.map fun p => (p.1, shD n p.2)) = (fput f v l).map fun p => (p.1, shD n p.2)
  | [] => rfl
  | (g, w) :: r => by
    show cond (Nat.beq g f) ((g, shD n v) :: r.map fun p => (p.1, shD n p.2)) ((g, shD n w) :: fput f (shD n v) (r.map fun p => (p.1, shD n p.2))) = List.map _ (cond (Nat.beq g f) ((g, v) :: r) ((g, w) :: fput f v r))
    rw [fput_sh f v r]
    cases Nat.beq g f <;> rfl
theorem pairUp_sh : ∀ ds : List D, pairUp (shL n ds) = shL n (pairUp ds)
  | [] => rfl
  | [_] => rfl
  | k :: v :: r => by
    show D.tup [shD n k, shD n v] :: pairUp (shL n r) = _
    rw [pairUp_sh r]
    rfl
end
section
variable (σ : Sf)
theorem look_old (a : Nat) : ∀ l : List (Nat × Cell), (∀ e ∈ l, e.1 < σ.n) → look (a + σ.n) l = none
  | [], _ => rfl
  | (b, c) :: r, h => by
    have hb : b < σ.n := h (b, c) (List.mem_cons_self ..)
    have : Nat.beq b (a + σ.n) = false := by
      cases q : Nat.beq b (a + σ.n) with
      | false => rfl
      | true => have := Nat.eq_of_beq_eq_true q; omega
    show cond (Nat.beq b (a + σ.n)) (some c) (look (a + σ.n) r) = none
    rw [this]
    exact look_old a r fun e he => h e (List.mem_cons_of_mem _ he)
theorem look_sh (a : Nat) : ∀ l : List (Nat × Cell), look (a + σ.n) (l.map (shE σ.n) ++ σ.old) = (look a l).map (shC σ.n)
  | [] => look_old σ a σ.old σ.ho
  | (b, c) :: r => by
    show cond (Nat.beq (b + σ.n) (a + σ.n)) (some (shC σ.n c)) (look (a + σ.n) (r.map (shE σ.n) ++ σ.old)) = Option.map _ (cond (Nat.beq b a) (some c) (look a r))
    have : Nat.beq (b + σ.n) (a + σ.n) = Nat.beq b a := by
      cases q : Nat.beq b a with
      | true => rw [Nat.eq_of_beq_eq_true q]; exact Nat.beq_refl _
      | false =>
        cases q2 : Nat.beq (b + σ.n) (a + σ.n) with
        | false => rfl
        | true =>
          have h2 : b = a := by have := Nat.eq_of_beq_eq_true q2; omega
          rw [h2, Nat.beq_refl] at q
          exact q
    rw [this, look_sh a r]
    cases Nat.beq b a <;> rfl
theorem get_sh (s : Sto) (a : Nat) : (shS σ s).get (a + σ.n) = (s.get a).map (shC σ.n) := look_sh σ a s.log
theorem new_sh (s : Sto) (c : Cell) : (shS σ s).new (shC σ.n c) = shS σ (s.new c) := by
  show Sto.mk (s.next + σ.n + 1) _ = Sto.mk (s.next + 1 + σ.n) _
  rw [Nat.add_right_comm]
  rfl
theorem put_sh (s : Sto) (a : Nat) (c : Cell) : (shS σ s).put (a + σ.n) (shC σ.n c) = shS σ (s.put a c) := rfl
theorem mapO_sh {β : Type} {f g : D → Option β} (h : ∀ d, f (shD σ.n d) = g d) : ∀ ds : List D, mapO f (shL σ.n ds) = mapO g ds
  | [] => rfl
  | d :: ds => by rw [shL, mapO, mapO, h, mapO_sh h ds]
theorem rd_sh (s : Sto) : ∀ (k : Nat) (d : D), rd k (shS σ s) (shD σ.n d) = rd k s d
  | 0, _ => rfl
  | k + 1, d => by
    have h := mapO_sh σ (rd_sh s k)
    cases d with
    | tup ds => exact congrArg (Option.map _) (h ds)
    | rol ds => exact congrArg (Option.map _) (h ds)
    | ref a =>
      show (match (shS σ s).get (a + σ.n) with
        | some (.lst xs) => (mapO (rd k (shS σ s)) xs).map PyData.list
        | _ => none) = (match s.get a with
        | some (.lst xs) => (mapO (rd k s) xs).map PyData.list
        | _ => none)
      rw [get_sh]
      cases s.get a with
      | none => rfl
      | some c => cases c with
        | lst xs => exact congrArg (Option.map _) (h xs)
        | dct _ => rfl
        | ins _ _ => rfl
    | _ => rfl
theorem eqD_sh (s : Sto) (x y : D) : eqD (shS σ s) (shD σ.n x) (shD σ.n y) = eqD s x y := by unfold eqD; rw [rd_sh, rd_sh]
theorem ltD_sh (s : Sto) (x y : D) : ltD (shS σ s) (shD σ.n x) (shD σ.n y) = ltD s x y := by unfold ltD; rw [rd_sh, rd_sh]
theorem hasD_sh (s : Sto) (x : D) (ds : List D) : hasD (shS σ s) (shD σ.n x) (shL σ.n ds) = hasD s x ds := by
  unfold hasD rowP
  rw [rd_sh, mapO_sh σ (rd_sh σ s RDN)]
theorem rowOf_sh (s : Sto) (d : D) : rowOf (shS σ s) (shD σ.n d) = (rowOf s d).map (shL σ.n) := by
  cases d with
  | ref a =>
    show (match (shS σ s).get (a + σ.n) with
      | some (.lst xs) => some xs
      | _ => none) = Option.map _ (match s.get a with
      | some (.lst xs) => some xs
      | _ => none)
    rw [get_sh]
    cases s.get a with
    | none => rfl
    | some c => cases c <;> rfl
  | _ => rfl
theorem truth_sh (s : Sto) (d : D) : truth (shS σ s) (shD σ.n d) = truth s d := by
  cases d with
  | ref a =>
    show (match (shS σ s).get (a + σ.n) with
      | some (.lst xs) => some (!xs.isEmpty)
      | _ => none) = (match s.get a with
      | some (.lst xs) => some (!xs.isEmpty)
      | _ => none)
    rw [get_sh]
    cases s.get a with
    | none => rfl
    | some c => cases c with
      | lst xs => exact congrArg (fun b => some (!b)) (shL_nil xs)
      | _ => rfl
  | _ => rfl
end
/-! ### sorting -/
section
variable {n : Nat}
abbrev shP (n : Nat) (p : D × PyData) : D × PyData := (shD n p.1, p.2)
theorem insP_sh (a : D × PyData) : ∀ l : List (D × PyData), insP (shP n a) (l.map (shP n)) = (insP a l).map (shP n)
  | [] => rfl
  | b :: r => by
    show cond (ltP b.2 a.2) (shP n b :: insP (shP n a) (r.map (shP n))) (shP n a :: shP n b :: r.map (shP n)) = List.map _ (cond (ltP b.2 a.2) (b :: insP a r) (a :: b :: r))
    rw [insP_sh a r]
    cases ltP b.2 a.2 <;> rfl
theorem sortP_sh : ∀ l : List (D × PyData), sortP (l.map (shP n)) = (sortP l).map (shP n)
  | [] => rfl
  | a :: r => by
    show insP (shP n a) (sortP (r.map (shP n))) = _
    rw [sortP_sh r, insP_sh]
    rfl
theorem alkAll_sh : ∀ l : List (D × PyData), alkAll (l.map (shP n)) = alkAll l
  | [] => rfl
  | a :: r => by
    show (alk a.2 a.2 && notNone a.2 && (r.map (shP n)).all (fun b => alk a.2 b.2) && alkAll (r.map (shP n))) = (alk a.2 a.2 && notNone a.2 && r.all (fun b => alk a.2 b.2) && alkAll r)
    rw [alkAll_sh r, List.all_map]
    rfl
theorem fst_sh (l : List (D × PyData)) : (l.map (shP n)).map (·.1) = shL n (l.map (·.1)) := by
  rw [shL_map, List.map_map, List.map_map]
  rfl
theorem tupI_sh (d : D) : tupI (shD n d) = tupI d := by
  cases d with
  | tup ds => exact intsD_sh ds
  | _ => rfl
theorem tupsI_sh : ∀ ds : List D, mapO tupI (shL n ds) = mapO tupI ds
  | [] => rfl
  | d :: ds => by
    have h := tupsI_sh ds
    rw [shL, mapO, mapO, h, tupI_sh]
theorem intsL_sh : ∀ ns : List Int, shL n (ns.map D.int) = ns.map D.int
  | [] => rfl
  | m :: ns => by
    have h := intsL_sh ns
    show D.int m :: shL n (ns.map D.int) = _
    rw [h]
    rfl
theorem tupsL_sh : ∀ r : List (List Int), shL n (r.map fun n => D.tup (n.map D.int)) = r.map fun n => D.tup (n.map D.int)
  | [] => rfl
  | m :: r => by
    have h := tupsL_sh r
    show D.tup (shL n (m.map D.int)) :: shL n (r.map fun n => D.tup (n.map D.int)) = _
    rw [h, intsL_sh]
    rfl
theorem sortSetD_sh (ds : List D) : sortSetD (shL n ds) = (sortSetD ds).map (shL n) := by
  unfold sortSetD
  rw [tupsI_sh]
  cases mapO tupI ds with
  | none => rfl
  | some ks =>
    show cond _ _ _ = Option.map _ (cond _ _ _)
    cases okC ks (srtC ks) with
    | false => rfl
    | true => exact congrArg some (tupsL_sh _).symm
theorem lenSetD_sh (ds : List D) : lenSetD (shL n ds) = lenSetD ds := by
  unfold lenSetD
  rw [intsD_sh]
end
section
variable (σ : Sf)
theorem withP_sh (s : Sto) : ∀ ds : List D, withP (shS σ s) (shL σ.n ds) = (withP s ds).map (List.map (shP σ.n))
  | [] => rfl
  | d :: ds => by
    have h := withP_sh s ds
    unfold withP at h ⊢
    rw [shL, mapO, mapO, h, rd_sh]
    cases rd RDN s d with
    | none => rfl
    | some p => cases mapO (fun d => (rd RDN s d).map fun p => (d, p)) ds <;> rfl
theorem sOk1_sh {n : Nat} : ∀ l : List (D × PyData), sOk1 (l.map (shP n)) = sOk1 l
  | [] => rfl
  | a :: r => congrArg (fun b => (match a.2 with
    | .tuple (_ :: _) => true
    | _ => false) && b) (sOk1_sh r)
theorem sOk2_sh {n : Nat} : ∀ l : List (D × PyData), sOk2 (l.map (shP n)) = sOk2 l
  | [] => rfl
  | a :: r => congrArg (fun b => (match a.2 with
    | .tuple _ => false
    | .none => false
    | _ => true) && b) (sOk2_sh r)
theorem sortD_sh (s : Sto) (ds : List D) : sortD (shS σ s) (shL σ.n ds) = (sortD s ds).map (shL σ.n) := by
  unfold sortD
  rw [withP_sh]
  cases withP s ds with
  | none => rfl
  | some ps =>
    show cond (alkAll (ps.map (shP σ.n)) && (sOk1 (ps.map (shP σ.n)) || sOk2 (ps.map (shP σ.n)))) (some ((sortP (ps.map (shP σ.n))).map (·.1))) none = Option.map _ (cond (alkAll ps && (sOk1 ps || sOk2 ps)) (some ((sortP ps).map (·.1))) none)
    rw [alkAll_sh, sOk1_sh, sOk2_sh, sortP_sh, fst_sh]
    cases alkAll ps && (sOk1 ps || sOk2 ps) <;> rfl
/-! ### results -/
variable {α β γ δ : Type}
theorem bind_sh {m : α → β} {m2 : γ → δ} {r : R α} {k : α → Sto → R γ} {k' : β → Sto → R δ} (h : ∀ a s, k' (m a) (shS σ s) = shR σ m2 (k a s)) : (shR σ m r).bind k' = shR σ m2 (r.bind k) := by
  cases r with
  | ok a s => exact h a s
  | ex e s => rfl
  | bad => rfl
theorem nox_sh {m : α → β} {r : R α} : R.nox (shR σ m r) = shR σ m (R.nox r) := by cases r <;> rfl
theorem ofO_sh {m : α → β} {o : Option α} {s : Sto} : R.ofO (o.map m) (shS σ s) = shR σ m (R.ofO o s) := by cases o <;> rfl
theorem ofO_id {o : Option α} {s : Sto} : R.ofO o (shS σ s) = shR σ id (R.ofO o s) := by cases o <;> rfl
theorem cond_sh {m : α → β} {b : Bool} {r r2 : R α} {r' r2' : R β} (h : r' = shR σ m r) (h2 : r2' = shR σ m r2) : cond b r' r2' = shR σ m (cond b r r2) := by cases b <;> assumption
theorem condO_sh {b : Bool} {r r2 r' r2' : O} (h : r' = shO σ r) (h2 : r2' = shO σ r2) : cond b r' r2' = shO σ (cond b r r2) := by cases b <;> assumption
theorem ofR_sh {m : α → β} {f : Fr} {r : R α} {k : α → Sto → O} {k' : β → Sto → O} (h : ∀ a s, k' (m a) (shS σ s) = shO σ (k a s)) : ofR (shF σ.n f) (shR σ m r) k' = shO σ (ofR f r k) := by
  cases r with
  | ok a s => exact h a s
  | ex e s => rfl
  | bad => rfl
end
end TR
set_option autoImplicit false
set_option linter.all false
set_option maxRecDepth 100000
/-! Shifted: the operators. -/
namespace TR
open PySem (Str PyData)
section
variable (σ : Sf) {s : Sto} {g : Nat → List (D × D)}
theorem opI_sh {o : Op2} {a b : Int} : opI o a b (shS σ s) = shR σ (shD σ.n) (opI o a b s) := by
  cases o <;> first | rfl | exact cond_sh σ rfl rfl
theorem newOk_sh {c : Cell} : (R.ok (D.ref (s.next + σ.n)) ((shS σ s).new (shC σ.n c)) : R D) = shR σ (shD σ.n) (.ok (.ref s.next) (s.new c)) := by
  rw [new_sh]
  rfl
theorem catOk_sh {a b : List D} : catOk (shL σ.n a) (shL σ.n b) = catOk a b := by unfold catOk; rw [shL_len, shL_len]
theorem repOk_sh {a : List D} {k : Int} : repOk (shL σ.n a) k = repOk a k := by unfold repOk; rw [shL_len]
theorem opD_sh {o : Op2} {x y : D} : opD o (shD σ.n x) (shD σ.n y) (shS σ s) = shR σ (shD σ.n) (opD o x y s) := by
  cases x with
  | int a => cases y with
    | int b => cases o with
      | add => exact opI_sh σ (o := .add) (a := a) (b := b)
      | sub => exact opI_sh σ (o := .sub) (a := a) (b := b)
      | mul => exact opI_sh σ (o := .mul) (a := a) (b := b)
      | fdiv => exact opI_sh σ (o := .fdiv) (a := a) (b := b)
      | mod => exact opI_sh σ (o := .mod) (a := a) (b := b)
      | pow => exact opI_sh σ (o := .pow) (a := a) (b := b)
    | _ => cases o <;> rfl
  | bl a => cases y <;> cases o <;> rfl
  | str a =>
    cases y with
    | str b => cases o with
      | add => exact cond_sh σ rfl rfl
      | _ => rfl
    | _ => cases o <;> rfl
  | tup a =>
    cases y with
    | tup b => cases o with
      | add =>
        show cond (catOk (shL σ.n a) (shL σ.n b)) (R.ok (D.tup (shL σ.n a ++ shL σ.n b)) (shS σ s)) R.bad = _
        rw [catOk_sh, ← shL_app]
        exact cond_sh σ rfl rfl
      | _ => rfl
    | int b => cases o with
      | mul =>
        show cond (repOk (shL σ.n a) b) (R.ok (D.tup (rep b.toNat (shL σ.n a))) (shS σ s)) R.bad = _
        rw [repOk_sh, shL_rep]
        exact cond_sh σ rfl rfl
      | _ => rfl
    | _ => cases o <;> rfl
  | ref a =>
    cases y with
    | ref b => cases o with
      | add =>
        show (match (shS σ s).get (a + σ.n), (shS σ s).get (b + σ.n) with
          | some (.lst xs), some (.lst ys) => cond (catOk xs ys) (R.ok (D.ref (shS σ s).next) ((shS σ s).new (.lst (xs ++ ys)))) R.bad
          | _, _ => R.bad) = shR σ (shD σ.n) (match s.get a, s.get b with
          | some (.lst xs), some (.lst ys) => cond (catOk xs ys) (R.ok (D.ref s.next) (s.new (.lst (xs ++ ys)))) R.bad
          | _, _ => R.bad)
        rw [get_sh, get_sh]
        cases s.get a with
        | none => rfl
        | some c => cases c with
          | lst xs => cases s.get b with
            | none => rfl
            | some c => cases c with
              | lst ys =>
                show cond (catOk (shL σ.n xs) (shL σ.n ys)) (R.ok (D.ref (s.next + σ.n)) ((shS σ s).new (.lst (shL σ.n xs ++ shL σ.n ys)))) R.bad = _
                rw [catOk_sh, ← shL_app]
                exact cond_sh σ (newOk_sh σ (c := .lst (xs ++ ys))) rfl
              | _ => rfl
          | dct _ => cases s.get b with
            | none => rfl
            | some c => cases c <;> rfl
          | ins _ _ => cases s.get b with
            | none => rfl
            | some c => cases c <;> rfl
      | _ => rfl
    | int b => cases o with
      | mul =>
        show (match (shS σ s).get (a + σ.n) with
          | some (.lst xs) => cond (repOk xs b) (R.ok (D.ref (shS σ s).next) ((shS σ s).new (.lst (rep b.toNat xs)))) R.bad
          | _ => R.bad) = shR σ (shD σ.n) (match s.get a with
          | some (.lst xs) => cond (repOk xs b) (R.ok (D.ref s.next) (s.new (.lst (rep b.toNat xs)))) R.bad
          | _ => R.bad)
        rw [get_sh]
        cases s.get a with
        | none => rfl
        | some c => cases c with
          | lst xs =>
            show cond (repOk (shL σ.n xs) b) (R.ok (D.ref (s.next + σ.n)) ((shS σ s).new (.lst (rep b.toNat (shL σ.n xs))))) R.bad = _
            rw [repOk_sh, shL_rep]
            exact cond_sh σ (newOk_sh σ (c := .lst (rep b.toNat xs))) rfl
          | _ => rfl
      | _ => rfl
    | _ => cases o <;> rfl
  | _ => cases y <;> cases o <;> rfl
theorem augD_sh {o : Op2} {x y : D} : augD o (shD σ.n x) (shD σ.n y) (shS σ s) = shR σ (shD σ.n) (augD o x y s) := by
  cases x with
  | int a => cases y with
    | int b => exact opI_sh σ
    | _ => rfl
  | _ => rfl
theorem inD_sh {x y : D} : inD (shS σ s) g (shD σ.n x) (shD σ.n y) = inD s g x y := by
  cases y with
  | tup ds => exact hasD_sh σ s x ds
  | rol ds => exact hasD_sh σ s x ds
  | ref a =>
    show (match (shS σ s).get (a + σ.n) with
      | some (.lst ds) => hasD (shS σ s) (shD σ.n x) ds
      | _ => none) = (match s.get a with
      | some (.lst ds) => hasD s x ds
      | _ => none)
    rw [get_sh]
    cases s.get a with
    | none => rfl
    | some c => cases c with
      | lst xs => exact hasD_sh σ s x xs
      | _ => rfl
  | _ => rfl
theorem bl_sh {o : Option Bool} {h : Bool → Bool} : ((R.ofO o (shS σ s)).bind fun b s => .ok (.bl (h b)) s : R D) = shR σ (shD σ.n) ((R.ofO o s).bind fun b s => .ok (.bl (h b)) s) := by
  cases o <;> rfl
theorem cmD_sh {o : Cm} {x y : D} : cmD g o (shD σ.n x) (shD σ.n y) (shS σ s) = shR σ (shD σ.n) (cmD g o x y s) := by
  have hi : ∀ x y : D, inD (shS σ s) g (shD σ.n x) (shD σ.n y) = inD s g x y := fun x y => inD_sh σ
  have he := eqD_sh σ s
  have hl := ltD_sh σ s
  have z : (∃ a, x = .int a) ∧ (∃ b, y = .int b) ∨ ¬((∃ a, x = .int a) ∧ (∃ b, y = .int b)) := Classical.em _
  rcases z with ⟨⟨a, rfl⟩, ⟨b, rfl⟩⟩ | z
  · cases o with
    | isIn =>
      show ((R.ofO (inD (shS σ s) g (shD σ.n (.int a)) (shD σ.n (.int b))) (shS σ s)).bind fun b s => R.ok (D.bl b) s : R D) = _
      rw [hi]
      exact bl_sh σ (h := id)
    | notIn =>
      show ((R.ofO (inD (shS σ s) g (shD σ.n (.int a)) (shD σ.n (.int b))) (shS σ s)).bind fun b s => R.ok (D.bl (!b)) s : R D) = _
      rw [hi]
      exact bl_sh σ (h := not)
    | _ => rfl
  · cases o with
    | isIn =>
      have e : ∀ (x y : D) (s : Sto), cmD g .isIn x y s = (R.ofO (inD s g x y) s).bind fun b s => R.ok (D.bl b) s := fun x y s => by cases x <;> cases y <;> rfl
      rw [e, e, hi]
      exact bl_sh σ (h := id)
    | notIn =>
      have e : ∀ (x y : D) (s : Sto), cmD g .notIn x y s = (R.ofO (inD s g x y) s).bind fun b s => R.ok (D.bl (!b)) s := fun x y s => by cases x <;> cases y <;> rfl
      rw [e, e, hi]
      exact bl_sh σ (h := not)
    | eq =>
      have e : ∀ (x y : D) (s : Sto), ¬((∃ a, x = .int a) ∧ (∃ b, y = .int b)) → cmD g .eq x y s = (R.ofO (eqD s x y) s).bind fun b s => R.ok (D.bl b) s := fun x y s h => by cases x <;> cases y <;> first | rfl | exact absurd ⟨⟨_, rfl⟩, ⟨_, rfl⟩⟩ h
      rw [e x y s z, e _ _ _ (by revert z; cases x <;> cases y <;> simp [shD]), he]
      exact bl_sh σ (h := id)
    | ne =>
      have e : ∀ (x y : D) (s : Sto), ¬((∃ a, x = .int a) ∧ (∃ b, y = .int b)) → cmD g .ne x y s = (R.ofO (eqD s x y) s).bind fun b s => R.ok (D.bl (!b)) s := fun x y s h => by cases x <;> cases y <;> first | rfl | exact absurd ⟨⟨_, rfl⟩, ⟨_, rfl⟩⟩ h
      rw [e x y s z, e _ _ _ (by revert z; cases x <;> cases y <;> simp [shD]), he]
      exact bl_sh σ (h := not)
    | lt =>
      have e : ∀ (x y : D) (s : Sto), ¬((∃ a, x = .int a) ∧ (∃ b, y = .int b)) → cmD g .lt x y s = (R.ofO (ltD s x y) s).bind fun b s => R.ok (D.bl b) s := fun x y s h => by cases x <;> cases y <;> first | rfl | exact absurd ⟨⟨_, rfl⟩, ⟨_, rfl⟩⟩ h
      rw [e x y s z, e _ _ _ (by revert z; cases x <;> cases y <;> simp [shD]), hl]
      exact bl_sh σ (h := id)
    | gt =>
      have e : ∀ (x y : D) (s : Sto), ¬((∃ a, x = .int a) ∧ (∃ b, y = .int b)) → cmD g .gt x y s = (R.ofO (ltD s y x) s).bind fun b s => R.ok (D.bl b) s := fun x y s h => by cases x <;> cases y <;> first | rfl | exact absurd ⟨⟨_, rfl⟩, ⟨_, rfl⟩⟩ h
      rw [e x y s z, e _ _ _ (by revert z; cases x <;> cases y <;> simp [shD]), hl]
      exact bl_sh σ (h := id)
    | le =>
      have e : ∀ (x y : D) (s : Sto), ¬((∃ a, x = .int a) ∧ (∃ b, y = .int b)) → cmD g .le x y s = (R.ofO (ltD s y x) s).bind fun b s => R.ok (D.bl (!b)) s := fun x y s h => by cases x <;> cases y <;> first | rfl | exact absurd ⟨⟨_, rfl⟩, ⟨_, rfl⟩⟩ h
      rw [e x y s z, e _ _ _ (by revert z; cases x <;> cases y <;> simp [shD]), hl]
      exact bl_sh σ (h := not)
    | ge =>
      have e : ∀ (x y : D) (s : Sto), ¬((∃ a, x = .int a) ∧ (∃ b, y = .int b)) → cmD g .ge x y s = (R.ofO (ltD s x y) s).bind fun b s => R.ok (D.bl (!b)) s := fun x y s h => by cases x <;> cases y <;> first | rfl | exact absurd ⟨⟨_, rfl⟩, ⟨_, rfl⟩⟩ h
      rw [e x y s z, e _ _ _ (by revert z; cases x <;> cases y <;> simp [shD]), hl]
      exact bl_sh σ (h := not)
theorem isaD_sh {t : Ty} {d : D} : isaD (shS σ s) t (shD σ.n d) = isaD s t d := by
  cases d with
  | ref a =>
    show (match (shS σ s).get (a + σ.n) with
      | some (.lst _) => some (t == Ty.list)
      | some (.dct _) => some false
      | _ => none) = (match s.get a with
      | some (.lst _) => some (t == Ty.list)
      | some (.dct _) => some false
      | _ => none)
    rw [get_sh]
    cases Sto.get _ a with
    | none => rfl
    | some c => cases c <;> rfl
  | _ => rfl
theorem isaAny_sh {d : D} : ∀ ts : List Ty, isaAny (shS σ s) ts (shD σ.n d) = isaAny s ts d
  | [] => rfl
  | t :: ts => by rw [isaAny, isaAny, isaD_sh, isaAny_sh ts]
theorem ixRow_sh {ds : List D} {i : D} : (match shD σ.n i with
      | .int k => match plc (shL σ.n ds).length k with
        | some j => R.ofO (shL σ.n ds)[j]? (shS σ s)
        | none => R.bad
      | _ => R.bad) = shR σ (shD σ.n) (match i with
      | .int k => match plc ds.length k with
        | some j => R.ofO ds[j]? s
        | none => R.bad
      | _ => R.bad) := by
  cases i with
  | int k =>
    show (match plc (shL σ.n ds).length k with
      | some j => R.ofO (shL σ.n ds)[j]? (shS σ s)
      | none => R.bad) = shR σ (shD σ.n) (match plc ds.length k with
      | some j => R.ofO ds[j]? s
      | none => R.bad)
    rw [shL_len]
    cases plc ds.length k with
    | none => rfl
    | some j => show R.ofO (shL σ.n ds)[j]? (shS σ s) = _; rw [shL_get]; exact ofO_sh σ
  | _ => rfl
theorem dg_sh {o : Option D} (h : o.map (shD σ.n) = o) : R.ofO o (shS σ s) = shR σ (shD σ.n) (R.ofO o s) := by
  refine Eq.trans (congrArg (fun o => R.ofO o (shS σ s)) h.symm) (ofO_sh σ)
/-- what the written dicts hold stays under a shift -/
def GPure (g : Nat → List (D × D)) : Prop := ∀ k n, (g k).map (shK n) = g k
theorem ixD_sh (hg : GPure g) {x i : D} : ixD g (shD σ.n x) (shD σ.n i) (shS σ s) = shR σ (shD σ.n) (ixD g x i s) := by
  cases x with
  | tup ds => exact ixRow_sh σ
  | rol ds => exact ixRow_sh σ
  | gd k =>
    show (match key (shD σ.n i) with
      | some a => R.ofO (dget a (g k)) (shS σ s)
      | none => R.bad) = shR σ (shD σ.n) (match key i with
      | some a => R.ofO (dget a (g k)) s
      | none => R.bad)
    rw [key_sh]
    cases key i with
    | none => rfl
    | some a => exact dg_sh σ ((dget_sh a (g k)).symm.trans (by rw [hg]))
  | ref a =>
    show (match (shS σ s).get (a + σ.n) with
    | some (.lst ds) => (match shD σ.n i with
      | .int k => match plc ds.length k with
        | some j => R.ofO ds[j]? (shS σ s)
        | none => R.bad
      | _ => R.bad)
    | some (.dct kvs) => (match key (shD σ.n i) with
      | some a => R.ofO (dget a kvs) (shS σ s)
      | none => R.bad)
    | _ => R.bad) = shR σ (shD σ.n) (match s.get a with
    | some (.lst ds) => (match i with
      | .int k => match plc ds.length k with
        | some j => R.ofO ds[j]? s
        | none => R.bad
      | _ => R.bad)
    | some (.dct kvs) => (match key i with
      | some a => R.ofO (dget a kvs) s
      | none => R.bad)
    | _ => R.bad)
    rw [get_sh]
    cases s.get a with
    | none => rfl
    | some c => cases c with
      | lst ds => exact ixRow_sh σ
      | dct kvs =>
        show (match key (shD σ.n i) with
          | some a => R.ofO (dget a (kvs.map (shK σ.n))) (shS σ s)
          | none => R.bad) = shR σ (shD σ.n) (match key i with
          | some a => R.ofO (dget a kvs) s
          | none => R.bad)
        rw [key_sh]
        cases key i with
        | none => rfl
        | some a => show R.ofO (dget a (kvs.map (shK σ.n))) (shS σ s) = _; rw [dget_sh]; exact ofO_sh σ
      | ins _ _ => rfl
  | _ => rfl
theorem slD_sh {x : D} {lo hi : Option Int} : slD (shD σ.n x) lo hi (shS σ s) = shR σ (shD σ.n) (slD x lo hi s) := by
  cases x with
  | tup ds => show (R.ok (D.tup (cut (shL σ.n ds) lo hi)) (shS σ s) : R D) = _; rw [shL_cut]; rfl
  | rol ds => show (R.ok (D.ref (s.next + σ.n)) ((shS σ s).new (.lst (cut (shL σ.n ds) lo hi))) : R D) = _; rw [shL_cut]; exact newOk_sh σ (c := .lst (cut ds lo hi))
  | ref a =>
    show (match (shS σ s).get (a + σ.n) with
      | some (.lst ds) => R.ok (D.ref (shS σ s).next) ((shS σ s).new (.lst (cut ds lo hi)))
      | _ => R.bad) = shR σ (shD σ.n) (match s.get a with
      | some (.lst ds) => R.ok (D.ref s.next) (s.new (.lst (cut ds lo hi)))
      | _ => R.bad)
    rw [get_sh]
    cases s.get a with
    | none => rfl
    | some c => cases c with
      | lst ds => show (R.ok (D.ref (s.next + σ.n)) ((shS σ s).new (.lst (cut (shL σ.n ds) lo hi))) : R D) = _; rw [shL_cut]; exact newOk_sh σ (c := .lst (cut ds lo hi))
      | _ => rfl
  | _ => rfl
theorem revD_sh {x : D} : revD (shD σ.n x) (shS σ s) = shR σ (shD σ.n) (revD x s) := by
  cases x with
  | tup ds => show (R.ok (D.tup (shL σ.n ds).reverse) (shS σ s) : R D) = _; rw [shL_rev]; rfl
  | rol ds => show (R.ok (D.ref (s.next + σ.n)) ((shS σ s).new (.lst (shL σ.n ds).reverse)) : R D) = _; rw [shL_rev]; exact newOk_sh σ (c := .lst ds.reverse)
  | ref a =>
    show (match (shS σ s).get (a + σ.n) with
      | some (.lst ds) => R.ok (D.ref (shS σ s).next) ((shS σ s).new (.lst ds.reverse))
      | _ => R.bad) = shR σ (shD σ.n) (match s.get a with
      | some (.lst ds) => R.ok (D.ref s.next) (s.new (.lst ds.reverse))
      | _ => R.bad)
    rw [get_sh]
    cases s.get a with
    | none => rfl
    | some c => cases c with
      | lst ds => show (R.ok (D.ref (s.next + σ.n)) ((shS σ s).new (.lst (shL σ.n ds).reverse)) : R D) = _; rw [shL_rev]; exact newOk_sh σ (c := .lst ds.reverse)
      | _ => rfl
  | _ => rfl
theorem stD_sh {o i v : D} : stD (shD σ.n o) (shD σ.n i) (shD σ.n v) (shS σ s) = shR σ id (stD o i v s) := by
  cases o with
  | ref a =>
    show (match (shS σ s).get (a + σ.n) with
    | some (.lst ds) => (match shD σ.n i with
      | .int k => match plc ds.length k with
        | some j => R.ok () ((shS σ s).put (a + σ.n) (.lst (ds.set j (shD σ.n v))))
        | none => R.bad
      | _ => R.bad)
    | some (.dct kvs) => (match key (shD σ.n i) with
      | some p => cond (Nat.blt kvs.length SZ) (R.ok () ((shS σ s).put (a + σ.n) (.dct (dput p (shD σ.n i) (shD σ.n v) kvs)))) R.bad
      | none => R.bad)
    | _ => R.bad) = shR σ id (match s.get a with
    | some (.lst ds) => (match i with
      | .int k => match plc ds.length k with
        | some j => R.ok () (s.put a (.lst (ds.set j v)))
        | none => R.bad
      | _ => R.bad)
    | some (.dct kvs) => (match key i with
      | some p => cond (Nat.blt kvs.length SZ) (R.ok () (s.put a (.dct (dput p i v kvs)))) R.bad
      | none => R.bad)
    | _ => R.bad)
    rw [get_sh]
    cases s.get a with
    | none => rfl
    | some c => cases c with
      | lst ds =>
        cases i with
        | int k =>
          show (match plc (shL σ.n ds).length k with
            | some j => R.ok () ((shS σ s).put (a + σ.n) (.lst ((shL σ.n ds).set j (shD σ.n v))))
            | none => R.bad) = shR σ id (match plc ds.length k with
            | some j => R.ok () (s.put a (.lst (ds.set j v)))
            | none => R.bad)
          rw [shL_len]
          cases plc ds.length k with
          | none => rfl
          | some j => show (R.ok () ((shS σ s).put (a + σ.n) (.lst ((shL σ.n ds).set j (shD σ.n v)))) : R Unit) = _; rw [shL_set]; rfl
        | _ => rfl
      | dct kvs =>
        show (match key (shD σ.n i) with
          | some p => cond (Nat.blt (kvs.map (shK σ.n)).length SZ) (R.ok () ((shS σ s).put (a + σ.n) (.dct (dput p (shD σ.n i) (shD σ.n v) (kvs.map (shK σ.n)))))) R.bad
          | none => R.bad) = shR σ id (match key i with
          | some p => cond (Nat.blt kvs.length SZ) (R.ok () (s.put a (.dct (dput p i v kvs)))) R.bad
          | none => R.bad)
        rw [key_sh]
        cases key i with
        | none => rfl
        | some p =>
          show cond (Nat.blt (kvs.map (shK σ.n)).length SZ) (R.ok () ((shS σ s).put (a + σ.n) (.dct (dput p (shD σ.n i) (shD σ.n v) (kvs.map (shK σ.n)))))) R.bad = _
          rw [dput_sh, List.length_map]
          exact cond_sh σ rfl rfl
      | ins _ _ => rfl
  | _ => rfl
end
end TR
set_option autoImplicit false
set_option linter.all false
set_option maxRecDepth 100000
/-! Shifted: built-ins, methods, what is gone through. -/
namespace TR
open PySem (Str PyData)
section
variable (σ : Sf) {s : Sto} {g : Nat → List (D × D)}
theorem bindO_sh {α β : Type} {m : α → β} {o : Option α} {k : α → Sto → R D} {k' : β → Sto → R D} (h : ∀ a s, k' (m a) (shS σ s) = shR σ (shD σ.n) (k a s)) :
    (R.ofO (o.map m) (shS σ s)).bind k' = shR σ (shD σ.n) ((R.ofO o s).bind k) := by
  cases o with
  | none => rfl
  | some a => exact h a s
theorem b1D_sh {b : B1} {ds : List D} : b1D b (shL σ.n ds) (shS σ s) = shR σ (shD σ.n) (b1D b ds s) := by
  cases b with
  | tuple => rfl
  | all =>
    show ((R.ofO (blsD (shL σ.n ds)) (shS σ s)).bind fun bs s => .ok (.bl (bs.all id)) s : R D) = _
    rw [blsD_sh]
    show _ = shR σ _ ((R.ofO (blsD ds) s).bind fun bs s => .ok (D.bl (bs.all id)) s)
    cases blsD ds <;> rfl
  | any =>
    show ((R.ofO (blsD (shL σ.n ds)) (shS σ s)).bind fun bs s => .ok (.bl (bs.any id)) s : R D) = _
    rw [blsD_sh]
    show _ = shR σ _ ((R.ofO (blsD ds) s).bind fun bs s => .ok (D.bl (bs.any id)) s)
    cases blsD ds <;> rfl
  | sum =>
    show ((R.ofO (intsD (shL σ.n ds)) (shS σ s)).bind fun is s => .ok (.int is.sum) s : R D) = _
    rw [intsD_sh]
    show _ = shR σ _ ((R.ofO (intsD ds) s).bind fun is s => .ok (D.int is.sum) s)
    cases intsD ds <;> rfl
  | max =>
    show ((R.ofO (intsD (shL σ.n ds)) (shS σ s)).bind fun is s => match is with
      | a :: r => R.ok (D.int (maxI a r)) s
      | [] => R.bad : R D) = _
    rw [intsD_sh]
    show _ = shR σ _ ((R.ofO (intsD ds) s).bind fun is s => match is with
      | a :: r => R.ok (D.int (maxI a r)) s
      | [] => R.bad)
    cases intsD ds with
    | none => rfl
    | some is => cases is <;> rfl
  | min =>
    show ((R.ofO (intsD (shL σ.n ds)) (shS σ s)).bind fun is s => match is with
      | a :: r => R.ok (D.int (minI a r)) s
      | [] => R.bad : R D) = _
    rw [intsD_sh]
    show _ = shR σ _ ((R.ofO (intsD ds) s).bind fun is s => match is with
      | a :: r => R.ok (D.int (minI a r)) s
      | [] => R.bad)
    cases intsD ds with
    | none => rfl
    | some is => cases is <;> rfl
  | sorted =>
    show ((R.ofO (sortD (shS σ s) (shL σ.n ds)) (shS σ s)).bind fun xs s => .ok (.ref s.next) (s.new (.lst xs)) : R D) = _
    rw [sortD_sh]
    exact bindO_sh σ fun xs s => newOk_sh σ (c := .lst xs)
  | len => show (R.ok (D.int (shL σ.n ds).length) (shS σ s) : R D) = _; rw [shL_len]; rfl
  | sortedSet =>
    show ((R.ofO (sortSetD (shL σ.n ds)) (shS σ s)).bind fun xs s => .ok (.ref s.next) (s.new (.lst xs)) : R D) = _
    rw [sortSetD_sh]
    exact bindO_sh σ fun xs s => newOk_sh σ (c := .lst xs)
  | lenSet =>
    show ((R.ofO (lenSetD (shL σ.n ds)) (shS σ s)).bind fun n s => .ok (.int n) s : R D) = _
    rw [lenSetD_sh]
    show _ = shR σ _ ((R.ofO (lenSetD ds) s).bind fun n s => .ok (D.int n) s)
    cases lenSetD ds <;> rfl
  | dict =>
    show ((R.ofO (dictOf (([] : List (D × D)).map (shK σ.n)) (shL σ.n ds)) (shS σ s)).bind fun kvs s => .ok (.ref s.next) (s.new (.dct kvs)) : R D) = _
    rw [dictOf_sh]
    exact bindO_sh σ fun xs s => newOk_sh σ (c := .dct xs)
  | list => exact newOk_sh σ (c := .lst ds)
theorem b1V_sh {b : B1} {x : D} : b1V b (shD σ.n x) (shS σ s) = shR σ (shD σ.n) (b1V b x s) := by
  cases x with
  | tup ds => cases b with
    | len => exact b1D_sh σ (b := .len) (ds := ds)
    | tuple => exact b1D_sh σ (b := .tuple) (ds := ds)
    | list => exact b1D_sh σ (b := .list) (ds := ds)
    | max => exact b1D_sh σ (b := .max) (ds := ds)
    | min => exact b1D_sh σ (b := .min) (ds := ds)
    | _ => rfl
  | rol ds => exact b1D_sh σ (b := b) (ds := ds)
  | str x => cases b with
    | len => exact cond_sh σ rfl rfl
    | _ => rfl
  | ref a =>
    show (match (shS σ s).get (a + σ.n) with
    | some (.lst ds) => b1D b ds (shS σ s)
    | some (.dct kvs) => (match b with
      | .len => R.ok (D.int kvs.length) (shS σ s)
      | .list => R.ok (D.ref (shS σ s).next) ((shS σ s).new (.lst (kvs.map (·.1))))
      | .dict => R.ok (D.ref (shS σ s).next) ((shS σ s).new (.dct kvs))
      | _ => R.bad)
    | _ => R.bad) = shR σ (shD σ.n) (match s.get a with
    | some (.lst ds) => b1D b ds s
    | some (.dct kvs) => (match b with
      | .len => R.ok (D.int kvs.length) s
      | .list => R.ok (D.ref s.next) (s.new (.lst (kvs.map (·.1))))
      | .dict => R.ok (D.ref s.next) (s.new (.dct kvs))
      | _ => R.bad)
    | _ => R.bad)
    rw [get_sh]
    cases s.get a with
    | none => rfl
    | some c => cases c with
      | lst ds => exact b1D_sh σ (b := b) (ds := ds)
      | dct kvs => cases b with
        | len => show (R.ok (D.int (kvs.map (shK σ.n)).length) (shS σ s) : R D) = _; rw [List.length_map]; rfl
        | list =>
          show (R.ok (D.ref (s.next + σ.n)) ((shS σ s).new (.lst ((kvs.map (shK σ.n)).map (·.1)))) : R D) = _
          have : (kvs.map (shK σ.n)).map (·.1) = shL σ.n (kvs.map (·.1)) := by rw [shL_map, List.map_map, List.map_map]; rfl
          rw [this]
          exact newOk_sh σ (c := .lst (kvs.map (·.1)))
        | dict => exact newOk_sh σ (c := .dct kvs)
        | _ => rfl
      | ins _ _ => rfl
  | _ => rfl
theorem biD_sh {b : Bi} : ∀ {ds : List D}, biD b (shL σ.n ds) (shS σ s) = shR σ (shD σ.n) (biD b ds s)
  | [] => by cases b <;> rfl
  | [x] => by cases b <;> cases x <;> rfl
  | [x, y] => by cases b <;> cases x <;> cases y <;> rfl
  | x :: y :: z :: r => by cases b <;> cases x <;> cases y <;> rfl
theorem kindD_sh {d : D} : kindD g (shS σ s) (shD σ.n d) = kindD g s d := by
  cases d with
  | ref a =>
    show (match (shS σ s).get (a + σ.n) with
    | some (.lst _) => 1
    | some (.dct _) => 2
    | _ => 0) = (match s.get a with
    | some (.lst _) => 1
    | some (.dct _) => 2
    | _ => 0)
    rw [get_sh]
    cases s.get a with
    | none => rfl
    | some c => cases c <;> rfl
  | _ => rfl
theorem shL_last : ∀ ds : List D, (shL σ.n ds).getLast? = ds.getLast?.map (shD σ.n) := fun ds => by rw [shL_map, List.getLast?_map]
theorem shL_dropLast (ds : List D) : (shL σ.n ds).dropLast = shL σ.n ds.dropLast := by rw [shL_map, shL_map, List.map_dropLast]
theorem putOk_sh {a : Nat} {d : D} {c : Cell} : (R.ok (shD σ.n d) ((shS σ s).put (a + σ.n) (shC σ.n c)) : R D) = shR σ (shD σ.n) (.ok d (s.put a c)) := rfl
theorem mtL_sh {m : Mt} {a : Nat} {ds : List D} : ∀ {as : List D}, mtL m (a + σ.n) (shL σ.n ds) (shL σ.n as) (shS σ s) = shR σ (shD σ.n) (mtL m a ds as s)
  | [] => by
    cases m with
    | pop =>
      show (match (shL σ.n ds).getLast? with
        | some d => R.ok d ((shS σ s).put (a + σ.n) (.lst (shL σ.n ds).dropLast))
        | none => R.bad) = shR σ (shD σ.n) (match ds.getLast? with
        | some d => R.ok d (s.put a (.lst ds.dropLast))
        | none => R.bad)
      rw [shL_last, shL_dropLast]
      cases ds.getLast? <;> rfl
    | _ => rfl
  | [x] => by
    cases m with
    | append =>
      show cond (Nat.blt (shL σ.n ds).length SZ) (R.ok D.non ((shS σ s).put (a + σ.n) (.lst (shL σ.n ds ++ [shD σ.n x])))) R.bad = _
      rw [shL_len]
      have : shL σ.n ds ++ [shD σ.n x] = shL σ.n (ds ++ [x]) := (shL_app ds [x]).symm
      rw [this]
      exact cond_sh σ rfl rfl
    | extend =>
      show (match rowOf (shS σ s) (shD σ.n x) with
        | some xs => cond (catOk (shL σ.n ds) xs) (R.ok D.non ((shS σ s).put (a + σ.n) (.lst (shL σ.n ds ++ xs)))) R.bad
        | none => R.bad) = shR σ (shD σ.n) (match rowOf s x with
        | some xs => cond (catOk ds xs) (R.ok D.non (s.put a (.lst (ds ++ xs)))) R.bad
        | none => R.bad)
      rw [rowOf_sh]
      cases rowOf s x with
      | none => rfl
      | some xs =>
        show cond (catOk (shL σ.n ds) (shL σ.n xs)) (R.ok D.non ((shS σ s).put (a + σ.n) (.lst (shL σ.n ds ++ shL σ.n xs)))) R.bad = _
        rw [catOk_sh, ← shL_app]
        exact cond_sh σ rfl rfl
    | pop =>
      cases x with
      | int k =>
        show cond (rngOk k k) (match plc (shL σ.n ds).length k with
          | some j => match (shL σ.n ds)[j]? with
            | some d => R.ok d ((shS σ s).put (a + σ.n) (.lst ((shL σ.n ds).eraseIdx j)))
            | none => R.bad
          | none => R.bad) R.bad = _
        rw [shL_len]
        refine cond_sh σ ?_ rfl
        cases plc ds.length k with
        | none => rfl
        | some j =>
          show (match (shL σ.n ds)[j]? with
            | some d => R.ok d ((shS σ s).put (a + σ.n) (.lst ((shL σ.n ds).eraseIdx j)))
            | none => R.bad) = shR σ (shD σ.n) (match ds[j]? with
            | some d => R.ok d (s.put a (.lst (ds.eraseIdx j)))
            | none => R.bad)
          rw [shL_get, shL_erase]
          cases ds[j]? <;> rfl
      | _ => rfl
    | index =>
      show ((R.ofO (findD (shS σ s) (shD σ.n x) (shL σ.n ds)) (shS σ s)).bind fun j s => .ok (.int (j : Nat)) s : R D) = shR σ (shD σ.n) ((R.ofO (findD s x ds) s).bind fun j s => R.ok (D.int (j : Nat)) s)
      have : findD (shS σ s) (shD σ.n x) (shL σ.n ds) = findD s x ds := by unfold findD rowP; rw [rd_sh, mapO_sh σ (rd_sh σ s RDN)]
      rw [this]
      cases findD s x ds <;> rfl
    | count =>
      show ((R.ofO (countD (shS σ s) (shD σ.n x) (shL σ.n ds)) (shS σ s)).bind fun j s => .ok (.int (j : Nat)) s : R D) = shR σ (shD σ.n) ((R.ofO (countD s x ds) s).bind fun j s => R.ok (D.int (j : Nat)) s)
      have : countD (shS σ s) (shD σ.n x) (shL σ.n ds) = countD s x ds := by unfold countD rowP; rw [rd_sh, mapO_sh σ (rd_sh σ s RDN)]
      rw [this]
      cases countD s x ds <;> rfl
    | _ => first | rfl | (cases x <;> rfl)
  | x :: y :: r => by
    cases m <;> first | rfl | (cases x <;> rfl) | (cases x <;> cases y <;> cases r <;> rfl)
theorem mtM_sh {m : Mt} {kvs : List (D × D)} : ∀ {as : List D}, mtM m (kvs.map (shK σ.n)) (shL σ.n as) (shS σ s) = shR σ (shD σ.n) (mtM m kvs as s)
  | [] => by cases m <;> rfl
  | [x] => by cases m <;> rfl
  | [k, d] => by
    cases m with
    | get =>
      show (match key (shD σ.n k) with
        | some p => R.ok ((dget p (kvs.map (shK σ.n))).getD (shD σ.n d)) (shS σ s)
        | none => R.bad) = shR σ (shD σ.n) (match key k with
        | some p => R.ok ((dget p kvs).getD d) s
        | none => R.bad)
      rw [key_sh]
      cases key k with
      | none => rfl
      | some p =>
        show R.ok ((dget p (kvs.map (shK σ.n))).getD (shD σ.n d)) (shS σ s) = _
        rw [dget_sh]
        cases e : dget p kvs <;> simp [shR, e]
    | _ => rfl
  | _ :: _ :: _ :: _ => by cases m <;> rfl
theorem mtD_sh (hg : GPure g) {m : Mt} {o : D} {as : List D} : mtD g m (shD σ.n o) (shL σ.n as) (shS σ s) = shR σ (shD σ.n) (mtD g m o as s) := by
  cases o with
  | gd k =>
    show mtM m (g k) (shL σ.n as) (shS σ s) = shR σ (shD σ.n) (mtM m (g k) as s)
    exact Eq.trans (congrArg (fun l => mtM m l (shL σ.n as) (shS σ s)) (hg k σ.n).symm) (mtM_sh σ)
  | ref a =>
    show (match (shS σ s).get (a + σ.n) with
    | some (.lst ds) => mtL m (a + σ.n) ds (shL σ.n as) (shS σ s)
    | some (.dct kvs) => mtM m kvs (shL σ.n as) (shS σ s)
    | _ => R.bad) = shR σ (shD σ.n) (match s.get a with
    | some (.lst ds) => mtL m a ds as s
    | some (.dct kvs) => mtM m kvs as s
    | _ => R.bad)
    rw [get_sh]
    cases s.get a with
    | none => rfl
    | some c => cases c with
      | lst ds => exact mtL_sh σ
      | dct kvs => exact mtM_sh σ
      | ins _ _ => rfl
  | _ => rfl
end
/-! ### sources -/
def shQ (n : Nat) : Src → Src
  | .fix ds => .fix (shL n ds)
  | .lv a => .lv (a + n)
  | .rv a m => .rv (a + n) m
  | .en q => .en (shQ n q)
  | .zp q r => .zp (shQ n q) (shQ n r)
def shQN (n : Nat) (p : Src × Nat) : Src × Nat := (shQ n p.1, p.2)
section
variable (σ : Sf)
theorem nxt_sh : ∀ (q : Src) (i : Nat) (s : Sto), nxt (shQ σ.n q) i (shS σ s) = (nxt q i s).map (Option.map (shD σ.n))
  | .fix ds, i, s => congrArg some (shL_get ds i)
  | .lv a, i, s => by
    show (match (shS σ s).get (a + σ.n) with
      | some (.lst ds) => some ds[i]?
      | _ => none) = Option.map _ (match s.get a with
      | some (.lst ds) => some ds[i]?
      | _ => none)
    rw [get_sh]
    cases s.get a with
    | none => rfl
    | some c => cases c with
      | lst ds => exact congrArg some (shL_get ds i)
      | _ => rfl
  | .rv a n, i, s => by
    show (match (shS σ s).get (a + σ.n) with
      | some (.lst ds) => cond (Nat.blt i n) (match ds[n - 1 - i]? with
        | some d => some (some d)
        | none => none) (some none)
      | _ => none) = Option.map _ (match s.get a with
      | some (.lst ds) => cond (Nat.blt i n) (match ds[n - 1 - i]? with
        | some d => some (some d)
        | none => none) (some none)
      | _ => none)
    rw [get_sh]
    cases s.get a with
    | none => rfl
    | some c => cases c with
      | lst ds =>
        show cond (Nat.blt i n) (match (shL σ.n ds)[n - 1 - i]? with
          | some d => some (some d)
          | none => none) (some none) = Option.map _ (cond (Nat.blt i n) (match ds[n - 1 - i]? with
          | some d => some (some d)
          | none => none) (some none))
        rw [shL_get]
        cases Nat.blt i n with
        | false => rfl
        | true => cases ds[n - 1 - i]? <;> rfl
      | _ => rfl
  | .en q, i, s => by
    have h := nxt_sh q i s
    show (match nxt (shQ σ.n q) i (shS σ s) with
      | some (some d) => some (some (D.tup [.int i, d]))
      | some none => some none
      | none => none) = Option.map _ (match nxt q i s with
      | some (some d) => some (some (D.tup [.int i, d]))
      | some none => some none
      | none => none)
    rw [h]
    cases nxt q i s with
    | none => rfl
    | some u => cases u <;> rfl
  | .zp q r, i, s => by
    have h := nxt_sh q i s
    have h2 := nxt_sh r i s
    unfold nxt
    rw [shQ.eq_def]
    show (match nxt (shQ σ.n q) i (shS σ s) with
      | some u => match nxt (shQ σ.n r) i (shS σ s) with
        | some v => some (match u with
          | some d => (match v with
            | some e => some (D.tup [d, e])
            | none => none)
          | none => none)
        | none => none
      | none => none) = _
    rw [h, h2]
    cases nxt q i s with
    | none => rfl
    | some u => cases nxt r i s with
      | none => rfl
      | some v => cases u <;> cases v <;> rfl
theorem srcOf_sh (s : Sto) (d : D) : srcOf (shS σ s) (shD σ.n d) = (srcOf s d).map (shQN σ.n) := by
  cases d with
  | tup ds => show some (Src.fix (shL σ.n ds), (shL σ.n ds).length) = _; rw [shL_len]; rfl
  | rol ds => show some (Src.fix (shL σ.n ds), (shL σ.n ds).length) = _; rw [shL_len]; rfl
  | ref a =>
    show (match (shS σ s).get (a + σ.n) with
      | some (.lst _) => some (Src.lv (a + σ.n), SZ)
      | _ => none) = Option.map _ (match s.get a with
      | some (.lst _) => some (Src.lv a, SZ)
      | _ => none)
    rw [get_sh]
    cases s.get a with
    | none => rfl
    | some c => cases c <;> rfl
  | _ => rfl
theorem srcL_sh (s : Sto) (d : D) : srcL (shS σ s) (shD σ.n d) = (srcL s d).map (shQN σ.n) := by
  cases d with
  | rol ds => show some (Src.fix (shL σ.n ds), (shL σ.n ds).length) = _; rw [shL_len]; rfl
  | ref a =>
    show (match (shS σ s).get (a + σ.n) with
      | some (.lst _) => some (Src.lv (a + σ.n), SZ)
      | _ => none) = Option.map _ (match s.get a with
      | some (.lst _) => some (Src.lv a, SZ)
      | _ => none)
    rw [get_sh]
    cases s.get a with
    | none => rfl
    | some c => cases c <;> rfl
  | _ => rfl
theorem srcE_sh (s : Sto) (d : D) : srcE (shS σ s) (shD σ.n d) = (srcE s d).map (shQN σ.n) := by
  have := srcL_sh σ s d
  cases d with
  | tup ds =>
    show some (Src.fix (shL σ.n ds), (shL σ.n ds).length) = _
    rw [shL_len]; rfl
  | _ => exact this
theorem srcZ_sh (s : Sto) (x y : D) : srcZ (shS σ s) (shD σ.n x) (shD σ.n y) = (srcZ s x y).map (shQN σ.n) := by
  unfold srcZ
  rw [srcL_sh, srcL_sh]
  cases srcL s x with
  | some p => cases srcL s y <;> rfl
  | none =>
    cases x with
    | tup ds => cases y with
      | tup es => show some (Src.zp (.fix (shL σ.n ds)) (.fix (shL σ.n es)), (shL σ.n ds).length) = _; rw [shL_len]; rfl
      | _ => rfl
    | _ => rfl
theorem srcR_sh (s : Sto) (d : D) : srcR (shS σ s) (shD σ.n d) = (srcR s d).map (shQN σ.n) := by
  cases d with
  | tup ds => show some (Src.fix (shL σ.n ds).reverse, (shL σ.n ds).reverse.length) = _; rw [shL_rev, shL_len]; rfl
  | ref a =>
    show (match (shS σ s).get (a + σ.n) with
      | some (.lst ds) => some (Src.rv (a + σ.n) ds.length, ds.length)
      | _ => none) = Option.map _ (match s.get a with
      | some (.lst ds) => some (Src.rv a ds.length, ds.length)
      | _ => none)
    rw [get_sh]
    cases s.get a with
    | none => rfl
    | some c => cases c with
      | lst ds => show some (Src.rv (a + σ.n) (shL σ.n ds).length, (shL σ.n ds).length) = _; rw [shL_len]; rfl
      | _ => rfl
  | _ => rfl
theorem rngD_sh (n : Nat) : ∀ (k : Nat) (lo : Int), shL n (rngD lo k) = rngD lo k
  | 0, _ => rfl
  | k + 1, lo => by rw [rngD, shL, rngD_sh n k]; rfl
theorem rngDn_sh (n : Nat) : ∀ (k : Nat) (lo : Int), shL n (rngDn lo k) = rngDn lo k
  | 0, _ => rfl
  | k + 1, lo => by rw [rngDn, shL, rngDn_sh n k]; rfl
theorem rngOf_sh : ∀ ds : List D, rngOf (shL σ.n ds) = (rngOf ds).map (shL σ.n)
  | [] => rfl
  | [a] => by
    cases a with
    | int n =>
      show cond (rngOk 0 n && Nat.ble n.toNat SZ) (some (rngD 0 n.toNat)) none = Option.map _ (cond (rngOk 0 n && Nat.ble n.toNat SZ) (some (rngD 0 n.toNat)) none)
      cases rngOk 0 n && Nat.ble n.toNat SZ with
      | false => rfl
      | true => exact congrArg some (rngD_sh σ.n _ _).symm
    | _ => rfl
  | [a, b] => by
    cases a with
    | int a => cases b with
      | int b =>
        show cond (rngOk a b && Nat.ble (b - a).toNat SZ) (some (rngD a (b - a).toNat)) none = Option.map _ (cond (rngOk a b && Nat.ble (b - a).toNat SZ) (some (rngD a (b - a).toNat)) none)
        cases rngOk a b && Nat.ble (b - a).toNat SZ with
        | false => rfl
        | true => exact congrArg some (rngD_sh σ.n _ _).symm
      | _ => rfl
    | _ => cases b <;> rfl
  | [a, b, c] => by
    cases a with
    | int a => cases b with
      | int b => cases c with
        | int c =>
          show cond (c == -1 && rngOk a b && Nat.ble (a - b).toNat SZ) (some (rngDn a (a - b).toNat)) none = Option.map _ (cond (c == -1 && rngOk a b && Nat.ble (a - b).toNat SZ) (some (rngDn a (a - b).toNat)) none)
          cases c == -1 && rngOk a b && Nat.ble (a - b).toNat SZ with
          | false => rfl
          | true => exact congrArg some (rngDn_sh σ.n _ _).symm
        | _ => rfl
      | _ => cases c <;> rfl
    | _ => cases b <;> cases c <;> rfl
  | a :: b :: c :: d :: r => by cases a <;> cases b <;> cases c <;> rfl
theorem allOf_sh (q : Src) (s : Sto) : ∀ (m i : Nat), allOf (shQ σ.n q) (shS σ s) i m = (allOf q s i m).map (shL σ.n)
  | m, i => by
    unfold allOf
    rw [nxt_sh]
    cases nxt q i s with
    | none => rfl
    | some u => cases u with
      | none => rfl
      | some d => cases m with
        | zero => rfl
        | succ m =>
          show (match allOf (shQ σ.n q) (shS σ s) (i + 1) m with
            | some ds => some (shD σ.n d :: ds)
            | none => none) = Option.map _ (match allOf q s (i + 1) m with
            | some ds => some (d :: ds)
            | none => none)
          rw [allOf_sh q s m (i + 1)]
          cases allOf q s (i + 1) m <;> rfl
theorem wipe_sh (n : Nat) (f : Fr) : ∀ w : List Nat, wipe (shF n f) w = shF n (wipe f w)
  | [] => rfl
  | w :: ws => by
    show (wipe (shF n f) ws).set w none = _
    rw [wipe_sh n f ws]
    show List.set ((wipe f ws).map (Option.map (shD n))) w none = ((wipe f ws).set w none).map (Option.map (shD n))
    rw [List.map_set]
    rfl
theorem set_sh (n : Nat) (f : Fr) (i : Nat) (d : D) : (shF n f).set i (some (shD n d)) = shF n (f.set i (some d)) := by
  show List.set (f.map (Option.map (shD n))) i _ = (f.set i (some d)).map (Option.map (shD n))
  rw [List.map_set]
  rfl
theorem setN_sh (n : Nat) (f : Fr) (i : Nat) : (shF n f).set i none = shF n (f.set i none) := by
  show List.set (f.map (Option.map (shD n))) i _ = (f.set i none).map (Option.map (shD n))
  rw [List.map_set]
  rfl
theorem fget_shF (n : Nat) (f : Fr) (i : Nat) : (shF n f)[i]? = f[i]?.map (Option.map (shD n)) := List.getElem?_map ..
theorem permD_sh (n : Nat) (ds : List D) : ∀ p : List Nat, permD (shL n ds) p = shL n (permD ds p)
  | [] => rfl
  | i :: is => by
    show ((shL n ds)[i]?).getD .non :: permD (shL n ds) is = shD n ((ds[i]?).getD .non) :: shL n (permD ds is)
    rw [permD_sh n ds is, shL_get]
    cases ds[i]? <;> rfl
theorem permA_sh (n : Nat) (ds : List D) (p : List Nat) : permA p (shL n ds) = shL n (permA p ds) := by
  cases p with
  | nil => rfl
  | cons i is => exact permD_sh n ds (i :: is)
theorem tru_sh {r : R D} : tru (shR σ (shD σ.n) r) = shR σ id (tru r) := by
  refine bind_sh σ fun d s => ?_
  rw [truth_sh]
  exact ofO_id σ
theorem loopC_sh {nx nx' : Nat → Sto → Option (Option D)} {b b' : D → Sto → R (Option D)} (hn : ∀ i s, nx' i (shS σ s) = (nx i s).map (Option.map (shD σ.n)))
    (hb : ∀ d s, b' (shD σ.n d) (shS σ s) = shR σ (Option.map (shD σ.n)) (b d s)) : ∀ (m i : Nat) (s : Sto), loopC nx' b' i m (shS σ s) = shR σ (shL σ.n) (loopC nx b i m s)
  | m, i, s => by
    unfold loopC
    rw [hn]
    cases nx i s with
    | none => rfl
    | some u => cases u with
      | none => rfl
      | some d => cases m with
        | zero => rfl
        | succ m =>
          show (b' (shD σ.n d) (shS σ s)).bind _ = _
          rw [hb]
          refine bind_sh σ fun x s1 => ?_
          rw [loopC_sh hn hb m (i + 1) s1]
          refine bind_sh σ fun xs s2 => ?_
          cases x <;> rfl
theorem loopC2_sh {nx nx' : Nat → Sto → Option (Option D)} {b b' : D → Sto → R (List D)} (hn : ∀ i s, nx' i (shS σ s) = (nx i s).map (Option.map (shD σ.n)))
    (hb : ∀ d s, b' (shD σ.n d) (shS σ s) = shR σ (shL σ.n) (b d s)) : ∀ (m i : Nat) (s : Sto), loopC2 nx' b' i m (shS σ s) = shR σ (shL σ.n) (loopC2 nx b i m s)
  | m, i, s => by
    unfold loopC2
    rw [hn]
    cases nx i s with
    | none => rfl
    | some u => cases u with
      | none => rfl
      | some d => cases m with
        | zero => rfl
        | succ m =>
          show (b' (shD σ.n d) (shS σ s)).bind _ = _
          rw [hb]
          refine bind_sh σ fun x s1 => ?_
          rw [loopC2_sh hn hb m (i + 1) s1]
          refine bind_sh σ fun xs s2 => ?_
          show R.ok (shL σ.n x ++ shL σ.n xs) (shS σ s2) = R.ok (shL σ.n (x ++ xs)) (shS σ s2)
          rw [shL_app]
theorem loopF_sh {nx nx' : Nat → Sto → Option (Option D)} {b b' : D → Fr → Sto → O} (hn : ∀ i s, nx' i (shS σ s) = (nx i s).map (Option.map (shD σ.n)))
    (hb : ∀ d f s, b' (shD σ.n d) (shF σ.n f) (shS σ s) = shO σ (b d f s)) : ∀ (m i : Nat) (f : Fr) (s : Sto), loopF nx' b' i m (shF σ.n f) (shS σ s) = shO σ (loopF nx b i m f s)
  | m, i, f, s => by
    unfold loopF
    rw [hn]
    cases nx i s with
    | none => rfl
    | some u => cases u with
      | none => rfl
      | some d => cases m with
        | zero => rfl
        | succ m =>
          show (match b' (shD σ.n d) (shF σ.n f) (shS σ s) with
            | .nx f' s' => loopF nx' b' (i + 1) m f' s'
            | .ct f' s' => loopF nx' b' (i + 1) m f' s'
            | .bk f' s' => .nx f' s'
            | o => o) = shO σ (match b d f s with
            | .nx f' s' => loopF nx b (i + 1) m f' s'
            | .ct f' s' => loopF nx b (i + 1) m f' s'
            | .bk f' s' => .nx f' s'
            | o => o)
          rw [hb]
          cases b d f s with
          | nx f' s' => exact loopF_sh hn hb m (i + 1) f' s'
          | ct f' s' => exact loopF_sh hn hb m (i + 1) f' s'
          | _ => rfl
end
end TR
set_option autoImplicit false
set_option linter.all false
set_option maxRecDepth 100000
/-! Shifted: runs. -/
namespace TR
open PySem (Str PyData)
structure SM (σ : Sf) (M : Sem) : Prop where
  call : ∀ n ds s, M.call n (shL σ.n ds) (shS σ s) = shR σ (shD σ.n) (M.call n ds s)
  wh : ∀ t t' b b' f s, (∀ f s, t' (shF σ.n f) (shS σ s) = shR σ id (t f s)) → (∀ f s, b' (shF σ.n f) (shS σ s) = shO σ (b f s)) → M.wh t' b' (shF σ.n f) (shS σ s) = shO σ (M.wh t b f s)
  con : ∀ n, shD σ.n (M.T.con n) = M.T.con n
  gdc : GPure M.T.gdc
section
variable {σ : Sf} {M : Sem} (G : SM σ M)
include G
mutual
theorem ev_sh : ∀ (e : E) (f : Fr) (s : Sto), ev M e (shF σ.n f) (shS σ s) = shR σ (shD σ.n) (ev M e f s)
  | .v i, f, s => by
    show (match (shF σ.n f)[i]? with
      | some (some d) => R.ok d (shS σ s)
      | _ => R.bad) = shR σ (shD σ.n) (match f[i]? with
      | some (some d) => R.ok d s
      | _ => R.bad)
    rw [fget_shF]
    cases f[i]? with
    | none => rfl
    | some u => cases u <;> rfl
  | .c k, f, s => by cases k <;> rfl
  | .g n, f, s => by
    show R.ok (M.T.con n) (shS σ s) = R.ok (shD σ.n (M.T.con n)) (shS σ s)
    rw [G.con]
  | .gdr n, f, s => rfl
  | .f n, f, s => rfl
  | .tup es, f, s => by
    show (evs M es (shF σ.n f) (shS σ s)).bind _ = _
    rw [evs_sh es f s]
    exact bind_sh σ fun _ _ => rfl
  | .lst es, f, s => by
    show (evs M es (shF σ.n f) (shS σ s)).bind _ = _
    rw [evs_sh es f s]
    exact bind_sh σ fun ds _ => newOk_sh σ (c := .lst ds)
  | .op o a b, f, s => by
    show (ev M a (shF σ.n f) (shS σ s)).bind _ = _
    rw [ev_sh a f s]
    refine bind_sh σ fun x s => ?_
    rw [ev_sh b f s]
    exact bind_sh σ fun y s => opD_sh σ
  | .neg a, f, s => by
    show (ev M a (shF σ.n f) (shS σ s)).bind _ = _
    rw [ev_sh a f s]
    exact bind_sh σ fun x s => by cases x <;> rfl
  | .not a, f, s => by
    show (tru (ev M a (shF σ.n f) (shS σ s))).bind _ = _
    rw [ev_sh a f s, tru_sh]
    exact bind_sh σ fun x s => rfl
  | .and a b, f, s => by
    show (ev M a (shF σ.n f) (shS σ s)).bind _ = _
    rw [ev_sh a f s]
    refine bind_sh σ fun x s => ?_
    rw [truth_sh, ofO_id]
    refine bind_sh σ fun c s => ?_
    exact cond_sh σ (ev_sh b f s) rfl
  | .or a b, f, s => by
    show (ev M a (shF σ.n f) (shS σ s)).bind _ = _
    rw [ev_sh a f s]
    refine bind_sh σ fun x s => ?_
    rw [truth_sh, ofO_id]
    refine bind_sh σ fun c s => ?_
    exact cond_sh σ rfl (ev_sh b f s)
  | .cmp o a b, f, s => by
    show (ev M a (shF σ.n f) (shS σ s)).bind _ = _
    rw [ev_sh a f s]
    refine bind_sh σ fun x s => ?_
    rw [ev_sh b f s]
    exact bind_sh σ fun y s => cmD_sh σ
  | .chain o p a b c, f, s => by
    show (ev M a (shF σ.n f) (shS σ s)).bind _ = _
    rw [ev_sh a f s]
    refine bind_sh σ fun x s => ?_
    rw [ev_sh b f s]
    refine bind_sh σ fun y s => ?_
    rw [cmD_sh, tru_sh]
    refine bind_sh σ fun t s => ?_
    refine cond_sh σ ?_ rfl
    rw [ev_sh c f s]
    exact bind_sh σ fun z s => cmD_sh σ
  | .isN a, f, s => by
    show (ev M a (shF σ.n f) (shS σ s)).bind _ = _
    rw [ev_sh a f s]
    exact bind_sh σ fun x s => by rw [isNone_sh]; rfl
  | .isNN a, f, s => by
    show (ev M a (shF σ.n f) (shS σ s)).bind _ = _
    rw [ev_sh a f s]
    exact bind_sh σ fun x s => by rw [isNone_sh]; rfl
  | .ite c a b, f, s => by
    show (tru (ev M c (shF σ.n f) (shS σ s))).bind _ = _
    rw [ev_sh c f s, tru_sh]
    exact bind_sh σ fun x s => cond_sh σ (ev_sh a f s) (ev_sh b f s)
  | .ix a i, f, s => by
    show (ev M a (shF σ.n f) (shS σ s)).bind _ = _
    rw [ev_sh a f s]
    refine bind_sh σ fun x s => ?_
    rw [ev_sh i f s]
    exact bind_sh σ fun y s => ixD_sh σ G.gdc
  | .sl a lo hi, f, s => by
    show (ev M a (shF σ.n f) (shS σ s)).bind _ = _
    rw [ev_sh a f s]
    refine bind_sh σ fun x s => ?_
    rw [evo_sh lo f s]
    refine bind_sh σ fun l s => ?_
    rw [evo_sh hi f s]
    exact bind_sh σ fun y s => slD_sh σ
  | .rev a, f, s => by
    show (ev M a (shF σ.n f) (shS σ s)).bind _ = _
    rw [ev_sh a f s]
    exact bind_sh σ fun x s => revD_sh σ
  | .call n p es, f, s => by
    show (evs M es (shF σ.n f) (shS σ s)).bind _ = _
    rw [evs_sh es f s]
    exact bind_sh σ fun ds s => by rw [permA_sh, G.call]
  | .calv x es, f, s => by
    show (match (shF σ.n f)[x]? with
      | some (some (.fn n)) => (evs M es (shF σ.n f) (shS σ s)).bind fun ds s => M.call n ds s
      | _ => R.bad) = shR σ (shD σ.n) (match f[x]? with
      | some (some (.fn n)) => (evs M es f s).bind fun ds s => M.call n ds s
      | _ => R.bad)
    rw [fget_shF]
    cases f[x]? with
    | none => rfl
    | some u => cases u with
      | none => rfl
      | some d => cases d with
        | fn n =>
          show (evs M es (shF σ.n f) (shS σ s)).bind _ = _
          rw [evs_sh es f s]
          exact bind_sh σ fun ds s => G.call _ _ _
        | _ => rfl
  | .b1 b a, f, s => by
    show (ev M a (shF σ.n f) (shS σ s)).bind _ = _
    rw [ev_sh a f s]
    exact bind_sh σ fun x s => b1V_sh σ
  | .bq b q, f, s => by
    show (evq M q (shF σ.n f) (shS σ s)).bind _ = _
    rw [evq_sh q f s]
    exact bind_sh σ fun x s => b1D_sh σ
  | .dic es, f, s => by
    show (evs M es (shF σ.n f) (shS σ s)).bind _ = _
    rw [evs_sh es f s]
    exact bind_sh σ fun ds s => by rw [pairUp_sh]; exact b1D_sh σ
  | .bi b es, f, s => by
    show (evs M es (shF σ.n f) (shS σ s)).bind _ = _
    rw [evs_sh es f s]
    exact bind_sh σ fun ds s => biD_sh σ
  | .isa ts a, f, s => by
    show (ev M a (shF σ.n f) (shS σ s)).bind _ = _
    rw [ev_sh a f s]
    refine bind_sh σ fun x s => ?_
    rw [isaAny_sh, ofO_id]
    exact bind_sh σ fun b s => rfl
  | .isv a, f, s => by
    show (ev M a (shF σ.n f) (shS σ s)).bind _ = _
    rw [ev_sh a f s]
    exact bind_sh σ fun x s => by cases x <;> rfl
  | .mt m o es, f, s => by
    show (ev M o (shF σ.n f) (shS σ s)).bind _ = _
    rw [ev_sh o f s]
    refine bind_sh σ fun x s => ?_
    rw [kindD_sh]
    refine cond_sh σ ?_ rfl
    rw [evs_sh es f s]
    refine bind_sh σ fun ds s2 => ?_
    rw [kindD_sh]
    exact cond_sh σ (mtD_sh σ G.gdc) rfl
  | .at o n, f, s => by
    show (ev M o (shF σ.n f) (shS σ s)).bind _ = _
    rw [ev_sh o f s]
    refine bind_sh σ fun x s => ?_
    cases x with
    | ref a =>
      show (match (shS σ s).get (a + σ.n) with
        | some (.ins _ fs) => R.ofO (fget n fs) (shS σ s)
        | _ => R.bad) = shR σ (shD σ.n) (match s.get a with
        | some (.ins _ fs) => R.ofO (fget n fs) s
        | _ => R.bad)
      rw [get_sh]
      cases s.get a with
      | none => rfl
      | some c => cases c with
        | ins c fs => exact (congrArg (fun o => R.ofO o (shS σ s)) (fget_sh n fs)).trans (ofO_sh σ)
        | _ => rfl
    | _ => rfl
  | .new c es, f, s => by
    show (evs M es (shF σ.n f) (shS σ s)).bind _ = _
    rw [evs_sh es f s]
    refine bind_sh σ fun ds s => ?_
    show (M.call (M.T.ini c) (shL σ.n (.ref s.next :: ds)) ((shS σ s).new (shC σ.n (.ins c [])))).bind _ = _
    rw [new_sh, G.call]
    exact bind_sh σ fun _ _ => rfl
  | .own o c m es, f, s => by
    show (ev M o (shF σ.n f) (shS σ s)).bind _ = _
    rw [ev_sh o f s]
    refine bind_sh σ fun x s => ?_
    cases x with
    | ref a =>
      show (match (shS σ s).get (a + σ.n) with
        | some (.ins c' _) => cond (Nat.beq c' c) ((evs M es (shF σ.n f) (shS σ s)).bind fun ds s => M.call m (.ref (a + σ.n) :: ds) s) R.bad
        | _ => R.bad) = shR σ (shD σ.n) (match s.get a with
        | some (.ins c' _) => cond (Nat.beq c' c) ((evs M es f s).bind fun ds s => M.call m (.ref a :: ds) s) R.bad
        | _ => R.bad)
      rw [get_sh]
      cases s.get a with
      | none => rfl
      | some cc => cases cc with
        | ins c' fs =>
          refine cond_sh σ ?_ rfl
          rw [evs_sh es f s]
          exact bind_sh σ fun ds s => G.call m (.ref a :: ds) s
        | _ => rfl
    | _ => rfl
  | .no, f, s => rfl
  | .comp q, f, s => by
    show (evq M q (shF σ.n f) (shS σ s)).bind _ = _
    rw [evq_sh q f s]
    exact bind_sh σ fun ds s => newOk_sh σ (c := .lst ds)
theorem evs_sh : ∀ (es : List E) (f : Fr) (s : Sto), evs M es (shF σ.n f) (shS σ s) = shR σ (shL σ.n) (evs M es f s)
  | [], f, s => rfl
  | e :: es, f, s => by
    show (ev M e (shF σ.n f) (shS σ s)).bind _ = _
    rw [ev_sh e f s]
    refine bind_sh σ fun x s => ?_
    rw [evs_sh es f s]
    exact bind_sh σ fun _ _ => rfl
theorem evo_sh : ∀ (e : Option E) (f : Fr) (s : Sto), evo M e (shF σ.n f) (shS σ s) = shR σ id (evo M e f s)
  | none, f, s => rfl
  | some e, f, s => by
    show (ev M e (shF σ.n f) (shS σ s)).bind _ = _
    rw [ev_sh e f s]
    exact bind_sh σ fun x s => by cases x <;> rfl
theorem evt_sh : ∀ (es : List E) (f : Fr) (s : Sto), evt M es (shF σ.n f) (shS σ s) = shR σ id (evt M es f s)
  | [], f, s => rfl
  | e :: es, f, s => by
    show (tru (ev M e (shF σ.n f) (shS σ s))).bind _ = _
    rw [ev_sh e f s, tru_sh]
    exact bind_sh σ fun x s => cond_sh σ (evt_sh es f s) rfl
theorem evq_sh : ∀ (q : Sq) (f : Fr) (s : Sto), evq M q (shF σ.n f) (shS σ s) = shR σ (shL σ.n) (evq M q f s)
  | .comp x t w i cs, f, s => by
    show (evi M i (shF σ.n f) (shS σ s)).bind _ = _
    rw [evi_sh i f s]
    refine bind_sh σ fun p s => ?_
    refine loopC_sh σ (nxt_sh σ p.1) (fun d s => ?_) p.2 0 s
    rw [wipe_sh, asg_sh t d _ s]
    refine bind_sh σ fun g s => ?_
    rw [evt_sh cs g s, nox_sh]
    refine bind_sh σ fun b s => ?_
    refine cond_sh σ ?_ rfl
    rw [ev_sh x g s, nox_sh]
    exact bind_sh σ fun _ _ => rfl
  | .comp2 x t w i t2 w2 i2 cs, f, s => by
    show (evi M i (shF σ.n f) (shS σ s)).bind _ = _
    rw [evi_sh i f s]
    refine bind_sh σ fun p s => ?_
    refine (congrArg (fun r => R.bind r _) (loopC2_sh σ (nxt_sh σ p.1) (fun d s => ?_) p.2 0 s)).trans (bind_sh σ fun xs s => ?_)
    · show (asg M t (shD σ.n d) (wipe (shF σ.n f) w) (shS σ s)).bind _ = _
      rw [wipe_sh, asg_sh t d _ s]
      refine bind_sh σ fun g s => ?_
      rw [evi_sh i2 g s, nox_sh]
      refine bind_sh σ fun p2 s => ?_
      refine loopC_sh σ (nxt_sh σ p2.1) (fun d2 s => ?_) p2.2 0 s
      rw [wipe_sh, asg_sh t2 d2 _ s]
      refine bind_sh σ fun g2 s => ?_
      rw [evt_sh cs g2 s, nox_sh]
      refine bind_sh σ fun b s => ?_
      refine cond_sh σ ?_ rfl
      rw [ev_sh x g2 s, nox_sh]
      exact bind_sh σ fun _ _ => rfl
    · show finC (shL σ.n xs) (shS σ s) = shR σ (shL σ.n) (finC xs s)
      unfold finC
      rw [shL_len]
      exact cond_sh σ rfl rfl
  | .compR x t w i cs, f, s => by
    show (evi M i (shF σ.n f) (shS σ s)).bind _ = _
    rw [evi_sh i f s]
    refine bind_sh σ fun p s => ?_
    refine loopC_sh σ (nxt_sh σ p.1) (fun d s => ?_) p.2 0 s
    rw [wipe_sh, asg_sh t d _ s]
    refine bind_sh σ fun g s => ?_
    rw [evt_sh cs g s, nox_sh]
    refine bind_sh σ fun b s => ?_
    refine cond_sh σ ?_ rfl
    rw [ev_sh x g s]
    exact bind_sh σ fun _ _ => rfl
  | .it i, f, s => by
    show (evi M i (shF σ.n f) (shS σ s)).bind _ = _
    rw [evi_sh i f s]
    refine bind_sh σ fun p s => ?_
    exact (congrArg (fun o => R.ofO o (shS σ s)) (allOf_sh σ p.1 s p.2 0)).trans (ofO_sh σ)
theorem evi_sh : ∀ (i : It) (f : Fr) (s : Sto), evi M i (shF σ.n f) (shS σ s) = shR σ (shQN σ.n) (evi M i f s)
  | .seq a, f, s => by
    show (ev M a (shF σ.n f) (shS σ s)).bind _ = _
    rw [ev_sh a f s]
    refine bind_sh σ fun x s => ?_
    rw [srcOf_sh]
    exact ofO_sh σ
  | .rng es, f, s => by
    show (evs M es (shF σ.n f) (shS σ s)).bind _ = _
    rw [evs_sh es f s]
    refine bind_sh σ fun ds s => ?_
    show (match rngOf (shL σ.n ds) with
      | some r => R.ok (Src.fix r, r.length) (shS σ s)
      | none => R.bad) = shR σ (shQN σ.n) (match rngOf ds with
      | some r => R.ok (Src.fix r, r.length) s
      | none => R.bad)
    rw [rngOf_sh]
    cases rngOf ds with
    | none => rfl
    | some r => show R.ok (Src.fix (shL σ.n r), (shL σ.n r).length) (shS σ s) = _; rw [shL_len]; rfl
  | .enum a, f, s => by
    show (ev M a (shF σ.n f) (shS σ s)).bind _ = _
    rw [ev_sh a f s]
    refine bind_sh σ fun x s => ?_
    rw [srcE_sh, ofO_sh]
    exact bind_sh σ fun _ _ => rfl
  | .zip a b, f, s => by
    show (ev M a (shF σ.n f) (shS σ s)).bind _ = _
    rw [ev_sh a f s]
    refine bind_sh σ fun x s => ?_
    rw [ev_sh b f s]
    refine bind_sh σ fun y s => ?_
    rw [srcZ_sh]
    exact ofO_sh σ
  | .rvs a, f, s => by
    show (ev M a (shF σ.n f) (shS σ s)).bind _ = _
    rw [ev_sh a f s]
    refine bind_sh σ fun x s => ?_
    rw [srcR_sh]
    exact ofO_sh σ
  | .items _, f, s => rfl
theorem asg_sh : ∀ (t : Tg) (d : D) (f : Fr) (s : Sto), asg M t (shD σ.n d) (shF σ.n f) (shS σ s) = shR σ (shF σ.n) (asg M t d f s)
  | .n i, d, f, s => by
    show R.ok ((shF σ.n f).set i (some (shD σ.n d))) (shS σ s) = _
    rw [set_sh]
    rfl
  | .t ts, d, f, s => by
    show (match rowOf (shS σ s) (shD σ.n d) with
      | some ds => cond (Nat.beq ds.length ts.length) (asgs M ts ds (shF σ.n f) (shS σ s)) R.bad
      | none => R.bad) = shR σ (shF σ.n) (match rowOf s d with
      | some ds => cond (Nat.beq ds.length ts.length) (asgs M ts ds f s) R.bad
      | none => R.bad)
    rw [rowOf_sh]
    cases rowOf s d with
    | none => rfl
    | some ds =>
      show cond (Nat.beq (shL σ.n ds).length ts.length) (asgs M ts (shL σ.n ds) (shF σ.n f) (shS σ s)) R.bad = _
      rw [shL_len]
      exact cond_sh σ (asgs_sh ts ds f s) rfl
  | .a o n, d, f, s => by
    show (R.nox (ev M o (shF σ.n f) (shS σ s))).bind _ = _
    rw [ev_sh o f s, nox_sh]
    refine bind_sh σ fun x s => ?_
    cases x with
    | ref a =>
      show (match (shS σ s).get (a + σ.n) with
        | some (.ins c fs) => R.ok (shF σ.n f) ((shS σ s).put (a + σ.n) (.ins c (fput n (shD σ.n d) fs)))
        | _ => R.bad) = shR σ (shF σ.n) (match s.get a with
        | some (.ins c fs) => R.ok f (s.put a (.ins c (fput n d fs)))
        | _ => R.bad)
      rw [get_sh]
      cases s.get a with
      | none => rfl
      | some cc => cases cc with
        | ins c fs =>
          show R.ok (shF σ.n f) ((shS σ s).put (a + σ.n) (.ins c (fput n (shD σ.n d) (fs.map fun p => (p.1, shD σ.n p.2))))) = _
          rw [fput_sh]
          rfl
        | _ => rfl
    | _ => rfl
  | .s o i, d, f, s => by
    show (R.nox (ev M o (shF σ.n f) (shS σ s))).bind _ = _
    rw [ev_sh o f s, nox_sh]
    refine bind_sh σ fun x s => ?_
    rw [ev_sh i f s, nox_sh]
    refine bind_sh σ fun y s => ?_
    rw [stD_sh]
    exact bind_sh σ fun _ _ => rfl
theorem asgs_sh : ∀ (ts : List Tg) (ds : List D) (f : Fr) (s : Sto), asgs M ts (shL σ.n ds) (shF σ.n f) (shS σ s) = shR σ (shF σ.n) (asgs M ts ds f s)
  | [], [], f, s => rfl
  | [], _ :: _, f, s => rfl
  | _ :: _, [], f, s => rfl
  | t :: ts, d :: ds, f, s => by
    show (asg M t (shD σ.n d) (shF σ.n f) (shS σ s)).bind _ = _
    rw [asg_sh t d f s]
    exact bind_sh σ fun f s => asgs_sh ts ds f s
end
mutual
theorem xc_sh : ∀ (c : S) (f : Fr) (s : Sto), xc M c (shF σ.n f) (shS σ s) = shO σ (xc M c f s)
  | .asg t e, f, s => by
    show ofR (shF σ.n f) (ev M e (shF σ.n f) (shS σ s)) _ = _
    rw [ev_sh G e f s]
    refine ofR_sh σ fun d s => ?_
    rw [asg_sh G t d f s]
    exact ofR_sh σ fun _ _ => rfl
  | .par ts es, f, s => by
    show ofR (shF σ.n f) (evs M es (shF σ.n f) (shS σ s)) _ = _
    rw [evs_sh G es f s]
    refine ofR_sh σ fun d s => ?_
    rw [asgs_sh G ts d f s]
    exact ofR_sh σ fun _ _ => rfl
  | .aug o i e, f, s => by
    show (match (shF σ.n f)[i]? with
      | some (some x) => ofR (shF σ.n f) (ev M e (shF σ.n f) (shS σ s)) fun y s => ofR (shF σ.n f) (augD o x y s) fun z s => .nx ((shF σ.n f).set i (some z)) s
      | _ => .bad) = shO σ (match f[i]? with
      | some (some x) => ofR f (ev M e f s) fun y s => ofR f (augD o x y s) fun z s => .nx (f.set i (some z)) s
      | _ => .bad)
    rw [fget_shF]
    cases f[i]? with
    | none => rfl
    | some u => cases u with
      | none => rfl
      | some x =>
        show ofR (shF σ.n f) (ev M e (shF σ.n f) (shS σ s)) (fun y s => ofR (shF σ.n f) (augD o (shD σ.n x) y s) fun z s => .nx ((shF σ.n f).set i (some z)) s) = _
        rw [ev_sh G e f s]
        refine ofR_sh σ fun y s => ?_
        rw [augD_sh]
        refine ofR_sh σ fun z s => ?_
        rw [set_sh]
        rfl
  | .augs o a i e, f, s => by
    show ofR (shF σ.n f) (ev M a (shF σ.n f) (shS σ s)) _ = _
    rw [ev_sh G a f s]
    refine ofR_sh σ fun x s => ?_
    rw [ev_sh G i f s]
    refine ofR_sh σ fun y s => ?_
    rw [ixD_sh σ G.gdc]
    refine ofR_sh σ fun z s => ?_
    rw [ev_sh G e f s]
    refine ofR_sh σ fun w s => ?_
    rw [augD_sh]
    refine ofR_sh σ fun u s => ?_
    rw [stD_sh]
    exact ofR_sh σ fun _ _ => rfl
  | .ex e, f, s => by
    show ofR (shF σ.n f) (ev M e (shF σ.n f) (shS σ s)) _ = _
    rw [ev_sh G e f s]
    exact ofR_sh σ fun _ _ => rfl
  | .ite c a b, f, s => by
    show ofR (shF σ.n f) (tru (ev M c (shF σ.n f) (shS σ s))) _ = _
    rw [ev_sh G c f s, tru_sh]
    exact ofR_sh σ fun t s => condO_sh σ (xcs_sh a f s) (xcs_sh b f s)
  | .wh c b, f, s => by
    refine G.wh _ _ _ _ f s (fun f s => ?_) fun f s => xcs_sh b f s
    show tru (ev M c (shF σ.n f) (shS σ s)) = _
    rw [ev_sh G c f s, tru_sh]
  | .fr t i b, f, s => by
    show ofR (shF σ.n f) (evi M i (shF σ.n f) (shS σ s)) _ = _
    rw [evi_sh G i f s]
    refine ofR_sh σ fun p s => ?_
    refine loopF_sh σ (nxt_sh σ p.1) (fun d f s => ?_) p.2 0 f s
    rw [asg_sh G t d f s]
    exact ofR_sh σ fun f s => xcs_sh b f s
  | .ret e, f, s => by
    show ofR (shF σ.n f) (ev M e (shF σ.n f) (shS σ s)) _ = _
    rw [ev_sh G e f s]
    exact ofR_sh σ fun _ _ => rfl
  | .retN, f, s => rfl
  | .rai c es, f, s => by
    show ofR (shF σ.n f) (evs M es (shF σ.n f) (shS σ s)) _ = _
    rw [evs_sh G es f s]
    exact ofR_sh σ fun _ _ => rfl
  | .tr b hs, f, s => by
    show (match xcs M b (shF σ.n f) (shS σ s) with
      | .ex e f' s' => xh M hs e f' s'
      | o => o) = shO σ (match xcs M b f s with
      | .ex e f' s' => xh M hs e f' s'
      | o => o)
    rw [xcs_sh b f s]
    cases xcs M b f s with
    | ex e f' s' => exact xh_sh hs e f' s'
    | _ => rfl
  | .pass, f, s => rfl
  | .brk, f, s => rfl
  | .cont, f, s => rfl
  | .no, f, s => rfl
theorem xcs_sh : ∀ (cs : List S) (f : Fr) (s : Sto), xcs M cs (shF σ.n f) (shS σ s) = shO σ (xcs M cs f s)
  | [], f, s => rfl
  | c :: r, f, s => by
    show (match xc M c (shF σ.n f) (shS σ s) with
      | .nx f' s' => xcs M r f' s'
      | o => o) = shO σ (match xc M c f s with
      | .nx f' s' => xcs M r f' s'
      | o => o)
    rw [xc_sh c f s]
    cases xc M c f s with
    | nx f' s' => exact xcs_sh r f' s'
    | _ => rfl
theorem xh_sh : ∀ (hs : List (Nat × Option Nat × List S)) (e : Er) (f : Fr) (s : Sto), xh M hs ⟨e.cls, shL σ.n e.args⟩ (shF σ.n f) (shS σ s) = shO σ (xh M hs e f s)
  | [], e, f, s => rfl
  | (c, v, b) :: r, e, f, s => by
    refine condO_sh σ ?_ (xh_sh r e f s)
    cases v with
    | none => exact xcs_sh b f s
    | some i =>
      show (match xcs M b ((shF σ.n f).set i (some (shD σ.n (.ex c)))) (shS σ s) with
        | .nx f' s' => .nx (f'.set i none) s'
        | .bk f' s' => .bk (f'.set i none) s'
        | .ct f' s' => .ct (f'.set i none) s'
        | o => o) = shO σ (match xcs M b (f.set i (some (.ex c))) s with
        | .nx f' s' => .nx (f'.set i none) s'
        | .bk f' s' => .bk (f'.set i none) s'
        | .ct f' s' => .ct (f'.set i none) s'
        | o => o)
      rw [set_sh, xcs_sh b (f.set i (some (.ex c))) s]
      cases xcs M b (f.set i (some (.ex c))) s with
      | nx f' s' => exact congrArg (fun g => O.nx g (shS σ s')) (setN_sh σ.n f' i)
      | bk f' s' => exact congrArg (fun g => O.bk g (shS σ s')) (setN_sh σ.n f' i)
      | ct f' s' => exact congrArg (fun g => O.ct g (shS σ s')) (setN_sh σ.n f' i)
      | _ => rfl
end
end
def WSh (wh : WOp) : Prop := ∀ (σ : Sf) t t' b b' f s, (∀ f s, t' (shF σ.n f) (shS σ s) = shR σ id (t f s)) → (∀ f s, b' (shF σ.n f) (shS σ s) = shO σ (b f s)) → wh t' b' (shF σ.n f) (shS σ s) = shO σ (wh t b f s)
theorem fresh_sh (σ : Sf) {s s' : Sto} : fresh (shS σ s) (shS σ s') = fresh s s' := by
  show ((s'.log.map (shE σ.n) ++ σ.old).take ((s'.log.map (shE σ.n) ++ σ.old).length - (s.log.map (shE σ.n) ++ σ.old).length)).all (fun e => Nat.ble (s.next + σ.n) e.1) = _
  have e1 : (s'.log.map (shE σ.n) ++ σ.old).length - (s.log.map (shE σ.n) ++ σ.old).length = s'.log.length - s.log.length := by
    simp only [List.length_append, List.length_map]
    omega
  rw [e1, List.take_append_of_le_length (by rw [List.length_map]; omega), ← List.map_take, List.all_map]
  unfold fresh
  congr 1
  funext e
  show Nat.ble (s.next + σ.n) (e.1 + σ.n) = Nat.ble s.next e.1
  cases h : Nat.ble s.next e.1 with
  | true => exact Nat.ble_eq_true_of_le (Nat.add_le_add_right (Nat.le_of_ble_eq_true h) _)
  | false =>
    cases h2 : Nat.ble (s.next + σ.n) (e.1 + σ.n) with
    | false => rfl
    | true => rw [Nat.ble_eq_true_of_le (Nat.le_of_add_le_add_right (Nat.le_of_ble_eq_true h2))] at h; exact h.symm ▸ rfl
theorem gc_sh (σ : Sf) {d : Bool} {s s' : Sto} : gc d (shS σ s) (shS σ s') = shS σ (gc d s s') := by
  unfold gc
  rw [fresh_sh]
  cases d && fresh s s' <;> rfl
theorem fin_sh (σ : Sf) {s : Sto} {o : O} : fin (shS σ s) (shO σ o) = shR σ (shD σ.n) (fin s o) := by
  cases o with
  | nx f s' => show R.ok D.non (gc true (shS σ s) (shS σ s')) = _; rw [gc_sh]; rfl
  | rt d s' => show R.ok (shD σ.n d) (gc (pure1 (shD σ.n d)) (shS σ s) (shS σ s')) = _; rw [gc_sh, pure1_sh]; rfl
  | ex e f s' => show R.ex ⟨e.cls, shL σ.n e.args⟩ (gc (pureL (shL σ.n e.args)) (shS σ s) (shS σ s')) = _; rw [gc_sh, pureL_sh]; rfl
  | _ => rfl
theorem Phi_sh (σ : Sf) {T : Tab} {wh : WOp} (hw : WSh wh) (hc : ∀ n, shD σ.n (T.con n) = T.con n) (hg : GPure T.gdc) : ∀ (k n : Nat) (ds : List D) (s : Sto),
    Phi T wh k n (shL σ.n ds) (shS σ s) = shR σ (shD σ.n) (Phi T wh k n ds s)
  | 0, _, _, _ => rfl
  | k + 1, n, ds, s => by
    show (match T.fn n with
      | none => R.bad
      | some c => cond (Nat.beq (shL σ.n ds).length c.np) (fin (shS σ s) (xcs ⟨T, Phi T wh k, wh⟩ c.body ((shL σ.n ds).map some ++ List.replicate (c.nl - c.np) none) (shS σ s))) R.bad) = shR σ (shD σ.n) (match T.fn n with
      | none => R.bad
      | some c => cond (Nat.beq ds.length c.np) (fin s (xcs ⟨T, Phi T wh k, wh⟩ c.body (ds.map some ++ List.replicate (c.nl - c.np) none) s)) R.bad)
    cases T.fn n with
    | none => rfl
    | some c =>
      show cond (Nat.beq (shL σ.n ds).length c.np) (fin (shS σ s) (xcs ⟨T, Phi T wh k, wh⟩ c.body ((shL σ.n ds).map some ++ List.replicate (c.nl - c.np) none) (shS σ s))) R.bad = _
      rw [shL_len]
      refine cond_sh σ ?_ rfl
      have e : (shL σ.n ds).map some ++ List.replicate (c.nl - c.np) none = shF σ.n (ds.map some ++ List.replicate (c.nl - c.np) none) := by
        unfold shF
        rw [List.map_append, List.map_replicate, shL_map, List.map_map, List.map_map]
        rfl
      rw [e, xcs_sh (M := ⟨T, Phi T wh k, wh⟩) ⟨Phi_sh σ hw hc hg k, hw σ, hc, hg⟩]
      exact fin_sh σ
theorem whN_sh : ∀ n : Nat, WSh (whN n)
  | 0 => fun _ _ _ _ _ _ _ _ _ => rfl
  | n + 1 => fun σ t t' b b' f s ht hb => by
    show (match t' (shF σ.n f) (shS σ s) with
      | .ok true s1 => (match b' (shF σ.n f) s1 with
        | .nx f' s' => whN n t' b' f' s'
        | .ct f' s' => whN n t' b' f' s'
        | .bk f' s' => .nx f' s'
        | o => o)
      | .ok false s1 => .nx (shF σ.n f) s1
      | .ex e s1 => .ex e (shF σ.n f) s1
      | .bad => .bad) = shO σ (match t f s with
      | .ok true s1 => (match b f s1 with
        | .nx f' s' => whN n t b f' s'
        | .ct f' s' => whN n t b f' s'
        | .bk f' s' => .nx f' s'
        | o => o)
      | .ok false s1 => .nx f s1
      | .ex e s1 => .ex e f s1
      | .bad => .bad)
    rw [ht]
    cases t f s with
    | ok u s1 =>
      cases u with
      | true =>
        show (match b' (shF σ.n f) (shS σ s1) with
          | .nx f' s' => whN n t' b' f' s'
          | .ct f' s' => whN n t' b' f' s'
          | .bk f' s' => .nx f' s'
          | o => o) = shO σ (match b f s1 with
          | .nx f' s' => whN n t b f' s'
          | .ct f' s' => whN n t b f' s'
          | .bk f' s' => .nx f' s'
          | o => o)
        rw [hb]
        cases b f s1 with
        | nx f' s' => exact whN_sh n σ t t' b b' f' s' ht hb
        | ct f' s' => exact whN_sh n σ t t' b b' f' s' ht hb
        | _ => rfl
      | false => rfl
    | ex e s1 => rfl
    | bad => rfl
/-- every old cell lies below what comes next -/
def Low (s : Sto) : Prop := ∀ e ∈ s.log, e.1 < s.next
def sfOf (s : Sto) (h : Low s) : Sf := ⟨s.next, s.log, h⟩
theorem sfOf_s0 (s : Sto) (h : Low s) : shS (sfOf s h) ⟨0, []⟩ = s := by
  show Sto.mk (0 + s.next) (([] : List (Nat × Cell)).map _ ++ s.log) = s
  rw [Nat.zero_add]
  rfl
/-- A call that gives in the empty store a value that holds no cell and leaves no store gives it in each store. -/
theorem Phi_any {T : Tab} {wh : WOp} (hw : WSh wh) (hc : ∀ n, pure1 (T.con n) = true) (hg : GPure T.gdc) {k n : Nat} {ds : List D} {d : D} (hp : pureL ds = true) (hd : pure1 d = true)
    (h : Phi T wh k n ds ⟨0, []⟩ = .ok d ⟨0, []⟩) (s : Sto) (hs : Low s) : Phi T wh k n ds s = .ok d s := by
  have := Phi_sh (sfOf s hs) hw (fun n => sh_pure _ (hc n)) hg k n ds ⟨0, []⟩
  rw [sfOf_s0, h, shL_pure _ hp] at this
  rw [this]
  show R.ok (shD _ d) (shS (sfOf s hs) ⟨0, []⟩) = _
  rw [sfOf_s0, sh_pure _ hd]
end TR
namespace TR
theorem bd0 : BindP t_plain_is_number := fun _ _ _ _ _ _ us hl => match us, hl with
  | [_], _ => rfl
theorem bd1 : BindP t_plain_is_within := fun _ _ _ _ _ _ us hl => match us, hl with
  | [_, _, _], _ => rfl
theorem bd2 : BindP t_plain_is_long := fun _ _ _ _ _ _ us hl => match us, hl with
  | [_, _], _ => rfl
theorem bd3 : BindP t_plain_are_numbers := fun _ _ _ _ _ _ us hl => match us, hl with
  | [_], _ => rfl
theorem bd4 : BindP t_plain_is_set := fun _ _ _ _ _ _ us hl => match us, hl with
  | [_], _ => rfl
theorem bd5 : BindP t_plain_tupled := fun _ _ _ _ _ _ us hl => match us, hl with
  | [_], _ => rfl
theorem bd6 : BindP t_plain_common := fun _ _ _ _ _ _ us hl => match us, hl with
  | [_, _], _ => rfl
theorem bd7 : BindP t_tables_is_table_in := fun _ _ _ _ _ _ us hl => match us, hl with
  | [_], _ => rfl
theorem bd8 : BindP t_tables_sure_table := fun _ _ _ _ _ _ us hl => match us, hl with
  | [_], _ => rfl
theorem bd9 : BindP t_tables_back_in := fun _ _ _ _ _ _ us hl => match us, hl with
  | [_], _ => rfl
theorem bd10 : BindP t_tables_put_on := fun _ _ _ _ _ _ us hl => match us, hl with
  | [_, _, _], _ => rfl
theorem bd11 : BindP t_tables_joined_in := fun _ _ _ _ _ _ us hl => match us, hl with
  | [_, _], _ => rfl
theorem bd12 : BindP t_tables_slide_word := fun _ _ _ _ _ _ us hl => match us, hl with
  | [_], _ => rfl
theorem bd13 : BindP t_tables_word_in := fun _ _ _ _ _ _ us hl => match us, hl with
  | [_, _], _ => rfl
theorem bd14 : BindP t_tables_table_in := fun _ _ _ _ _ _ us hl => match us, hl with
  | [_], _ => rfl
theorem bd15 : BindP t_tables_whole_of := fun _ _ _ _ _ _ us hl => match us, hl with
  | [_, _], _ => rfl
theorem bd16 : BindP t_turnwords_steps_of := fun _ _ _ _ _ _ us hl => match us, hl with
  | [_], _ => rfl
theorem bd17 : BindP t_nets_is_net_in := fun _ _ _ _ _ _ us hl => match us, hl with
  | [_], _ => rfl
theorem bd18 : BindP t_nets_is_tie_in := fun _ _ _ _ _ _ us hl => match us, hl with
  | [_, _], _ => rfl
theorem bd19 : BindP t_nets_sure_net := fun _ _ _ _ _ _ us hl => match us, hl with
  | [_], _ => rfl
theorem bd20 : BindP t_nets_spelled_in := fun _ _ _ _ _ _ us hl => match us, hl with
  | [_], _ => rfl
theorem bd21 : BindP t_noughts_goal_in := fun _ _ _ _ _ _ us hl => match us, hl with
  | [_], _ => rfl
theorem bd22 : BindP t_noughts_least_in := fun _ _ _ _ _ _ us hl => match us, hl with
  | [_, _], _ => rfl
theorem bd23 : BindP t_noughts_are_triples := fun _ _ _ _ _ _ us hl => match us, hl with
  | [_, _, _], _ => rfl
theorem bd24 : BindP t_alone_sure_some := fun _ _ _ _ _ _ us hl => match us, hl with
  | [_], _ => rfl
theorem bd25 : BindP t_alone_parting_in := fun _ _ _ _ _ _ us hl => match us, hl with
  | [_, _, _], _ => rfl
theorem bd26 : BindP t_alone_first_pairs := fun _ _ _ _ _ _ us hl => match us, hl with
  | [_], _ => rfl
theorem bd27 : BindP t_alone_rows_of_road := fun _ _ _ _ _ _ us hl => match us, hl with
  | [_, _, _], _ => rfl
theorem bd28 : BindP t_alone_two_rows_in := fun _ _ _ _ _ _ us hl => match us, hl with
  | [_], _ => rfl
theorem bd29 : BindP t_alone_is_alone_in := fun _ _ _ _ _ _ us hl => match us, hl with
  | [_], _ => rfl
theorem bd30 : BindP t_alone_holds_bar := fun _ _ _ _ _ _ us hl => match us, hl with
  | [_, _, _], _ => rfl
theorem bd31 : BindP t_alone_least_bar := fun _ _ _ _ _ _ us hl => match us, hl with
  | [_], _ => rfl
theorem bd32 : BindP t_alone_signed := fun _ _ _ _ _ _ us hl => match us, hl with
  | [_], _ => rfl
theorem bd33 : BindP t_alone_undone_place := fun _ _ _ _ _ _ us hl => match us, hl with
  | [_], _ => rfl
theorem bd34 : BindP t_alone_free_in := fun _ _ _ _ _ _ us hl => match us, hl with
  | [_], _ => rfl
theorem bd35 : BindP t_alone_undoing_in := fun _ _ _ _ _ _ us hl => match us, hl with
  | [_], _ => rfl
theorem bd36 : BindP t_alone_are_alone := fun _ _ _ _ _ _ us hl => match us, hl with
  | [_], _ => rfl
theorem bd37 : BindP t_alone_two_rows := fun _ _ _ _ _ _ us hl => match us, hl with
  | [_], _ => rfl
theorem bd38 : BindP t_alone_are_two_rows := fun _ _ _ _ _ _ us hl => match us, hl with
  | [_, _], _ => rfl
theorem bd39 : BindP t_alone_parting_net := fun _ _ _ _ _ _ us hl => match us, hl with
  | [_, _, _], _ => rfl
theorem bd40 : BindP t_alone_alone_paper := fun _ _ _ _ _ _ us hl => match us, hl with
  | [_], _ => rfl
theorem bd41 : BindP t_alone_is_alone_paper := fun _ _ _ _ _ _ us hl => match us, hl with
  | [_, _], _ => rfl
theorem bd42 : BindP t_alone_are_free := fun _ _ _ _ _ _ us hl => match us, hl with
  | [_], _ => rfl
theorem bd43 : BindP t_alone_free_net := fun _ _ _ _ _ _ us hl => match us, hl with
  | [_], _ => rfl
theorem bd44 : BindP t_alone_undoing_row := fun _ _ _ _ _ _ us hl => match us, hl with
  | [_], _ => rfl
theorem bd45 : BindP t_alone_is_undoing_row := fun _ _ _ _ _ _ us hl => match us, hl with
  | [_, _], _ => rfl
theorem bd46 : BindP t_alone_free_paper := fun _ _ _ _ _ _ us hl => match us, hl with
  | [_], _ => rfl
theorem bd47 : BindP t_alone_is_free_paper := fun _ _ _ _ _ _ us hl => match us, hl with
  | [_, _], _ => rfl
theorem bd48 : BindP t_alone_rows_making := fun _ _ _ _ _ _ us hl => match us, hl with
  | [_, _, _], _ => rfl
theorem bd49 : BindP t_plainnets_least_rows := fun _ _ _ _ _ _ us hl => match us, hl with
  | [_], _ => rfl
theorem bd50 : BindP t_plainnets_plain_in := fun _ _ _ _ _ _ us hl => match us, hl with
  | [_], _ => rfl
theorem bd51 : BindP t_plainnets_rounds_in := fun _ _ _ _ _ _ us hl => match us, hl with
  | [_], _ => rfl
theorem bd52 : BindP t_pairs_sure_two := fun _ _ _ _ _ _ us hl => match us, hl with
  | [_], _ => rfl
theorem bd53 : BindP t_pairs_sure_truth := fun _ _ _ _ _ _ us hl => match us, hl with
  | [_], _ => rfl
theorem bd54 : BindP t_pairs_made_plain := fun _ _ _ _ _ _ us hl => match us, hl with
  | [_], _ => rfl
theorem bd55 : BindP t_pairs_pair_word := fun _ _ _ _ _ _ us hl => match us, hl with
  | [_], _ => rfl
theorem bd56 : BindP t_pairs_lead_in := fun _ _ _ _ _ _ us hl => match us, hl with
  | [_, _, _, _], _ => rfl
theorem bd57 : BindP t_pairs_divisors_of := fun _ _ _ _ _ _ us hl => match us, hl with
  | [_, _], _ => rfl
theorem bd58 : BindP t_pairs_leads_in := fun _ _ _ _ _ _ us hl => match us, hl with
  | [_, _, _, _], _ => rfl
theorem bd59 : BindP t_pairs_pair_by := fun _ _ _ _ _ _ us hl => match us, hl with
  | [_, _], _ => rfl
theorem bd60 : BindP t_pairs_both_rows := fun _ _ _ _ _ _ us hl => match us, hl with
  | [_, _], _ => rfl
theorem bd61 : BindP t_pairs_begun_in := fun _ _ _ _ _ _ us hl => match us, hl with
  | [_, _], _ => rfl
theorem bd62 : BindP t_pairs_ended_well := fun _ _ _ _ _ _ us hl => match us, hl with
  | [_], _ => rfl
theorem bd63 : BindP t_pairs_pairs_in := fun _ _ _ _ _ _ us hl => match us, hl with
  | [_, _], _ => rfl
theorem bd64 : BindP t_pairs_does_lead := fun _ _ _ _ _ _ us hl => match us, hl with
  | [_, _, _, _], _ => rfl
theorem bd65 : BindP t_pairs_leading_road := fun _ _ _ _ _ _ us hl => match us, hl with
  | [_, _, _, _], _ => rfl
theorem bd66 : BindP t_pairs_is_leading_road := fun _ _ _ _ _ _ us hl => match us, hl with
  | [_, _, _, _, _], _ => rfl
theorem bd67 : BindP t_pairs_lead_net := fun _ _ _ _ _ _ us hl => match us, hl with
  | [_, _, _, _], _ => rfl
theorem bd68 : BindP t_pairs_lead_paper := fun _ _ _ _ _ _ us hl => match us, hl with
  | [_, _, _, _], _ => rfl
theorem bd69 : BindP t_pairs_is_lead_paper := fun _ _ _ _ _ _ us hl => match us, hl with
  | [_, _, _, _, _], _ => rfl
theorem bd70 : BindP t_pairs_pair_table := fun _ _ _ _ _ _ us hl => match us, hl with
  | [_], _ => rfl
theorem bd71 : BindP t_pairs_leaders_plain := fun _ _ _ _ _ _ us hl => match us, hl with
  | [_, _, _, _], _ => rfl
theorem bd72 : BindP t_pairs_are_few_pairs := fun _ _ _ _ _ _ us hl => match us, hl with
  | [_, _], _ => rfl
theorem bd73 : BindP t_pairs_pairs_led := fun _ _ _ _ _ _ us hl => match us, hl with
  | [_, _], _ => rfl
theorem bd74 : BindP t_k55__law_box := fun _ _ _ _ _ _ us hl => match us, hl with
  | [_, _], _ => rfl
theorem bd75 : BindP t_k55__law_take := fun _ _ _ _ _ _ us hl => match us, hl with
  | [_, _], _ => rfl
theorem bd76 : BindP t_k55__law_cells := fun _ _ _ _ _ _ us hl => match us, hl with
  | [_, _], _ => rfl
theorem bd77 : BindP t_k55__law_pick := fun _ _ _ _ _ _ us hl => match us, hl with
  | [_, _, _], _ => rfl
theorem bd78 : BindP t_k55__law_same := fun _ _ _ _ _ _ us hl => match us, hl with
  | [_, _], _ => rfl
theorem bd79 : BindP t_k55__law_unmarked := fun _ _ _ _ _ _ us hl => match us, hl with
  | [_], _ => rfl
theorem bd80 : BindP t_k55__law_call := fun _ _ _ _ _ _ us hl => match us, hl with
  | [_, _], _ => rfl
theorem bd81 : BindP t_k55__law_none_fits := fun _ _ _ _ _ _ us hl => match us, hl with
  | [_, _], _ => rfl
theorem bd82 : BindP t_k55__law_heard := fun _ _ _ _ _ _ us hl => match us, hl with
  | [_, _], _ => rfl
theorem bd83 : BindP t_k55__law_places := fun _ _ _ _ _ _ us hl => match us, hl with
  | [], _ => rfl
theorem bd84 : BindP t_k55_law := fun _ _ _ _ _ _ us hl => match us, hl with
  | [_], _ => rfl
theorem lawBd : ∀ p ∈ lawL, BindP p.2 := (List.forall_mem_cons.2 ⟨bd0, (List.forall_mem_cons.2 ⟨bd1, (List.forall_mem_cons.2 ⟨bd2, (List.forall_mem_cons.2 ⟨bd3, (List.forall_mem_cons.2 ⟨bd4, (List.forall_mem_cons.2 ⟨bd5, (List.forall_mem_cons.2 ⟨bd6, (List.forall_mem_cons.2 ⟨bd7, (List.forall_mem_cons.2 ⟨bd8, (List.forall_mem_cons.2 ⟨bd9, (List.forall_mem_cons.2 ⟨bd10, (List.forall_mem_cons.2 ⟨bd11, (List.forall_mem_cons.2 ⟨bd12, (List.forall_mem_cons.2 ⟨bd13, (List.forall_mem_cons.2 ⟨bd14, (List.forall_mem_cons.2 ⟨bd15, (List.forall_mem_cons.2 ⟨bd16, (List.forall_mem_cons.2 ⟨bd17, (List.forall_mem_cons.2 ⟨bd18, (List.forall_mem_cons.2 ⟨bd19, (List.forall_mem_cons.2 ⟨bd20, (List.forall_mem_cons.2 ⟨bd21, (List.forall_mem_cons.2 ⟨bd22, (List.forall_mem_cons.2 ⟨bd23, (List.forall_mem_cons.2 ⟨bd24, (List.forall_mem_cons.2 ⟨bd25, (List.forall_mem_cons.2 ⟨bd26, (List.forall_mem_cons.2 ⟨bd27, (List.forall_mem_cons.2 ⟨bd28, (List.forall_mem_cons.2 ⟨bd29, (List.forall_mem_cons.2 ⟨bd30, (List.forall_mem_cons.2 ⟨bd31, (List.forall_mem_cons.2 ⟨bd32, (List.forall_mem_cons.2 ⟨bd33, (List.forall_mem_cons.2 ⟨bd34, (List.forall_mem_cons.2 ⟨bd35, (List.forall_mem_cons.2 ⟨bd36, (List.forall_mem_cons.2 ⟨bd37, (List.forall_mem_cons.2 ⟨bd38, (List.forall_mem_cons.2 ⟨bd39, (List.forall_mem_cons.2 ⟨bd40, (List.forall_mem_cons.2 ⟨bd41, (List.forall_mem_cons.2 ⟨bd42, (List.forall_mem_cons.2 ⟨bd43, (List.forall_mem_cons.2 ⟨bd44, (List.forall_mem_cons.2 ⟨bd45, (List.forall_mem_cons.2 ⟨bd46, (List.forall_mem_cons.2 ⟨bd47, (List.forall_mem_cons.2 ⟨bd48, (List.forall_mem_cons.2 ⟨bd49, (List.forall_mem_cons.2 ⟨bd50, (List.forall_mem_cons.2 ⟨bd51, (List.forall_mem_cons.2 ⟨bd52, (List.forall_mem_cons.2 ⟨bd53, (List.forall_mem_cons.2 ⟨bd54, (List.forall_mem_cons.2 ⟨bd55, (List.forall_mem_cons.2 ⟨bd56, (List.forall_mem_cons.2 ⟨bd57, (List.forall_mem_cons.2 ⟨bd58, (List.forall_mem_cons.2 ⟨bd59, (List.forall_mem_cons.2 ⟨bd60, (List.forall_mem_cons.2 ⟨bd61, (List.forall_mem_cons.2 ⟨bd62, (List.forall_mem_cons.2 ⟨bd63, (List.forall_mem_cons.2 ⟨bd64, (List.forall_mem_cons.2 ⟨bd65, (List.forall_mem_cons.2 ⟨bd66, (List.forall_mem_cons.2 ⟨bd67, (List.forall_mem_cons.2 ⟨bd68, (List.forall_mem_cons.2 ⟨bd69, (List.forall_mem_cons.2 ⟨bd70, (List.forall_mem_cons.2 ⟨bd71, (List.forall_mem_cons.2 ⟨bd72, (List.forall_mem_cons.2 ⟨bd73, (List.forall_mem_cons.2 ⟨bd74, (List.forall_mem_cons.2 ⟨bd75, (List.forall_mem_cons.2 ⟨bd76, (List.forall_mem_cons.2 ⟨bd77, (List.forall_mem_cons.2 ⟨bd78, (List.forall_mem_cons.2 ⟨bd79, (List.forall_mem_cons.2 ⟨bd80, (List.forall_mem_cons.2 ⟨bd81, (List.forall_mem_cons.2 ⟨bd82, (List.forall_mem_cons.2 ⟨bd83, (List.forall_mem_cons.2 ⟨bd84, (fun _ h => nomatch h)⟩)⟩)⟩)⟩)⟩)⟩)⟩)⟩)⟩)⟩)⟩)⟩)⟩)⟩)⟩)⟩)⟩)⟩)⟩)⟩)⟩)⟩)⟩)⟩)⟩)⟩)⟩)⟩)⟩)⟩)⟩)⟩)⟩)⟩)⟩)⟩)⟩)⟩)⟩)⟩)⟩)⟩)⟩)⟩)⟩)⟩)⟩)⟩)⟩)⟩)⟩)⟩)⟩)⟩)⟩)⟩)⟩)⟩)⟩)⟩)⟩)⟩)⟩)⟩)⟩)⟩)⟩)⟩)⟩)⟩)⟩)⟩)⟩)⟩)⟩)⟩)⟩)⟩)⟩)⟩)⟩)⟩)⟩)⟩)⟩)
theorem lawBk : ∀ p ∈ lawL, ∀ q ∈ lawKw p.1, BindK p.2 q := (List.forall_mem_cons.2 ⟨(fun _ h => nomatch h), (List.forall_mem_cons.2 ⟨(fun _ h => nomatch h), (List.forall_mem_cons.2 ⟨(fun _ h => nomatch h), (List.forall_mem_cons.2 ⟨(fun _ h => nomatch h), (List.forall_mem_cons.2 ⟨(fun _ h => nomatch h), (List.forall_mem_cons.2 ⟨(fun _ h => nomatch h), (List.forall_mem_cons.2 ⟨(fun _ h => nomatch h), (List.forall_mem_cons.2 ⟨(fun _ h => nomatch h), (List.forall_mem_cons.2 ⟨(fun _ h => nomatch h), (List.forall_mem_cons.2 ⟨(fun _ h => nomatch h), (List.forall_mem_cons.2 ⟨(fun _ h => nomatch h), (List.forall_mem_cons.2 ⟨(fun _ h => nomatch h), (List.forall_mem_cons.2 ⟨(fun _ h => nomatch h), (List.forall_mem_cons.2 ⟨(fun _ h => nomatch h), (List.forall_mem_cons.2 ⟨(fun _ h => nomatch h), (List.forall_mem_cons.2 ⟨(fun _ h => nomatch h), (List.forall_mem_cons.2 ⟨(fun _ h => nomatch h), (List.forall_mem_cons.2 ⟨(fun _ h => nomatch h), (List.forall_mem_cons.2 ⟨(fun _ h => nomatch h), (List.forall_mem_cons.2 ⟨(fun _ h => nomatch h), (List.forall_mem_cons.2 ⟨(fun _ h => nomatch h), (List.forall_mem_cons.2 ⟨(fun _ h => nomatch h), (List.forall_mem_cons.2 ⟨(fun _ h => nomatch h), (List.forall_mem_cons.2 ⟨(fun _ h => nomatch h), (List.forall_mem_cons.2 ⟨(fun _ h => nomatch h), (List.forall_mem_cons.2 ⟨(fun _ h => nomatch h), (List.forall_mem_cons.2 ⟨(fun _ h => nomatch h), (List.forall_mem_cons.2 ⟨(fun _ h => nomatch h), (List.forall_mem_cons.2 ⟨(fun _ h => nomatch h), (List.forall_mem_cons.2 ⟨(fun _ h => nomatch h), (List.forall_mem_cons.2 ⟨(fun _ h => nomatch h), (List.forall_mem_cons.2 ⟨(fun _ h => nomatch h), (List.forall_mem_cons.2 ⟨(fun _ h => nomatch h), (List.forall_mem_cons.2 ⟨(fun _ h => nomatch h), (List.forall_mem_cons.2 ⟨(fun _ h => nomatch h), (List.forall_mem_cons.2 ⟨(fun _ h => nomatch h), (List.forall_mem_cons.2 ⟨(fun _ h => nomatch h), (List.forall_mem_cons.2 ⟨(fun _ h => nomatch h), (List.forall_mem_cons.2 ⟨(fun _ h => nomatch h), (List.forall_mem_cons.2 ⟨(fun _ h => nomatch h), (List.forall_mem_cons.2 ⟨(fun _ h => nomatch h), (List.forall_mem_cons.2 ⟨(fun _ h => nomatch h), (List.forall_mem_cons.2 ⟨(fun _ h => nomatch h), (List.forall_mem_cons.2 ⟨(fun _ h => nomatch h), (List.forall_mem_cons.2 ⟨(fun _ h => nomatch h), (List.forall_mem_cons.2 ⟨(fun _ h => nomatch h), (List.forall_mem_cons.2 ⟨(fun _ h => nomatch h), (List.forall_mem_cons.2 ⟨(fun _ h => nomatch h), (List.forall_mem_cons.2 ⟨(fun _ h => nomatch h), (List.forall_mem_cons.2 ⟨(fun _ h => nomatch h), (List.forall_mem_cons.2 ⟨(fun _ h => nomatch h), (List.forall_mem_cons.2 ⟨(fun _ h => nomatch h), (List.forall_mem_cons.2 ⟨(fun _ h => nomatch h), (List.forall_mem_cons.2 ⟨(fun _ h => nomatch h), (List.forall_mem_cons.2 ⟨(fun _ h => nomatch h), (List.forall_mem_cons.2 ⟨(fun _ h => nomatch h), (List.forall_mem_cons.2 ⟨(fun _ h => nomatch h), (List.forall_mem_cons.2 ⟨(fun _ h => nomatch h), (List.forall_mem_cons.2 ⟨(fun _ h => nomatch h), (List.forall_mem_cons.2 ⟨(fun _ h => nomatch h), (List.forall_mem_cons.2 ⟨(fun _ h => nomatch h), (List.forall_mem_cons.2 ⟨(fun _ h => nomatch h), (List.forall_mem_cons.2 ⟨(fun _ h => nomatch h), (List.forall_mem_cons.2 ⟨(fun _ h => nomatch h), (List.forall_mem_cons.2 ⟨(fun _ h => nomatch h), (List.forall_mem_cons.2 ⟨(fun _ h => nomatch h), (List.forall_mem_cons.2 ⟨(fun _ h => nomatch h), (List.forall_mem_cons.2 ⟨(fun _ h => nomatch h), (List.forall_mem_cons.2 ⟨(fun _ h => nomatch h), (List.forall_mem_cons.2 ⟨(fun _ h => nomatch h), (List.forall_mem_cons.2 ⟨(fun _ h => nomatch h), (List.forall_mem_cons.2 ⟨(fun _ h => nomatch h), (List.forall_mem_cons.2 ⟨(fun _ h => nomatch h), (List.forall_mem_cons.2 ⟨(fun _ h => nomatch h), (List.forall_mem_cons.2 ⟨(fun _ h => nomatch h), (List.forall_mem_cons.2 ⟨(fun _ h => nomatch h), (List.forall_mem_cons.2 ⟨(fun _ h => nomatch h), (List.forall_mem_cons.2 ⟨(fun _ h => nomatch h), (List.forall_mem_cons.2 ⟨(fun _ h => nomatch h), (List.forall_mem_cons.2 ⟨(fun _ h => nomatch h), (List.forall_mem_cons.2 ⟨(fun _ h => nomatch h), (List.forall_mem_cons.2 ⟨(fun _ h => nomatch h), (List.forall_mem_cons.2 ⟨(fun _ h => nomatch h), (List.forall_mem_cons.2 ⟨(fun _ h => nomatch h), (List.forall_mem_cons.2 ⟨(fun _ h => nomatch h), (fun _ h => nomatch h)⟩)⟩)⟩)⟩)⟩)⟩)⟩)⟩)⟩)⟩)⟩)⟩)⟩)⟩)⟩)⟩)⟩)⟩)⟩)⟩)⟩)⟩)⟩)⟩)⟩)⟩)⟩)⟩)⟩)⟩)⟩)⟩)⟩)⟩)⟩)⟩)⟩)⟩)⟩)⟩)⟩)⟩)⟩)⟩)⟩)⟩)⟩)⟩)⟩)⟩)⟩)⟩)⟩)⟩)⟩)⟩)⟩)⟩)⟩)⟩)⟩)⟩)⟩)⟩)⟩)⟩)⟩)⟩)⟩)⟩)⟩)⟩)⟩)⟩)⟩)⟩)⟩)⟩)⟩)⟩)⟩)⟩)⟩)⟩)⟩)
def lawFnB : Bool := lawL.all fun p => scopeB p.2 && chkFn lawGl lawKw p.2
end TR
set_option autoImplicit false
set_option linter.all false
set_option maxRecDepth 100000
/-! Plain facts about the tree of fractions. -/
namespace TR.K55
def F : List Bool → Int × Int
  | [] => (1, 1)
  | true :: r => ((F r).1 + (F r).2, (F r).2)
  | false :: r => ((F r).1, (F r).1 + (F r).2)
theorem F_pos : ∀ r : List Bool, 1 ≤ (F r).1 ∧ 1 ≤ (F r).2
  | [] => ⟨Int.le_refl _, Int.le_refl _⟩
  | true :: r => by have := F_pos r; simp only [F]; omega
  | false :: r => by have := F_pos r; simp only [F]; omega
theorem F_len : ∀ r : List Bool, (r.length : Int) + 2 ≤ (F r).1 + (F r).2
  | [] => by simp [F]
  | true :: r => by have := F_len r; have := F_pos r; simp only [F, List.length_cons]; omega
  | false :: r => by have := F_len r; have := F_pos r; simp only [F, List.length_cons]; omega
theorem F_bound : ∀ r : List Bool, (F r).1 + (F r).2 ≤ 2 ^ (r.length + 1)
  | [] => by simp [F]
  | true :: r => by have := F_bound r; have := F_pos r; simp only [F, List.length_cons]; rw [Int.pow_succ]; omega
  | false :: r => by have := F_bound r; have := F_pos r; simp only [F, List.length_cons]; rw [Int.pow_succ]; omega
theorem F_ex : ∀ (n : Nat) (h l : Int), 1 ≤ h → 1 ≤ l → h + l ≤ n → ∃ b g, 1 ≤ g ∧ h = g * (F b).1 ∧ l = g * (F b).2
  | 0, h, l, h1, h2, h3 => by omega
  | n + 1, h, l, h1, h2, h3 => by
    rcases Int.lt_trichotomy h l with e | e | e
    · obtain ⟨b, g, h4, h5, h6⟩ := F_ex n h (l - h) h1 (by omega) (by omega)
      exact ⟨false :: b, g, h4, h5, by simp only [F]; rw [Int.mul_add, ← h5, ← h6]; omega⟩
    · exact ⟨[], h, h1, by simp [F], by simp [F, e]⟩
    · obtain ⟨b, g, h4, h5, h6⟩ := F_ex n (h - l) l (by omega) h2 (by omega)
      exact ⟨true :: b, g, h4, by simp only [F]; rw [Int.mul_add, ← h5, ← h6]; omega, h6⟩
structure T4 where
  a : Int
  b : Int
  c : Int
  d : Int
def st (t : T4) (x : Bool) : T4 := cond x ⟨t.a, t.a + t.b, t.c, t.c + t.d⟩ ⟨t.a + t.b, t.b, t.c + t.d, t.d⟩
def tbl (t : T4) (r : List Bool) : T4 := r.foldl st t
def t1 : T4 := ⟨1, 0, 0, 1⟩
structure T4.ok (t : T4) : Prop where
  a : 1 ≤ t.a
  b : 0 ≤ t.b
  c : 0 ≤ t.c
  d : 1 ≤ t.d
  det : t.a * t.d - t.b * t.c = 1
theorem t1_ok : t1.ok := ⟨by decide, by decide, by decide, by decide, by decide⟩
theorem st_ok {t : T4} (h : t.ok) (x : Bool) : (st t x).ok := by
  obtain ⟨h1, h2, h3, h4, h5⟩ := h
  cases x
  · exact ⟨by show 1 ≤ t.a + t.b; omega, h2, by show 0 ≤ t.c + t.d; omega, h4, by show (t.a + t.b) * t.d - t.b * (t.c + t.d) = 1; grind⟩
  · exact ⟨h1, by show 0 ≤ t.a + t.b; omega, h3, by show 1 ≤ t.c + t.d; omega, by show t.a * (t.c + t.d) - (t.a + t.b) * t.c = 1; grind⟩
theorem tbl_ok {t : T4} (h : t.ok) : ∀ r : List Bool, (tbl t r).ok := by
  intro r
  induction r generalizing t with
  | nil => exact h
  | cons x r ih => exact ih (st_ok h x)
theorem tbl_F : ∀ (r : List Bool) (t : T4), (tbl t r).a + (tbl t r).b = t.a * (F r).1 + t.b * (F r).2 ∧ (tbl t r).c + (tbl t r).d = t.c * (F r).1 + t.d * (F r).2
  | [], t => by simp [F, tbl]
  | true :: r, t => by
    obtain ⟨h1, h2⟩ := tbl_F r (st t true)
    show (tbl (st t true) r).a + (tbl (st t true) r).b = _ ∧ (tbl (st t true) r).c + (tbl (st t true) r).d = _
    rw [h1, h2]
    simp only [st, F, cond_true]
    constructor <;> grind
  | false :: r, t => by
    obtain ⟨h1, h2⟩ := tbl_F r (st t false)
    show (tbl (st t false) r).a + (tbl (st t false) r).b = _ ∧ (tbl (st t false) r).c + (tbl (st t false) r).d = _
    rw [h1, h2]
    simp only [st, F, cond_false]
    constructor <;> grind
theorem tbl_append (t : T4) (p q : List Bool) : tbl t (p ++ q) = tbl (tbl t p) q := by unfold tbl; rw [List.foldl_append]
theorem F_tbl (r : List Bool) : F r = ((tbl t1 r).a + (tbl t1 r).b, (tbl t1 r).c + (tbl t1 r).d) := by
  obtain ⟨h1, h2⟩ := tbl_F r t1
  have e1 : t1.a = 1 := rfl
  have e2 : t1.b = 0 := rfl
  have e3 : t1.c = 0 := rfl
  have e4 : t1.d = 1 := rfl
  rw [e1, e2] at h1
  rw [e3, e4] at h2
  rw [h1, h2]
  simp
/-! quotients -/
def G : List Int → Int × Int
  | [] => (1, 0)
  | x :: r => (x * (G r).1 + (G r).2, (G r).1)
def okq : List Int → Prop
  | [] => False
  | [x] => 2 ≤ x
  | x :: y :: r => 1 ≤ x ∧ okq (y :: r)
/-- what Euclid's way needs -/
def gq : List Int → Prop
  | [] => True
  | x :: r => gq r ∧ 0 ≤ (G r).2 ∧ (G r).2 < (G r).1
theorem okq_gq : ∀ r : List Int, okq r → gq r ∧ 0 < (G r).2 ∧ (G r).2 < (G r).1
  | [], h => h.elim
  | [x], h => by
    have h : 2 ≤ x := h
    refine ⟨⟨trivial, by simp [G], by simp [G]⟩, by simp [G], ?_⟩
    simp only [G]; omega
  | x :: y :: r, h => by
    obtain ⟨h1, h2⟩ : 1 ≤ x ∧ okq (y :: r) := h
    obtain ⟨h3, h4, h5⟩ := okq_gq (y :: r) h2
    refine ⟨⟨h3, Int.le_of_lt h4, h5⟩, ?_, ?_⟩
    · show 0 < (G (y :: r)).1; omega
    · show (G (y :: r)).1 < x * (G (y :: r)).1 + (G (y :: r)).2
      have : (G (y :: r)).1 ≤ x * (G (y :: r)).1 := by
        have := Int.mul_le_mul_of_nonneg_right h1 (by omega : 0 ≤ (G (y :: r)).1)
        omega
      omega
/-- QUOTIENTS -/
def vq (q : List Int) : Prop := (∃ x, q = [x] ∧ 1 ≤ x) ∨ ∃ x r, q = x :: r ∧ 0 ≤ x ∧ okq r
theorem vq_gq {q : List Int} (h : vq q) : gq q := by
  rcases h with ⟨x, rfl, h⟩ | ⟨x, r, rfl, h, k⟩
  · exact ⟨trivial, by simp [G], by simp [G]⟩
  · have := okq_gq r k
    exact ⟨this.1, by omega, this.2.2⟩
theorem okq_up : ∀ {x : Int} {r : List Int}, okq (x :: r) → okq ((x + 1) :: r)
  | x, [], h => by have h : 2 ≤ x := h; show 2 ≤ x + 1; omega
  | x, y :: r, ⟨h, k⟩ => ⟨by omega, k⟩
theorem FQ : ∀ b : List Bool, ∃ q, vq q ∧ G q = F b ∧ q.sum = (b.length : Int) + 1
  | [] => ⟨[1], .inl ⟨1, rfl, by decide⟩, by simp [G, F], by simp⟩
  | true :: b => by
    obtain ⟨q, hv, hg, hs⟩ := FQ b
    rcases hv with ⟨x, rfl, h⟩ | ⟨x, r, rfl, h, k⟩
    · refine ⟨[x + 1], .inl ⟨x + 1, rfl, by omega⟩, ?_, ?_⟩
      · simp only [G, F] at hg ⊢; rw [← hg]; simp
      · simp at hs ⊢; omega
    · refine ⟨(x + 1) :: r, .inr ⟨x + 1, r, rfl, by omega, k⟩, ?_, ?_⟩
      · simp only [G, F] at hg ⊢; rw [← hg]; simp only [Prod.mk.injEq]; constructor <;> grind
      · simp only [List.sum_cons, List.length_cons] at hs ⊢; omega
  | false :: b => by
    obtain ⟨q, hv, hg, hs⟩ := FQ b
    rcases hv with ⟨x, rfl, h⟩ | ⟨x, r, rfl, h, k⟩
    · by_cases h1 : x = 1
      · subst h1
        refine ⟨[0, 2], .inr ⟨0, [2], rfl, by decide, by show (2 : Int) ≤ 2; decide⟩, ?_, ?_⟩
        · simp only [G, F] at hg ⊢; rw [← hg]; simp
        · simp at hs ⊢; omega
      · refine ⟨[0, 1, x], .inr ⟨0, [1, x], rfl, by decide, by show (1 : Int) ≤ 1 ∧ 2 ≤ x; omega⟩, ?_, ?_⟩
        · simp only [G, F] at hg ⊢; rw [← hg]; simp
        · simp at hs ⊢; omega
    · by_cases h0 : x = 0
      · subst h0
        cases r with
        | nil => exact k.elim
        | cons p ps =>
          refine ⟨0 :: (p + 1) :: ps, .inr ⟨0, (p + 1) :: ps, rfl, by decide, okq_up k⟩, ?_, ?_⟩
          · simp only [G, F] at hg ⊢; rw [← hg]; simp only [Prod.mk.injEq]; constructor <;> grind
          · simp only [List.sum_cons, List.length_cons] at hs ⊢; omega
      · refine ⟨0 :: 1 :: x :: r, .inr ⟨0, 1 :: x :: r, rfl, by decide, ?_⟩, ?_, ?_⟩
        · refine ⟨Int.le_refl _, ?_⟩
          cases r with
          | nil => exact k.elim
          | cons p ps => exact ⟨by omega, k⟩
        · simp only [G, F] at hg ⊢; rw [← hg]; simp only [Prod.mk.injEq]; constructor <;> grind
        · simp only [List.sum_cons, List.length_cons] at hs ⊢; omega
theorem fm_q {x h l : Int} (h0 : 0 ≤ l) (h1 : l < h) : (x * h + l).fmod h = l ∧ (x * h + l).fdiv h = x := by
  have hp : 0 < h := by omega
  rw [Int.fmod_eq_emod_of_nonneg _ (by omega), Int.fdiv_eq_ediv_of_nonneg _ (by omega)]
  rw [Int.add_comm, Int.add_mul_emod_self_right, Int.emod_eq_of_lt h0 h1]
  refine ⟨rfl, ?_⟩
  rw [Int.add_mul_ediv_right _ _ (by omega), Int.ediv_eq_zero_of_lt h0 h1]
  omega
theorem okq_len : ∀ q : List Int, okq q → (q.length : Int) + 1 ≤ q.sum
  | [x], h => by have h : 2 ≤ x := h; simp; omega
  | x :: y :: r, ⟨h, k⟩ => by have := okq_len (y :: r) k; simp only [List.sum_cons, List.length_cons] at *; omega
theorem vq_len {q : List Int} (h : vq q) : (q.length : Int) ≤ q.sum + 1 := by
  rcases h with ⟨x, rfl, h⟩ | ⟨x, r, rfl, h, k⟩
  · simp; omega
  · have := okq_len r k; simp only [List.sum_cons, List.length_cons]; omega
end TR.K55
set_option autoImplicit false
set_option linter.all false
set_option maxRecDepth 100000
namespace TR.K55
def NN : Nat := 1000
abbrev W31 : WOp := whN NN
abbrev Mk (k : Nat) : Sem := ⟨lawT, Phi lawT W31 k, W31⟩
def runF (k : Nat) (c : FnC) (ds : List D) (s : Sto) : R D := cond (Nat.beq ds.length c.np) (fin s (xcs (Mk k) c.body (ds.map some ++ List.replicate (c.nl - c.np) none) s)) .bad
theorem Phi_step (k n : Nat) (c : FnC) (ds : List D) (s : Sto) (h : lawFn n = some c) : Phi lawT W31 (k + 1) n ds s = runF k c ds s := by
  show (match lawFn n with
    | none => R.bad
    | some c => _) = _
  rw [h]; rfl
theorem mulOk_lt {a b : Int} (h : a.natAbs < 18446744073709551616) : mulOk a b = true := by
  unfold mulOk; rw [Bool.or_eq_true, Bool.or_eq_true]; left; left; exact Nat.ble_eq.mpr h
theorem mulOk_lt2 {a b : Int} (h : b.natAbs < 18446744073709551616) : mulOk a b = true := by
  unfold mulOk; rw [Bool.or_eq_true, Bool.or_eq_true]; left; right; exact Nat.ble_eq.mpr h
theorem gc_self (b : Bool) (s : Sto) : gc b s s = s := by unfold gc; cases b <;> cases fresh s s <;> rfl
theorem xc_asg {M : Sem} {t e f s} : xc M (.asg t e) f s = ofR f (ev M e f s) fun d s => ofR f (asg M t d f s) fun f s => .nx f s := rfl
theorem xc_par {M : Sem} {t e f s} : xc M (.par t e) f s = ofR f (evs M e f s) fun ds s => ofR f (asgs M t ds f s) fun f s => .nx f s := rfl
theorem xc_ex {M : Sem} {e f s} : xc M (.ex e) f s = ofR f (ev M e f s) fun _ s => .nx f s := rfl
theorem xc_ite {M : Sem} {c a b f s} : xc M (.ite c a b) f s = ofR f (tru (ev M c f s)) fun t s => cond t (xcs M a f s) (xcs M b f s) := rfl
theorem xc_ret {M : Sem} {e f s} : xc M (.ret e) f s = ofR f (ev M e f s) fun d s => .rt d s := rfl
theorem xc_rai {M : Sem} {c es f s} : xc M (.rai c es) f s = ofR f (evs M es f s) fun ds s => .ex ⟨c, ds⟩ f s := rfl
theorem xc_brk {M : Sem} {f s} : xc M .brk f s = .bk f s := rfl
theorem xc_pass {M : Sem} {f s} : xc M .pass f s = .nx f s := rfl
theorem xc_wh {M : Sem} {c b f s} : xc M (.wh c b) f s = M.wh (fun f s => tru (ev M c f s)) (fun f s => xcs M b f s) f s := rfl
theorem ty1 : (Ty.bool == Ty.int) = false := rfl
theorem ty2 : (Ty.int == Ty.int) = true := rfl
theorem ty3 : (Ty.bool == Ty.bool) = true := rfl
theorem ty4 : (Ty.int == Ty.bool) = false := rfl
theorem ty5 : (Ty.list == Ty.list) = true := rfl
theorem ty6 : (Ty.tuple == Ty.tuple) = true := rfl
theorem ty7 : (Ty.str == Ty.str) = true := rfl
theorem ty8 : (Ty.list == Ty.tuple) = false := rfl
theorem ty9 : (Ty.tuple == Ty.list) = false := rfl
theorem ty10 : (Ty.list == Ty.int) = false := rfl
theorem ty11 : (Ty.tuple == Ty.int) = false := rfl
theorem ty12 : (Ty.str == Ty.int) = false := rfl
theorem ty13 : (Ty.bool == Ty.str) = false := rfl
theorem ty14 : (Ty.bool == Ty.tuple) = false := rfl
theorem ty15 : (Ty.bool == Ty.list) = false := rfl
theorem ty16 : (Ty.int == Ty.str) = false := rfl
theorem ty17 : (Ty.str == Ty.bool) = false := rfl
theorem ty18 : (Ty.tuple == Ty.bool) = false := rfl
theorem ty19 : (Ty.list == Ty.bool) = false := rfl
theorem ty20 : (Ty.int == Ty.tuple) = false := rfl
theorem ty21 : (Ty.int == Ty.list) = false := rfl
theorem ty22 : (Ty.tuple == Ty.str) = false := rfl
theorem ty23 : (Ty.list == Ty.str) = false := rfl
theorem ty24 : (Ty.str == Ty.list) = false := rfl
theorem ty25 : (Ty.str == Ty.tuple) = false := rfl
/-! ### store -/
theorem beq_self (a : Nat) : Nat.beq a a = true := Nat.beq_refl a
theorem put_get (s : Sto) (a : Nat) (c : Cell) : (s.put a c).get a = some c := by
  show cond (Nat.beq a a) (some c) _ = _
  rw [beq_self]; rfl
theorem put_get_ne (s : Sto) {a b : Nat} (c : Cell) (h : a ≠ b) : (s.put a c).get b = s.get b := by
  show cond (Nat.beq a b) (some c) _ = _
  cases e : Nat.beq a b with
  | true => exact absurd (Nat.eq_of_beq_eq_true e) h
  | false => rfl
theorem new_get (s : Sto) (c : Cell) : (s.new c).get s.next = some c := by
  show cond (Nat.beq s.next s.next) (some c) _ = _
  rw [beq_self]; rfl
theorem new_get_ne (s : Sto) {b : Nat} (c : Cell) (h : s.next ≠ b) : (s.new c).get b = s.get b := by
  show cond (Nat.beq s.next b) (some c) _ = _
  cases e : Nat.beq s.next b with
  | true => exact absurd (Nat.eq_of_beq_eq_true e) h
  | false => rfl
/-- new cells alone -/
structure Ext (s s' : Sto) : Prop where
  pre : ∃ pre, s'.log = pre ++ s.log ∧ ∀ e ∈ pre, s.next ≤ e.1
  le : s.next ≤ s'.next
theorem Ext.refl (s : Sto) : Ext s s := ⟨⟨[], rfl, fun _ h => nomatch h⟩, Nat.le_refl _⟩
theorem Ext.new {s s' : Sto} (h : Ext s s') (c : Cell) : Ext s (s'.new c) := by
  obtain ⟨⟨pre, e, hp⟩, le⟩ := h
  refine ⟨⟨(s'.next, c) :: pre, by show _ :: s'.log = _; rw [e]; rfl, fun x hx => ?_⟩, Nat.le_succ_of_le le⟩
  rcases List.mem_cons.mp hx with rfl | hx
  · exact le
  · exact hp x hx
theorem Ext.put {s s' : Sto} (h : Ext s s') {a : Nat} (ha : s.next ≤ a) (c : Cell) : Ext s (s'.put a c) := by
  obtain ⟨⟨pre, e, hp⟩, le⟩ := h
  refine ⟨⟨(a, c) :: pre, by show _ :: s'.log = _; rw [e]; rfl, fun x hx => ?_⟩, le⟩
  rcases List.mem_cons.mp hx with rfl | hx
  · exact ha
  · exact hp x hx
theorem Ext.trans {s s1 s2 : Sto} (h : Ext s s1) (k : Ext s1 s2) : Ext s s2 := by
  obtain ⟨⟨p1, e1, h1⟩, l1⟩ := h
  obtain ⟨⟨p2, e2, h2⟩, l2⟩ := k
  refine ⟨⟨p2 ++ p1, by rw [e2, e1, List.append_assoc], fun x hx => ?_⟩, Nat.le_trans l1 l2⟩
  rcases List.mem_append.mp hx with hx | hx
  · exact Nat.le_trans l1 (h2 x hx)
  · exact h1 x hx
theorem look_append (a : Nat) : ∀ (p q : List (Nat × Cell)), (∀ e ∈ p, e.1 ≠ a) → look a (p ++ q) = look a q
  | [], _, _ => rfl
  | e :: p, q, h => by
    show cond (Nat.beq e.1 a) (some e.2) (look a (p ++ q)) = _
    cases b : Nat.beq e.1 a with
    | true => exact absurd (Nat.eq_of_beq_eq_true b) (h e (List.mem_cons_self ..))
    | false => exact look_append a p q fun x hx => h x (List.mem_cons_of_mem _ hx)
theorem Ext.get {s s' : Sto} (h : Ext s s') {a : Nat} (ha : a < s.next) : s'.get a = s.get a := by
  obtain ⟨⟨pre, e, hp⟩, _⟩ := h
  show look a s'.log = look a s.log
  rw [e]
  exact look_append a pre _ fun x hx q => absurd (hp x hx) (by omega)
theorem gc_ext {s s' : Sto} (h : Ext s s') : gc true s s' = s := by
  obtain ⟨⟨pre, e, hp⟩, _⟩ := h
  have : fresh s s' = true := by
    unfold fresh
    rw [e, List.length_append, Nat.add_sub_cancel, List.take_left]
    exact List.all_eq_true.mpr fun x hx => Nat.ble_eq.mpr (hp x hx)
  unfold gc
  rw [this]; rfl
/-! ### comprehensions over a fixed row, nothing changed -/
theorem loopC_fix {body : D → Sto → R (Option D)} {g : D → Option D} {s : Sto} : ∀ (ds : List D) (all : List D) (i m : Nat), all.drop i = ds → ds.length ≤ m → (∀ d ∈ ds, body d s = .ok (g d) s) → loopC (nxt (.fix all)) body i m s = .ok (ds.filterMap g) s
  | [], all, i, m, e, hm, h => by
    unfold loopC
    have : all[i]? = none := List.getElem?_eq_none (by have := congrArg List.length e; simp [ty1, ty2, ty3, ty4, ty5, ty6, ty7, ty8, ty9, ty10, ty11, ty12, ty13, ty14, ty15, ty16, ty17, ty18, ty19, ty20, ty21, ty22, ty23, ty24, ty25, xcs, xc_asg, xc_par, xc_ex, xc_ite, xc_ret, xc_rai, xc_brk, xc_pass, ev, evs, asg, asgs, evo, rowOf, ofR, _root_.TR.R.bind, opD, opI, fin, gc_self, tru, truth, _root_.TR.R.ofO, Kc.d, mulOk_lt, mulOk_lt2, isaAny, isaD, permA, permD, cmD, cmI, runF, put_get, new_get] at this; omega)
    simp [nxt, this, ty1, ty2, ty3, ty4, ty5, ty6, ty7, ty8, ty9, ty10, ty11, ty12, ty13, ty14, ty15, ty16, ty17, ty18, ty19, ty20, ty21, ty22, ty23, ty24, ty25, xcs, xc_asg, xc_par, xc_ex, xc_ite, xc_ret, xc_rai, xc_brk, xc_pass, ev, evs, asg, asgs, evo, rowOf, ofR, _root_.TR.R.bind, opD, opI, fin, gc_self, tru, truth, _root_.TR.R.ofO, Kc.d, mulOk_lt, mulOk_lt2, isaAny, isaD, permA, permD, cmD, cmI, runF, put_get, new_get]
  | d :: ds, all, i, m, e, hm, h => by
    unfold loopC
    have hi : all[i]? = some d := by rw [← List.head?_drop, e]; rfl
    have hd : all.drop (i + 1) = ds := by rw [← List.tail_drop, e]; rfl
    obtain ⟨m, rfl⟩ : ∃ m', m = m' + 1 := ⟨m - 1, by simp [ty1, ty2, ty3, ty4, ty5, ty6, ty7, ty8, ty9, ty10, ty11, ty12, ty13, ty14, ty15, ty16, ty17, ty18, ty19, ty20, ty21, ty22, ty23, ty24, ty25, xcs, xc_asg, xc_par, xc_ex, xc_ite, xc_ret, xc_rai, xc_brk, xc_pass, ev, evs, asg, asgs, evo, rowOf, ofR, _root_.TR.R.bind, opD, opI, fin, gc_self, tru, truth, _root_.TR.R.ofO, Kc.d, mulOk_lt, mulOk_lt2, isaAny, isaD, permA, permD, cmD, cmI, runF, put_get, new_get] at hm; omega⟩
    simp only [nxt, hi]
    rw [h d (List.mem_cons_self ..)]
    show R.bind (loopC (nxt (.fix all)) body (i + 1) m s) _ = _
    rw [loopC_fix ds all (i + 1) m hd (by simp [ty1, ty2, ty3, ty4, ty5, ty6, ty7, ty8, ty9, ty10, ty11, ty12, ty13, ty14, ty15, ty16, ty17, ty18, ty19, ty20, ty21, ty22, ty23, ty24, ty25, xcs, xc_asg, xc_par, xc_ex, xc_ite, xc_ret, xc_rai, xc_brk, xc_pass, ev, evs, asg, asgs, evo, rowOf, ofR, _root_.TR.R.bind, opD, opI, fin, gc_self, tru, truth, _root_.TR.R.ofO, Kc.d, mulOk_lt, mulOk_lt2, isaAny, isaD, permA, permD, cmD, cmI, runF, put_get, new_get] at hm; omega) fun x hx => h x (List.mem_cons_of_mem _ hx)]
    cases hg : g d <;> simp [R.bind, hg, ty1, ty2, ty3, ty4, ty5, ty6, ty7, ty8, ty9, ty10, ty11, ty12, ty13, ty14, ty15, ty16, ty17, ty18, ty19, ty20, ty21, ty22, ty23, ty24, ty25, xcs, xc_asg, xc_par, xc_ex, xc_ite, xc_ret, xc_rai, xc_brk, xc_pass, ev, evs, asg, asgs, evo, rowOf, ofR, opD, opI, fin, gc_self, tru, truth, _root_.TR.R.ofO, Kc.d, mulOk_lt, mulOk_lt2, isaAny, isaD, permA, permD, cmD, cmI, runF, put_get, new_get]
theorem evq_map {M : Sem} {x e : E} {i : Nat} {f : Fr} {s : Sto} {ds : List D} {g : D → D} (he : ev M e f s = .ok (.tup ds) s) (hx : ∀ d ∈ ds, ev M x (f.set i (some d)) s = .ok (g d) s) : evq M (.comp x (.n i) [i] (.seq e) []) f s = .ok (ds.map g) s := by
  show R.bind (R.bind (ev M e f s) _) _ = _
  rw [he]
  show loopC (nxt (.fix ds)) _ 0 ds.length s = _
  rw [loopC_fix (g := fun d => some (g d)) ds ds 0 ds.length rfl (Nat.le_refl _) fun d hd => ?_]
  · simp [ty1, ty2, ty3, ty4, ty5, ty6, ty7, ty8, ty9, ty10, ty11, ty12, ty13, ty14, ty15, ty16, ty17, ty18, ty19, ty20, ty21, ty22, ty23, ty24, ty25, xcs, xc_asg, xc_par, xc_ex, xc_ite, xc_ret, xc_rai, xc_brk, xc_pass, ev, evs, asg, asgs, evo, rowOf, ofR, _root_.TR.R.bind, opD, opI, fin, gc_self, tru, truth, _root_.TR.R.ofO, Kc.d, mulOk_lt, mulOk_lt2, isaAny, isaD, permA, permD, cmD, cmI, runF, put_get, new_get]
  · show R.bind (R.nox (ev M x (((f.set i none)).set i (some d)) s)) _ = _
    rw [List.set_set, hx d hd]; rfl
theorem loopC_lv {body : D → Sto → R (Option D)} {g : D → Option D} {s : Sto} {a : Nat} {all : List D} (ha : s.get a = some (.lst all)) : ∀ (ds : List D) (i m : Nat), all.drop i = ds → ds.length ≤ m → (∀ d ∈ ds, body d s = .ok (g d) s) → loopC (nxt (.lv a)) body i m s = .ok (ds.filterMap g) s
  | [], i, m, e, hm, h => by
    unfold loopC
    have : all[i]? = none := List.getElem?_eq_none (by have := congrArg List.length e; simp [ty1, ty2, ty3, ty4, ty5, ty6, ty7, ty8, ty9, ty10, ty11, ty12, ty13, ty14, ty15, ty16, ty17, ty18, ty19, ty20, ty21, ty22, ty23, ty24, ty25, xcs, xc_asg, xc_par, xc_ex, xc_ite, xc_ret, xc_rai, xc_brk, xc_pass, ev, evs, asg, asgs, evo, rowOf, ofR, _root_.TR.R.bind, opD, opI, fin, gc_self, tru, truth, _root_.TR.R.ofO, Kc.d, mulOk_lt, mulOk_lt2, isaAny, isaD, permA, permD, cmD, cmI, runF, put_get, new_get] at this; omega)
    simp [nxt, ha, this, ty1, ty2, ty3, ty4, ty5, ty6, ty7, ty8, ty9, ty10, ty11, ty12, ty13, ty14, ty15, ty16, ty17, ty18, ty19, ty20, ty21, ty22, ty23, ty24, ty25, xcs, xc_asg, xc_par, xc_ex, xc_ite, xc_ret, xc_rai, xc_brk, xc_pass, ev, evs, asg, asgs, evo, rowOf, ofR, _root_.TR.R.bind, opD, opI, fin, gc_self, tru, truth, _root_.TR.R.ofO, Kc.d, mulOk_lt, mulOk_lt2, isaAny, isaD, permA, permD, cmD, cmI, runF, put_get, new_get]
  | d :: ds, i, m, e, hm, h => by
    unfold loopC
    have hi : all[i]? = some d := by rw [← List.head?_drop, e]; rfl
    have hd : all.drop (i + 1) = ds := by rw [← List.tail_drop, e]; rfl
    obtain ⟨m, rfl⟩ : ∃ m', m = m' + 1 := ⟨m - 1, by simp [ty1, ty2, ty3, ty4, ty5, ty6, ty7, ty8, ty9, ty10, ty11, ty12, ty13, ty14, ty15, ty16, ty17, ty18, ty19, ty20, ty21, ty22, ty23, ty24, ty25, xcs, xc_asg, xc_par, xc_ex, xc_ite, xc_ret, xc_rai, xc_brk, xc_pass, ev, evs, asg, asgs, evo, rowOf, ofR, _root_.TR.R.bind, opD, opI, fin, gc_self, tru, truth, _root_.TR.R.ofO, Kc.d, mulOk_lt, mulOk_lt2, isaAny, isaD, permA, permD, cmD, cmI, runF, put_get, new_get] at hm; omega⟩
    simp only [nxt, ha, hi]
    rw [h d (List.mem_cons_self ..)]
    show R.bind (loopC (nxt (.lv a)) body (i + 1) m s) _ = _
    rw [loopC_lv ha ds (i + 1) m hd (by simp [ty1, ty2, ty3, ty4, ty5, ty6, ty7, ty8, ty9, ty10, ty11, ty12, ty13, ty14, ty15, ty16, ty17, ty18, ty19, ty20, ty21, ty22, ty23, ty24, ty25, xcs, xc_asg, xc_par, xc_ex, xc_ite, xc_ret, xc_rai, xc_brk, xc_pass, ev, evs, asg, asgs, evo, rowOf, ofR, _root_.TR.R.bind, opD, opI, fin, gc_self, tru, truth, _root_.TR.R.ofO, Kc.d, mulOk_lt, mulOk_lt2, isaAny, isaD, permA, permD, cmD, cmI, runF, put_get, new_get] at hm; omega) fun x hx => h x (List.mem_cons_of_mem _ hx)]
    cases hg : g d <;> simp [R.bind, hg, ty1, ty2, ty3, ty4, ty5, ty6, ty7, ty8, ty9, ty10, ty11, ty12, ty13, ty14, ty15, ty16, ty17, ty18, ty19, ty20, ty21, ty22, ty23, ty24, ty25, xcs, xc_asg, xc_par, xc_ex, xc_ite, xc_ret, xc_rai, xc_brk, xc_pass, ev, evs, asg, asgs, evo, rowOf, ofR, opD, opI, fin, gc_self, tru, truth, _root_.TR.R.ofO, Kc.d, mulOk_lt, mulOk_lt2, isaAny, isaD, permA, permD, cmD, cmI, runF, put_get, new_get]
theorem evq_mapL {M : Sem} {x e : E} {i a : Nat} {f : Fr} {s : Sto} {ds : List D} {g : D → D} (he : ev M e f s = .ok (.ref a) s) (ha : s.get a = some (.lst ds)) (hl : ds.length ≤ SZ) (hx : ∀ d ∈ ds, ev M x (f.set i (some d)) s = .ok (g d) s) : evq M (.comp x (.n i) [i] (.seq e) []) f s = .ok (ds.map g) s := by
  show R.bind (R.bind (ev M e f s) _) _ = _
  rw [he]
  simp only [R.bind]
  have : srcOf s (.ref a) = some (.lv a, SZ) := by
    show (match s.get a with
      | some (.lst _) => some (Src.lv a, SZ)
      | _ => none) = _
    rw [ha]
  rw [this]
  simp only [R.ofO, R.bind]
  rw [loopC_lv (g := fun d => some (g d)) ha ds 0 SZ rfl hl fun d hd => ?_]
  · simp [ty1, ty2, ty3, ty4, ty5, ty6, ty7, ty8, ty9, ty10, ty11, ty12, ty13, ty14, ty15, ty16, ty17, ty18, ty19, ty20, ty21, ty22, ty23, ty24, ty25, xcs, xc_asg, xc_par, xc_ex, xc_ite, xc_ret, xc_rai, xc_brk, xc_pass, ev, evs, asg, asgs, evo, rowOf, ofR, _root_.TR.R.bind, opD, opI, fin, gc_self, tru, truth, _root_.TR.R.ofO, Kc.d, mulOk_lt, mulOk_lt2, isaAny, isaD, permA, permD, cmD, cmI, runF, put_get, new_get]
  · show R.bind (R.nox (ev M x (((f.set i none)).set i (some d)) s)) _ = _
    rw [List.set_set, hx d hd]; rfl
def I (xs : List Int) : List D := xs.map .int
theorem pure_I : ∀ xs : List Int, pureL (I xs) = true
  | [] => rfl
  | x :: xs => pure_I xs
theorem pure_tI (xs : List Int) : pure1 (.tup (I xs)) = true := pure_I xs
theorem mem_I {xs : List Int} {d : D} (h : d ∈ I xs) : ∃ x ∈ xs, d = .int x := by
  obtain ⟨x, hx, rfl⟩ := List.mem_map.mp h
  exact ⟨x, hx, rfl⟩
theorem blsD_map {α : Type} (f : α → Bool) : ∀ xs : List α, blsD (xs.map fun x => .bl (f x)) = some (xs.map f)
  | [] => rfl
  | x :: xs => by show (blsD (xs.map fun x => .bl (f x))).map _ = _; rw [blsD_map f xs]; rfl
theorem b1D_all {α : Type} (f : α → Bool) (xs : List α) (s : Sto) : b1D .all (xs.map fun x => .bl (f x)) s = .ok (.bl (xs.all f)) s := by
  unfold b1D
  rw [blsD_map f xs]
  simp [R.ofO, R.bind, List.all_map, ty1, ty2, ty3, ty4, ty5, ty6, ty7, ty8, ty9, ty10, ty11, ty12, ty13, ty14, ty15, ty16, ty17, ty18, ty19, ty20, ty21, ty22, ty23, ty24, ty25, xcs, xc_asg, xc_par, xc_ex, xc_ite, xc_ret, xc_rai, xc_brk, xc_pass, ev, evs, asg, asgs, evo, rowOf, ofR, opD, opI, fin, gc_self, tru, truth, Kc.d, mulOk_lt, mulOk_lt2, isaAny, isaD, permA, permD, cmD, cmI, runF, put_get, new_get]
/-- a comprehension over whole numbers -/
theorem evq_I {M : Sem} {x e : E} {i : Nat} {f : Fr} {s : Sto} {xs : List Int} (p : Int → D) (he : ev M e f s = .ok (.tup (I xs)) s) (hx : ∀ z ∈ xs, ev M x (f.set i (some (.int z))) s = .ok (p z) s) : evq M (.comp x (.n i) [i] (.seq e) []) f s = .ok (xs.map p) s := by
  rw [evq_map (g := fun d => match d with
    | .int z => p z
    | _ => .non) he fun d hd => ?_]
  · unfold I; rw [List.map_map]; rfl
  · obtain ⟨z, hz, rfl⟩ := mem_I hd
    exact hx z hz
theorem b1D_tuple (ds : List D) (s : Sto) : b1D .tuple ds s = .ok (.tup ds) s := rfl
theorem b1D_len (ds : List D) (s : Sto) : b1D .len ds s = .ok (.int ds.length) s := rfl
theorem b1D_list (ds : List D) (s : Sto) : b1D .list ds s = .ok (.ref s.next) (s.new (.lst ds)) := rfl
theorem b1D_sum (ds : List D) (s : Sto) : b1D .sum ds s = (R.ofO (intsD ds) s).bind fun is s => .ok (.int is.sum) s := rfl
theorem b1D_min (ds : List D) (s : Sto) : b1D .min ds s = (R.ofO (intsD ds) s).bind fun is s => match is with
    | a :: r => .ok (.int (minI a r)) s
    | [] => .bad := rfl
theorem b1D_max (ds : List D) (s : Sto) : b1D .max ds s = (R.ofO (intsD ds) s).bind fun is s => match is with
    | a :: r => .ok (.int (maxI a r)) s
    | [] => .bad := rfl
theorem b1D_allT {α : Type} (xs : List α) (s : Sto) : b1D .all (xs.map fun _ => .bl true) s = .ok (.bl true) s := by
  rw [b1D_all (fun _ => true)]
  simp [ty1, ty2, ty3, ty4, ty5, ty6, ty7, ty8, ty9, ty10, ty11, ty12, ty13, ty14, ty15, ty16, ty17, ty18, ty19, ty20, ty21, ty22, ty23, ty24, ty25, xcs, xc_asg, xc_par, xc_ex, xc_ite, xc_ret, xc_rai, xc_brk, xc_pass, ev, evs, asg, asgs, evo, rowOf, ofR, _root_.TR.R.bind, opD, opI, fin, gc_self, tru, truth, _root_.TR.R.ofO, Kc.d, mulOk_lt, mulOk_lt2, isaAny, isaD, permA, permD, cmD, cmI, runF, put_get, new_get]
/-! ### loops -/
def loopW (n k : Nat) (st : S) (f : Fr) (s : Sto) : O := match st with
  | .wh c b => whN n (fun f s => tru (ev (Mk k) c f s)) (fun f s => xcs (Mk k) b f s) f s
  | _ => .bad
theorem xc_whL {k c b f s} : xc (Mk k) (.wh c b) f s = loopW NN k (.wh c b) f s := by
  rw [xc_wh]
  simp only [loopW]
theorem loopW_succ {n k : Nat} {c b f s} : loopW (n + 1) k (.wh c b) f s = match tru (ev (Mk k) c f s) with
    | .ok true s1 => (match xcs (Mk k) b f s1 with
      | .nx f' s' => loopW n k (.wh c b) f' s'
      | .ct f' s' => loopW n k (.wh c b) f' s'
      | .bk f' s' => .nx f' s'
      | o => o)
    | .ok false s1 => .nx f s1
    | .ex e s1 => .ex e f s1
    | .bad => .bad := rfl
def frL (k : Nat) (t : Tg) (b : List S) (p : Src × Nat) (f : Fr) (s : Sto) : O := loopF (nxt p.1) (fun d f s => ofR f (asg (Mk k) t d f s) fun f s => xcs (Mk k) b f s) 0 p.2 f s
theorem xc_fr {k t i b f s} : xc (Mk k) (.fr t i b) f s = ofR f (evi (Mk k) i f s) fun p s => frL k t b p f s := rfl
def forL (k : Nat) (t : Tg) (b : List S) : List D → Fr → Sto → O
  | [], f, s => .nx f s
  | d :: ds, f, s => match ofR f (asg (Mk k) t d f s) fun f s => xcs (Mk k) b f s with
    | .nx f' s' => forL k t b ds f' s'
    | .ct f' s' => forL k t b ds f' s'
    | .bk f' s' => .nx f' s'
    | o => o
theorem loopF_fix {k : Nat} {t : Tg} {b : List S} : ∀ (ds all : List D) (i m : Nat) (f : Fr) (s : Sto), all.drop i = ds → ds.length ≤ m → loopF (nxt (.fix all)) (fun d f s => ofR f (asg (Mk k) t d f s) fun f s => xcs (Mk k) b f s) i m f s = forL k t b ds f s
  | [], all, i, m, f, s, e, hm => by
    unfold loopF
    have : all[i]? = none := List.getElem?_eq_none (by have := congrArg List.length e; simp [ty1, ty2, ty3, ty4, ty5, ty6, ty7, ty8, ty9, ty10, ty11, ty12, ty13, ty14, ty15, ty16, ty17, ty18, ty19, ty20, ty21, ty22, ty23, ty24, ty25, xcs, xc_asg, xc_par, xc_ex, xc_ite, xc_ret, xc_rai, xc_brk, xc_pass, ev, evs, asg, asgs, evo, rowOf, ofR, _root_.TR.R.bind, opD, opI, fin, gc_self, tru, truth, _root_.TR.R.ofO, Kc.d, mulOk_lt, mulOk_lt2, isaAny, isaD, permA, permD, cmD, cmI, runF, put_get, new_get] at this; omega)
    simp [nxt, this, forL, ty1, ty2, ty3, ty4, ty5, ty6, ty7, ty8, ty9, ty10, ty11, ty12, ty13, ty14, ty15, ty16, ty17, ty18, ty19, ty20, ty21, ty22, ty23, ty24, ty25, xcs, xc_asg, xc_par, xc_ex, xc_ite, xc_ret, xc_rai, xc_brk, xc_pass, ev, evs, asg, asgs, evo, rowOf, ofR, _root_.TR.R.bind, opD, opI, fin, gc_self, tru, truth, _root_.TR.R.ofO, Kc.d, mulOk_lt, mulOk_lt2, isaAny, isaD, permA, permD, cmD, cmI, runF, put_get, new_get]
  | d :: ds, all, i, m, f, s, e, hm => by
    unfold loopF
    have hi : all[i]? = some d := by rw [← List.head?_drop, e]; rfl
    have hd : all.drop (i + 1) = ds := by rw [← List.tail_drop, e]; rfl
    obtain ⟨m, rfl⟩ : ∃ m', m = m' + 1 := ⟨m - 1, by simp [ty1, ty2, ty3, ty4, ty5, ty6, ty7, ty8, ty9, ty10, ty11, ty12, ty13, ty14, ty15, ty16, ty17, ty18, ty19, ty20, ty21, ty22, ty23, ty24, ty25, xcs, xc_asg, xc_par, xc_ex, xc_ite, xc_ret, xc_rai, xc_brk, xc_pass, ev, evs, asg, asgs, evo, rowOf, ofR, _root_.TR.R.bind, opD, opI, fin, gc_self, tru, truth, _root_.TR.R.ofO, Kc.d, mulOk_lt, mulOk_lt2, isaAny, isaD, permA, permD, cmD, cmI, runF, put_get, new_get] at hm; omega⟩
    simp only [nxt, hi, forL]
    have ih := fun f s => loopF_fix (k := k) (t := t) (b := b) ds all (i + 1) m f s hd (by simp [ty1, ty2, ty3, ty4, ty5, ty6, ty7, ty8, ty9, ty10, ty11, ty12, ty13, ty14, ty15, ty16, ty17, ty18, ty19, ty20, ty21, ty22, ty23, ty24, ty25, xcs, xc_asg, xc_par, xc_ex, xc_ite, xc_ret, xc_rai, xc_brk, xc_pass, ev, evs, asg, asgs, evo, rowOf, ofR, _root_.TR.R.bind, opD, opI, fin, gc_self, tru, truth, _root_.TR.R.ofO, Kc.d, mulOk_lt, mulOk_lt2, isaAny, isaD, permA, permD, cmD, cmI, runF, put_get, new_get] at hm; omega)
    simp only [nxt] at ih
    cases ofR f (asg (Mk k) t d f s) fun f s => xcs (Mk k) b f s with
    | nx f' s' => exact ih f' s'
    | ct f' s' => exact ih f' s'
    | _ => rfl
theorem frL_fix {k : Nat} {t : Tg} {b : List S} {ds : List D} {f : Fr} {s : Sto} : frL k t b (.fix ds, ds.length) f s = forL k t b ds f s := loopF_fix ds ds 0 ds.length f s rfl (Nat.le_refl _)
theorem forL_cons {k : Nat} {t : Tg} {b : List S} {d : D} {ds : List D} {f : Fr} {s : Sto} : forL k t b (d :: ds) f s = match ofR f (asg (Mk k) t d f s) fun f s => xcs (Mk k) b f s with
    | .nx f' s' => forL k t b ds f' s'
    | .ct f' s' => forL k t b ds f' s'
    | .bk f' s' => .nx f' s'
    | o => o := rfl
end TR.K55
set_option autoImplicit false
set_option linter.all false
set_option maxRecDepth 100000
namespace TR.K55
theorem lawT_con (n : Nat) : lawT.con n = lawCon n := rfl
theorem I_append (a b : List Int) : I (a ++ b) = I a ++ I b := List.map_append
theorem I_len (a : List Int) : (I a).length = a.length := List.length_map _
theorem mapO_I (n : Nat) (s : Sto) : ∀ xs : List Int, mapO (rd (n + 1) s) (I xs) = some (xs.map .int)
  | [] => rfl
  | x :: xs => by
    have : I (x :: xs) = .int x :: I xs := rfl
    rw [this, mapO, mapO_I n s xs]
    simp [rd, ty1, ty2, ty3, ty4, ty5, ty6, ty7, ty8, ty9, ty10, ty11, ty12, ty13, ty14, ty15, ty16, ty17, ty18, ty19, ty20, ty21, ty22, ty23, ty24, ty25, xcs, xc_asg, xc_par, xc_ex, xc_ite, xc_ret, xc_rai, xc_brk, xc_pass, ev, evs, asg, asgs, evo, rowOf, ofR, _root_.TR.R.bind, opD, opI, fin, gc_self, tru, truth, _root_.TR.R.ofO, Kc.d, mulOk_lt, mulOk_lt2, isaAny, isaD, permA, permD, cmD, cmI, runF, put_get, new_get, xc_whL, xc_fr, evi, srcOf, frL_fix, b1V, b1D_tuple, b1D_len, b1D_list, b1D_sum, b1D_min, b1D_max, biD, b1D_allT, lawT_con, lawCon, ixD, plc]
theorem rd_I (n : Nat) (s : Sto) (xs : List Int) : rd (n + 2) s (.tup (I xs)) = some (.tuple (xs.map .int)) := by
  rw [rd]
  simp only [mapO_I]
  rfl
theorem eqPs_I : ∀ xs ys : List Int, eqPs (xs.map .int) (ys.map .int) = decide (xs = ys)
  | [], [] => by simp [eqPs, ty1, ty2, ty3, ty4, ty5, ty6, ty7, ty8, ty9, ty10, ty11, ty12, ty13, ty14, ty15, ty16, ty17, ty18, ty19, ty20, ty21, ty22, ty23, ty24, ty25, xcs, xc_asg, xc_par, xc_ex, xc_ite, xc_ret, xc_rai, xc_brk, xc_pass, ev, evs, asg, asgs, evo, rowOf, ofR, _root_.TR.R.bind, opD, opI, fin, gc_self, tru, truth, _root_.TR.R.ofO, Kc.d, mulOk_lt, mulOk_lt2, isaAny, isaD, permA, permD, cmD, cmI, runF, put_get, new_get, xc_whL, xc_fr, evi, srcOf, frL_fix, b1V, b1D_tuple, b1D_len, b1D_list, b1D_sum, b1D_min, b1D_max, biD, b1D_allT, lawT_con, lawCon, ixD, plc]
  | [], y :: ys => by simp [eqPs, ty1, ty2, ty3, ty4, ty5, ty6, ty7, ty8, ty9, ty10, ty11, ty12, ty13, ty14, ty15, ty16, ty17, ty18, ty19, ty20, ty21, ty22, ty23, ty24, ty25, xcs, xc_asg, xc_par, xc_ex, xc_ite, xc_ret, xc_rai, xc_brk, xc_pass, ev, evs, asg, asgs, evo, rowOf, ofR, _root_.TR.R.bind, opD, opI, fin, gc_self, tru, truth, _root_.TR.R.ofO, Kc.d, mulOk_lt, mulOk_lt2, isaAny, isaD, permA, permD, cmD, cmI, runF, put_get, new_get, xc_whL, xc_fr, evi, srcOf, frL_fix, b1V, b1D_tuple, b1D_len, b1D_list, b1D_sum, b1D_min, b1D_max, biD, b1D_allT, lawT_con, lawCon, ixD, plc]
  | x :: xs, [] => by simp [eqPs, ty1, ty2, ty3, ty4, ty5, ty6, ty7, ty8, ty9, ty10, ty11, ty12, ty13, ty14, ty15, ty16, ty17, ty18, ty19, ty20, ty21, ty22, ty23, ty24, ty25, xcs, xc_asg, xc_par, xc_ex, xc_ite, xc_ret, xc_rai, xc_brk, xc_pass, ev, evs, asg, asgs, evo, rowOf, ofR, _root_.TR.R.bind, opD, opI, fin, gc_self, tru, truth, _root_.TR.R.ofO, Kc.d, mulOk_lt, mulOk_lt2, isaAny, isaD, permA, permD, cmD, cmI, runF, put_get, new_get, xc_whL, xc_fr, evi, srcOf, frL_fix, b1V, b1D_tuple, b1D_len, b1D_list, b1D_sum, b1D_min, b1D_max, biD, b1D_allT, lawT_con, lawCon, ixD, plc]
  | x :: xs, y :: ys => by
    have := eqPs_I xs ys
    simp only [List.map_cons, eqPs, eqP, this]
    by_cases h : x = y <;> by_cases h2 : xs = ys <;> simp [h, h2, ty1, ty2, ty3, ty4, ty5, ty6, ty7, ty8, ty9, ty10, ty11, ty12, ty13, ty14, ty15, ty16, ty17, ty18, ty19, ty20, ty21, ty22, ty23, ty24, ty25, xcs, xc_asg, xc_par, xc_ex, xc_ite, xc_ret, xc_rai, xc_brk, xc_pass, ev, evs, asg, asgs, evo, rowOf, ofR, _root_.TR.R.bind, opD, opI, fin, gc_self, tru, truth, _root_.TR.R.ofO, Kc.d, mulOk_lt, mulOk_lt2, isaAny, isaD, permA, permD, cmD, cmI, runF, put_get, new_get, xc_whL, xc_fr, evi, srcOf, frL_fix, b1V, b1D_tuple, b1D_len, b1D_list, b1D_sum, b1D_min, b1D_max, biD, b1D_allT, lawT_con, lawCon, ixD, plc]
theorem eqD_I (s : Sto) (xs ys : List Int) : eqD s (.tup (I xs)) (.tup (I ys)) = some (decide (xs = ys)) := by
  unfold eqD RDN
  rw [rd_I 38, rd_I 38]
  simp [eqP, eqPs_I, ty1, ty2, ty3, ty4, ty5, ty6, ty7, ty8, ty9, ty10, ty11, ty12, ty13, ty14, ty15, ty16, ty17, ty18, ty19, ty20, ty21, ty22, ty23, ty24, ty25, xcs, xc_asg, xc_par, xc_ex, xc_ite, xc_ret, xc_rai, xc_brk, xc_pass, ev, evs, asg, asgs, evo, rowOf, ofR, _root_.TR.R.bind, opD, opI, fin, gc_self, tru, truth, _root_.TR.R.ofO, Kc.d, mulOk_lt, mulOk_lt2, isaAny, isaD, permA, permD, cmD, cmI, runF, put_get, new_get, xc_whL, xc_fr, evi, srcOf, frL_fix, b1V, b1D_tuple, b1D_len, b1D_list, b1D_sum, b1D_min, b1D_max, biD, b1D_allT, lawT_con, lawCon, ixD, plc]
theorem plc_zero (n : Nat) : plc (n + 1) 0 = some 0 := by
  unfold plc
  rw [if_pos (by omega), if_pos (by omega)]; rfl
theorem plc_one (n : Nat) : plc (n + 2) 1 = some 1 := by
  unfold plc
  rw [if_pos (by omega), if_pos (by omega)]; rfl
theorem plc_neg1 (n : Nat) : plc (n + 1) (-1) = some n := by
  unfold plc
  rw [if_neg (by omega), if_pos (by omega)]
  congr 1; omega
theorem fdiv_pos (p : Int) {q : Int} (hq : 1 ≤ q) : p.fdiv q = p / q := Int.fdiv_eq_ediv_of_nonneg _ (by omega)
theorem divOk_sm {q : Int} (h1 : 1 ≤ q) (h2 : q ≤ 1000000000000) : divOk q = true := by
  unfold divOk
  have : (q == 0) = false := by simp [ty1, ty2, ty3, ty4, ty5, ty6, ty7, ty8, ty9, ty10, ty11, ty12, ty13, ty14, ty15, ty16, ty17, ty18, ty19, ty20, ty21, ty22, ty23, ty24, ty25, xcs, xc_asg, xc_par, xc_ex, xc_ite, xc_ret, xc_rai, xc_brk, xc_pass, ev, evs, asg, asgs, evo, rowOf, ofR, _root_.TR.R.bind, opD, opI, fin, gc_self, tru, truth, _root_.TR.R.ofO, Kc.d, mulOk_lt, mulOk_lt2, isaAny, isaD, permA, permD, cmD, cmI, runF, put_get, new_get, xc_whL, xc_fr, evi, srcOf, frL_fix, b1V, b1D_tuple, b1D_len, b1D_list, b1D_sum, b1D_min, b1D_max, biD, b1D_allT, lawT_con, lawCon, ixD, plc]; omega
  rw [this]
  have : q.natAbs.log2 < 9000 := by
    have : q.natAbs < 2 ^ 64 := by omega
    have := (Nat.log2_lt (by omega : q.natAbs ≠ 0)).mpr this
    omega
  simp [this, ty1, ty2, ty3, ty4, ty5, ty6, ty7, ty8, ty9, ty10, ty11, ty12, ty13, ty14, ty15, ty16, ty17, ty18, ty19, ty20, ty21, ty22, ty23, ty24, ty25, xcs, xc_asg, xc_par, xc_ex, xc_ite, xc_ret, xc_rai, xc_brk, xc_pass, ev, evs, asg, asgs, evo, rowOf, ofR, _root_.TR.R.bind, opD, opI, fin, gc_self, tru, truth, _root_.TR.R.ofO, Kc.d, mulOk_lt, mulOk_lt2, isaAny, isaD, permA, permD, cmD, cmI, runF, put_get, new_get, xc_whL, xc_fr, evi, srcOf, frL_fix, b1V, b1D_tuple, b1D_len, b1D_list, b1D_sum, b1D_min, b1D_max, biD, b1D_allT, lawT_con, lawCon, ixD, plc]
theorem rngOf_one {n : Int} (h : 0 ≤ n) (h2 : n ≤ 100000) : rngOf [.int n] = some (rngD 0 n.toNat) := by
  have e : (rngOk 0 n && Nat.ble n.toNat SZ) = true := by
    unfold rngOk SZ
    simp [ty1, ty2, ty3, ty4, ty5, ty6, ty7, ty8, ty9, ty10, ty11, ty12, ty13, ty14, ty15, ty16, ty17, ty18, ty19, ty20, ty21, ty22, ty23, ty24, ty25, xcs, xc_asg, xc_par, xc_ex, xc_ite, xc_ret, xc_rai, xc_brk, xc_pass, ev, evs, asg, asgs, evo, rowOf, ofR, _root_.TR.R.bind, opD, opI, fin, gc_self, tru, truth, _root_.TR.R.ofO, Kc.d, mulOk_lt, mulOk_lt2, isaAny, isaD, permA, permD, cmD, cmI, runF, put_get, new_get, xc_whL, xc_fr, evi, srcOf, frL_fix, b1V, b1D_tuple, b1D_len, b1D_list, b1D_sum, b1D_min, b1D_max, biD, b1D_allT, lawT_con, lawCon, ixD, plc]
    omega
  show cond (rngOk 0 n && Nat.ble n.toNat SZ) (some (rngD 0 n.toNat)) none = _
  rw [e]; rfl
theorem rngD_len : ∀ (n : Nat) (a : Int), (rngD a n).length = n
  | 0, _ => rfl
  | n + 1, a => congrArg Nat.succ (rngD_len n (a + 1))
theorem evi_rng1 {k : Nat} {n : Int} {Rg : List D} {f : Fr} {s : Sto} (hr : rngOf [.int n] = some Rg) : evi (Mk k) (.rng [.c (.int n)]) f s = .ok (.fix Rg, Rg.length) s := by
  show (match rngOf [.int n] with
    | some r => (R.ok (.fix r, r.length) s : R (Src × Nat))
    | none => .bad) = _
  rw [hr]
theorem eqD_2 (s : Sto) (a b c d : Int) : eqD s (.tup [.int a, .int b]) (.tup [.int c, .int d]) = some (decide (a = c ∧ b = d)) := by
  have := eqD_I s [a, b] [c, d]
  simp only [I, List.map_cons, List.map_nil] at this
  rw [this]
  simp [ty1, ty2, ty3, ty4, ty5, ty6, ty7, ty8, ty9, ty10, ty11, ty12, ty13, ty14, ty15, ty16, ty17, ty18, ty19, ty20, ty21, ty22, ty23, ty24, ty25, xcs, xc_asg, xc_par, xc_ex, xc_ite, xc_ret, xc_rai, xc_brk, xc_pass, ev, evs, asg, asgs, evo, rowOf, ofR, _root_.TR.R.bind, opD, opI, fin, gc_self, tru, truth, _root_.TR.R.ofO, Kc.d, mulOk_lt, mulOk_lt2, isaAny, isaD, permA, permD, cmD, cmI, runF, put_get, new_get, xc_whL, xc_fr, evi, srcOf, frL_fix, b1V, b1D_tuple, b1D_len, b1D_list, b1D_sum, b1D_min, b1D_max, biD, b1D_allT, lawT_con, lawCon, ixD, plc]
theorem loopF_zip {k : Nat} {t : Tg} {b : List S} (all1 all2 : List D) : ∀ (d1 d2 : List D) (i m : Nat) (f : Fr) (s : Sto), all1.drop i = d1 → all2.drop i = d2 → d1.length ≤ m → loopF (nxt (.zp (.fix all1) (.fix all2))) (fun d f s => ofR f (asg (Mk k) t d f s) fun f s => xcs (Mk k) b f s) i m f s = forL k t b ((d1.zip d2).map fun p => .tup [p.1, p.2]) f s
  | [], d2, i, m, f, s, e1, e2, hm => by
    unfold loopF
    have h1 : all1[i]? = none := List.getElem?_eq_none (by have := congrArg List.length e1; simp [ty1, ty2, ty3, ty4, ty5, ty6, ty7, ty8, ty9, ty10, ty11, ty12, ty13, ty14, ty15, ty16, ty17, ty18, ty19, ty20, ty21, ty22, ty23, ty24, ty25, xcs, xc_asg, xc_par, xc_ex, xc_ite, xc_ret, xc_rai, xc_brk, xc_pass, ev, evs, asg, asgs, evo, rowOf, ofR, _root_.TR.R.bind, opD, opI, fin, gc_self, tru, truth, _root_.TR.R.ofO, Kc.d, mulOk_lt, mulOk_lt2, isaAny, isaD, permA, permD, cmD, cmI, runF, put_get, new_get, xc_whL, xc_fr, evi, srcOf, frL_fix, b1V, b1D_tuple, b1D_len, b1D_list, b1D_sum, b1D_min, b1D_max, biD, b1D_allT, lawT_con, lawCon, ixD, plc] at this; omega)
    simp [nxt, h1, forL, ty1, ty2, ty3, ty4, ty5, ty6, ty7, ty8, ty9, ty10, ty11, ty12, ty13, ty14, ty15, ty16, ty17, ty18, ty19, ty20, ty21, ty22, ty23, ty24, ty25, xcs, xc_asg, xc_par, xc_ex, xc_ite, xc_ret, xc_rai, xc_brk, xc_pass, ev, evs, asg, asgs, evo, rowOf, ofR, _root_.TR.R.bind, opD, opI, fin, gc_self, tru, truth, _root_.TR.R.ofO, Kc.d, mulOk_lt, mulOk_lt2, isaAny, isaD, permA, permD, cmD, cmI, runF, put_get, new_get, xc_whL, xc_fr, evi, srcOf, frL_fix, b1V, b1D_tuple, b1D_len, b1D_list, b1D_sum, b1D_min, b1D_max, biD, b1D_allT, lawT_con, lawCon, ixD, plc]
  | x :: d1, [], i, m, f, s, e1, e2, hm => by
    unfold loopF
    have h2 : all2[i]? = none := List.getElem?_eq_none (by have := congrArg List.length e2; simp [ty1, ty2, ty3, ty4, ty5, ty6, ty7, ty8, ty9, ty10, ty11, ty12, ty13, ty14, ty15, ty16, ty17, ty18, ty19, ty20, ty21, ty22, ty23, ty24, ty25, xcs, xc_asg, xc_par, xc_ex, xc_ite, xc_ret, xc_rai, xc_brk, xc_pass, ev, evs, asg, asgs, evo, rowOf, ofR, _root_.TR.R.bind, opD, opI, fin, gc_self, tru, truth, _root_.TR.R.ofO, Kc.d, mulOk_lt, mulOk_lt2, isaAny, isaD, permA, permD, cmD, cmI, runF, put_get, new_get, xc_whL, xc_fr, evi, srcOf, frL_fix, b1V, b1D_tuple, b1D_len, b1D_list, b1D_sum, b1D_min, b1D_max, biD, b1D_allT, lawT_con, lawCon, ixD, plc] at this; omega)
    have h1 : all1[i]? = some x := by rw [← List.head?_drop, e1]; rfl
    simp [nxt, h1, h2, forL, ty1, ty2, ty3, ty4, ty5, ty6, ty7, ty8, ty9, ty10, ty11, ty12, ty13, ty14, ty15, ty16, ty17, ty18, ty19, ty20, ty21, ty22, ty23, ty24, ty25, xcs, xc_asg, xc_par, xc_ex, xc_ite, xc_ret, xc_rai, xc_brk, xc_pass, ev, evs, asg, asgs, evo, rowOf, ofR, _root_.TR.R.bind, opD, opI, fin, gc_self, tru, truth, _root_.TR.R.ofO, Kc.d, mulOk_lt, mulOk_lt2, isaAny, isaD, permA, permD, cmD, cmI, runF, put_get, new_get, xc_whL, xc_fr, evi, srcOf, frL_fix, b1V, b1D_tuple, b1D_len, b1D_list, b1D_sum, b1D_min, b1D_max, biD, b1D_allT, lawT_con, lawCon, ixD, plc]
  | x :: d1, y :: d2, i, m, f, s, e1, e2, hm => by
    unfold loopF
    have h1 : all1[i]? = some x := by rw [← List.head?_drop, e1]; rfl
    have h2 : all2[i]? = some y := by rw [← List.head?_drop, e2]; rfl
    have g1 : all1.drop (i + 1) = d1 := by rw [← List.tail_drop, e1]; rfl
    have g2 : all2.drop (i + 1) = d2 := by rw [← List.tail_drop, e2]; rfl
    obtain ⟨m, rfl⟩ : ∃ m', m = m' + 1 := ⟨m - 1, by simp [ty1, ty2, ty3, ty4, ty5, ty6, ty7, ty8, ty9, ty10, ty11, ty12, ty13, ty14, ty15, ty16, ty17, ty18, ty19, ty20, ty21, ty22, ty23, ty24, ty25, xcs, xc_asg, xc_par, xc_ex, xc_ite, xc_ret, xc_rai, xc_brk, xc_pass, ev, evs, asg, asgs, evo, rowOf, ofR, _root_.TR.R.bind, opD, opI, fin, gc_self, tru, truth, _root_.TR.R.ofO, Kc.d, mulOk_lt, mulOk_lt2, isaAny, isaD, permA, permD, cmD, cmI, runF, put_get, new_get, xc_whL, xc_fr, evi, srcOf, frL_fix, b1V, b1D_tuple, b1D_len, b1D_list, b1D_sum, b1D_min, b1D_max, biD, b1D_allT, lawT_con, lawCon, ixD, plc] at hm; omega⟩
    have ih := fun f s => loopF_zip (k := k) (t := t) (b := b) all1 all2 d1 d2 (i + 1) m f s g1 g2 (by simp [ty1, ty2, ty3, ty4, ty5, ty6, ty7, ty8, ty9, ty10, ty11, ty12, ty13, ty14, ty15, ty16, ty17, ty18, ty19, ty20, ty21, ty22, ty23, ty24, ty25, xcs, xc_asg, xc_par, xc_ex, xc_ite, xc_ret, xc_rai, xc_brk, xc_pass, ev, evs, asg, asgs, evo, rowOf, ofR, _root_.TR.R.bind, opD, opI, fin, gc_self, tru, truth, _root_.TR.R.ofO, Kc.d, mulOk_lt, mulOk_lt2, isaAny, isaD, permA, permD, cmD, cmI, runF, put_get, new_get, xc_whL, xc_fr, evi, srcOf, frL_fix, b1V, b1D_tuple, b1D_len, b1D_list, b1D_sum, b1D_min, b1D_max, biD, b1D_allT, lawT_con, lawCon, ixD, plc] at hm; omega)
    simp only [nxt] at ih
    simp only [nxt, h1, h2, List.zip_cons_cons, List.map_cons, forL]
    cases ofR f (asg (Mk k) t (D.tup [x, y]) f s) fun f s => xcs (Mk k) b f s with
    | nx f' s' => exact ih f' s'
    | ct f' s' => exact ih f' s'
    | _ => rfl
theorem frL_zip {k : Nat} {t : Tg} {b : List S} {d1 d2 : List D} {f : Fr} {s : Sto} : frL k t b (.zp (.fix d1) (.fix d2), d1.length) f s = forL k t b ((d1.zip d2).map fun p => .tup [p.1, p.2]) f s := loopF_zip d1 d2 d1 d2 0 d1.length f s rfl rfl (Nat.le_refl _)
theorem srcZ_tt (s : Sto) (a b : List D) : srcZ s (.tup a) (.tup b) = some (.zp (.fix a) (.fix b), a.length) := rfl
theorem loopC_gen {nx : Nat → Sto → Option (Option D)} {body : D → Sto → R (Option D)} {g : D → Option D} {s : Sto} {all : List D} (hn : ∀ i, nx i s = some all[i]?) : ∀ (ds : List D) (i m : Nat), all.drop i = ds → ds.length ≤ m → (∀ d ∈ ds, body d s = .ok (g d) s) → loopC nx body i m s = .ok (ds.filterMap g) s
  | [], i, m, e, hm, h => by
    unfold loopC
    have : all[i]? = none := List.getElem?_eq_none (by have := congrArg List.length e; simp [ty1, ty2, ty3, ty4, ty5, ty6, ty7, ty8, ty9, ty10, ty11, ty12, ty13, ty14, ty15, ty16, ty17, ty18, ty19, ty20, ty21, ty22, ty23, ty24, ty25, xcs, xc_asg, xc_par, xc_ex, xc_ite, xc_ret, xc_rai, xc_brk, xc_pass, ev, evs, asg, asgs, evo, rowOf, ofR, _root_.TR.R.bind, opD, opI, fin, gc_self, tru, truth, _root_.TR.R.ofO, Kc.d, mulOk_lt, mulOk_lt2, isaAny, isaD, permA, permD, cmD, cmI, runF, put_get, new_get, xc_whL, xc_fr, evi, srcOf, frL_fix, b1V, b1D_tuple, b1D_len, b1D_list, b1D_sum, b1D_min, b1D_max, biD, b1D_allT, lawT_con, lawCon, ixD, plc] at this; omega)
    simp [hn, this, ty1, ty2, ty3, ty4, ty5, ty6, ty7, ty8, ty9, ty10, ty11, ty12, ty13, ty14, ty15, ty16, ty17, ty18, ty19, ty20, ty21, ty22, ty23, ty24, ty25, xcs, xc_asg, xc_par, xc_ex, xc_ite, xc_ret, xc_rai, xc_brk, xc_pass, ev, evs, asg, asgs, evo, rowOf, ofR, _root_.TR.R.bind, opD, opI, fin, gc_self, tru, truth, _root_.TR.R.ofO, Kc.d, mulOk_lt, mulOk_lt2, isaAny, isaD, permA, permD, cmD, cmI, runF, put_get, new_get, xc_whL, xc_fr, evi, srcOf, frL_fix, b1V, b1D_tuple, b1D_len, b1D_list, b1D_sum, b1D_min, b1D_max, biD, b1D_allT, lawT_con, lawCon, ixD, plc]
  | d :: ds, i, m, e, hm, h => by
    unfold loopC
    have hi : all[i]? = some d := by rw [← List.head?_drop, e]; rfl
    have hd : all.drop (i + 1) = ds := by rw [← List.tail_drop, e]; rfl
    obtain ⟨m, rfl⟩ : ∃ m', m = m' + 1 := ⟨m - 1, by simp [ty1, ty2, ty3, ty4, ty5, ty6, ty7, ty8, ty9, ty10, ty11, ty12, ty13, ty14, ty15, ty16, ty17, ty18, ty19, ty20, ty21, ty22, ty23, ty24, ty25, xcs, xc_asg, xc_par, xc_ex, xc_ite, xc_ret, xc_rai, xc_brk, xc_pass, ev, evs, asg, asgs, evo, rowOf, ofR, _root_.TR.R.bind, opD, opI, fin, gc_self, tru, truth, _root_.TR.R.ofO, Kc.d, mulOk_lt, mulOk_lt2, isaAny, isaD, permA, permD, cmD, cmI, runF, put_get, new_get, xc_whL, xc_fr, evi, srcOf, frL_fix, b1V, b1D_tuple, b1D_len, b1D_list, b1D_sum, b1D_min, b1D_max, biD, b1D_allT, lawT_con, lawCon, ixD, plc] at hm; omega⟩
    simp only [hn, hi]
    rw [h d (List.mem_cons_self ..)]
    show R.bind (loopC nx body (i + 1) m s) _ = _
    rw [loopC_gen hn ds (i + 1) m hd (by simp [ty1, ty2, ty3, ty4, ty5, ty6, ty7, ty8, ty9, ty10, ty11, ty12, ty13, ty14, ty15, ty16, ty17, ty18, ty19, ty20, ty21, ty22, ty23, ty24, ty25, xcs, xc_asg, xc_par, xc_ex, xc_ite, xc_ret, xc_rai, xc_brk, xc_pass, ev, evs, asg, asgs, evo, rowOf, ofR, _root_.TR.R.bind, opD, opI, fin, gc_self, tru, truth, _root_.TR.R.ofO, Kc.d, mulOk_lt, mulOk_lt2, isaAny, isaD, permA, permD, cmD, cmI, runF, put_get, new_get, xc_whL, xc_fr, evi, srcOf, frL_fix, b1V, b1D_tuple, b1D_len, b1D_list, b1D_sum, b1D_min, b1D_max, biD, b1D_allT, lawT_con, lawCon, ixD, plc] at hm; omega) fun x hx => h x (List.mem_cons_of_mem _ hx)]
    cases hg : g d <;> simp [R.bind, hg, ty1, ty2, ty3, ty4, ty5, ty6, ty7, ty8, ty9, ty10, ty11, ty12, ty13, ty14, ty15, ty16, ty17, ty18, ty19, ty20, ty21, ty22, ty23, ty24, ty25, xcs, xc_asg, xc_par, xc_ex, xc_ite, xc_ret, xc_rai, xc_brk, xc_pass, ev, evs, asg, asgs, evo, rowOf, ofR, opD, opI, fin, gc_self, tru, truth, _root_.TR.R.ofO, Kc.d, mulOk_lt, mulOk_lt2, isaAny, isaD, permA, permD, cmD, cmI, runF, put_get, new_get, xc_whL, xc_fr, evi, srcOf, frL_fix, b1V, b1D_tuple, b1D_len, b1D_list, b1D_sum, b1D_min, b1D_max, biD, b1D_allT, lawT_con, lawCon, ixD, plc]
theorem rd_bl (n : Nat) (s : Sto) (b : Bool) : rd (n + 1) s (.bl b) = some (.bool b) := rfl
theorem rd_str (n : Nat) (s : Sto) (b : PySem.Str) : rd (n + 1) s (.str b) = some (.str b) := rfl
theorem eqD_bl (s : Sto) (b c : Bool) : eqD s (.bl b) (.bl c) = some (b == c) := by
  unfold eqD RDN
  rw [rd_bl 39, rd_bl 39]
  rfl
theorem eqD_str (s : Sto) (b : PySem.Str) : eqD s (.str b) (.str b) = some true := by
  unfold eqD RDN
  rw [rd_str 39]
  simp [eqP, ty1, ty2, ty3, ty4, ty5, ty6, ty7, ty8, ty9, ty10, ty11, ty12, ty13, ty14, ty15, ty16, ty17, ty18, ty19, ty20, ty21, ty22, ty23, ty24, ty25, xcs, xc_asg, xc_par, xc_ex, xc_ite, xc_ret, xc_rai, xc_brk, xc_pass, ev, evs, asg, asgs, evo, rowOf, ofR, _root_.TR.R.bind, opD, opI, fin, gc_self, tru, truth, _root_.TR.R.ofO, Kc.d, mulOk_lt, mulOk_lt2, isaAny, isaD, permA, permD, cmD, cmI, runF, put_get, new_get, xc_whL, xc_fr, evi, srcOf, frL_fix, b1V, b1D_tuple, b1D_len, b1D_list, b1D_sum, b1D_min, b1D_max, biD, b1D_allT, lawT_con, lawCon, ixD, plc]
def Same (k : Nat) (s : Sto) (x y : D) : Prop := Phi lawT W31 k 313 [x, y] s = .ok (.bl true) s
def zipD : List D → List D → List D
  | x :: a, y :: b => .tup [x, y] :: zipD a b
  | _, _ => []
theorem zipD_get : ∀ (a b : List D) (i : Nat), (zipD a b)[i]? = match a[i]? with
    | some d => (match b[i]? with
      | some e => some (D.tup [d, e])
      | none => none)
    | none => none
  | [], b, i => by simp [zipD, ty1, ty2, ty3, ty4, ty5, ty6, ty7, ty8, ty9, ty10, ty11, ty12, ty13, ty14, ty15, ty16, ty17, ty18, ty19, ty20, ty21, ty22, ty23, ty24, ty25, xcs, xc_asg, xc_par, xc_ex, xc_ite, xc_ret, xc_rai, xc_brk, xc_pass, ev, evs, asg, asgs, evo, rowOf, ofR, _root_.TR.R.bind, opD, opI, fin, gc_self, tru, truth, _root_.TR.R.ofO, Kc.d, mulOk_lt, mulOk_lt2, isaAny, isaD, permA, permD, cmD, cmI, runF, put_get, new_get, xc_whL, xc_fr, evi, srcOf, frL_fix, b1V, b1D_tuple, b1D_len, b1D_list, b1D_sum, b1D_min, b1D_max, biD, b1D_allT, lawT_con, lawCon, ixD, plc, frL_zip, srcZ_tt, eqD_bl, eqD_str]
  | x :: a, [], i => by cases h : (x :: a)[i]? <;> simp [zipD, ty1, ty2, ty3, ty4, ty5, ty6, ty7, ty8, ty9, ty10, ty11, ty12, ty13, ty14, ty15, ty16, ty17, ty18, ty19, ty20, ty21, ty22, ty23, ty24, ty25, xcs, xc_asg, xc_par, xc_ex, xc_ite, xc_ret, xc_rai, xc_brk, xc_pass, ev, evs, asg, asgs, evo, rowOf, ofR, _root_.TR.R.bind, opD, opI, fin, gc_self, tru, truth, _root_.TR.R.ofO, Kc.d, mulOk_lt, mulOk_lt2, isaAny, isaD, permA, permD, cmD, cmI, runF, put_get, new_get, xc_whL, xc_fr, evi, srcOf, frL_fix, b1V, b1D_tuple, b1D_len, b1D_list, b1D_sum, b1D_min, b1D_max, biD, b1D_allT, lawT_con, lawCon, ixD, plc, frL_zip, srcZ_tt, eqD_bl, eqD_str]
  | x :: a, y :: b, 0 => by simp [zipD, ty1, ty2, ty3, ty4, ty5, ty6, ty7, ty8, ty9, ty10, ty11, ty12, ty13, ty14, ty15, ty16, ty17, ty18, ty19, ty20, ty21, ty22, ty23, ty24, ty25, xcs, xc_asg, xc_par, xc_ex, xc_ite, xc_ret, xc_rai, xc_brk, xc_pass, ev, evs, asg, asgs, evo, rowOf, ofR, _root_.TR.R.bind, opD, opI, fin, gc_self, tru, truth, _root_.TR.R.ofO, Kc.d, mulOk_lt, mulOk_lt2, isaAny, isaD, permA, permD, cmD, cmI, runF, put_get, new_get, xc_whL, xc_fr, evi, srcOf, frL_fix, b1V, b1D_tuple, b1D_len, b1D_list, b1D_sum, b1D_min, b1D_max, biD, b1D_allT, lawT_con, lawCon, ixD, plc, frL_zip, srcZ_tt, eqD_bl, eqD_str]
  | x :: a, y :: b, i + 1 => by simp [zipD, zipD_get a b i, ty1, ty2, ty3, ty4, ty5, ty6, ty7, ty8, ty9, ty10, ty11, ty12, ty13, ty14, ty15, ty16, ty17, ty18, ty19, ty20, ty21, ty22, ty23, ty24, ty25, xcs, xc_asg, xc_par, xc_ex, xc_ite, xc_ret, xc_rai, xc_brk, xc_pass, ev, evs, asg, asgs, evo, rowOf, ofR, _root_.TR.R.bind, opD, opI, fin, gc_self, tru, truth, _root_.TR.R.ofO, Kc.d, mulOk_lt, mulOk_lt2, isaAny, isaD, permA, permD, cmD, cmI, runF, put_get, new_get, xc_whL, xc_fr, evi, srcOf, frL_fix, b1V, b1D_tuple, b1D_len, b1D_list, b1D_sum, b1D_min, b1D_max, biD, b1D_allT, lawT_con, lawCon, ixD, plc, frL_zip, srcZ_tt, eqD_bl, eqD_str]
theorem zipD_len : ∀ (a b : List D), (zipD a b).length ≤ a.length
  | [], b => by simp [zipD, ty1, ty2, ty3, ty4, ty5, ty6, ty7, ty8, ty9, ty10, ty11, ty12, ty13, ty14, ty15, ty16, ty17, ty18, ty19, ty20, ty21, ty22, ty23, ty24, ty25, xcs, xc_asg, xc_par, xc_ex, xc_ite, xc_ret, xc_rai, xc_brk, xc_pass, ev, evs, asg, asgs, evo, rowOf, ofR, _root_.TR.R.bind, opD, opI, fin, gc_self, tru, truth, _root_.TR.R.ofO, Kc.d, mulOk_lt, mulOk_lt2, isaAny, isaD, permA, permD, cmD, cmI, runF, put_get, new_get, xc_whL, xc_fr, evi, srcOf, frL_fix, b1V, b1D_tuple, b1D_len, b1D_list, b1D_sum, b1D_min, b1D_max, biD, b1D_allT, lawT_con, lawCon, ixD, plc, frL_zip, srcZ_tt, eqD_bl, eqD_str]
  | x :: a, [] => by simp [zipD, ty1, ty2, ty3, ty4, ty5, ty6, ty7, ty8, ty9, ty10, ty11, ty12, ty13, ty14, ty15, ty16, ty17, ty18, ty19, ty20, ty21, ty22, ty23, ty24, ty25, xcs, xc_asg, xc_par, xc_ex, xc_ite, xc_ret, xc_rai, xc_brk, xc_pass, ev, evs, asg, asgs, evo, rowOf, ofR, _root_.TR.R.bind, opD, opI, fin, gc_self, tru, truth, _root_.TR.R.ofO, Kc.d, mulOk_lt, mulOk_lt2, isaAny, isaD, permA, permD, cmD, cmI, runF, put_get, new_get, xc_whL, xc_fr, evi, srcOf, frL_fix, b1V, b1D_tuple, b1D_len, b1D_list, b1D_sum, b1D_min, b1D_max, biD, b1D_allT, lawT_con, lawCon, ixD, plc, frL_zip, srcZ_tt, eqD_bl, eqD_str]
  | x :: a, y :: b => by simp [zipD, zipD_len a b, ty1, ty2, ty3, ty4, ty5, ty6, ty7, ty8, ty9, ty10, ty11, ty12, ty13, ty14, ty15, ty16, ty17, ty18, ty19, ty20, ty21, ty22, ty23, ty24, ty25, xcs, xc_asg, xc_par, xc_ex, xc_ite, xc_ret, xc_rai, xc_brk, xc_pass, ev, evs, asg, asgs, evo, rowOf, ofR, _root_.TR.R.bind, opD, opI, fin, gc_self, tru, truth, _root_.TR.R.ofO, Kc.d, mulOk_lt, mulOk_lt2, isaAny, isaD, permA, permD, cmD, cmI, runF, put_get, new_get, xc_whL, xc_fr, evi, srcOf, frL_fix, b1V, b1D_tuple, b1D_len, b1D_list, b1D_sum, b1D_min, b1D_max, biD, b1D_allT, lawT_con, lawCon, ixD, plc, frL_zip, srcZ_tt, eqD_bl, eqD_str]
theorem zipD_mem {a b : List D} {d : D} (h : d ∈ zipD a b) : ∃ x y, d = .tup [x, y] ∧ (x, y) ∈ a.zip b := by
  induction a generalizing b with
  | nil => simp [zipD, ty1, ty2, ty3, ty4, ty5, ty6, ty7, ty8, ty9, ty10, ty11, ty12, ty13, ty14, ty15, ty16, ty17, ty18, ty19, ty20, ty21, ty22, ty23, ty24, ty25, xcs, xc_asg, xc_par, xc_ex, xc_ite, xc_ret, xc_rai, xc_brk, xc_pass, ev, evs, asg, asgs, evo, rowOf, ofR, _root_.TR.R.bind, opD, opI, fin, gc_self, tru, truth, _root_.TR.R.ofO, Kc.d, mulOk_lt, mulOk_lt2, isaAny, isaD, permA, permD, cmD, cmI, runF, put_get, new_get, xc_whL, xc_fr, evi, srcOf, frL_fix, b1V, b1D_tuple, b1D_len, b1D_list, b1D_sum, b1D_min, b1D_max, biD, b1D_allT, lawT_con, lawCon, ixD, plc, frL_zip, srcZ_tt, eqD_bl, eqD_str] at h
  | cons x a ih =>
    cases b with
    | nil => simp [zipD, ty1, ty2, ty3, ty4, ty5, ty6, ty7, ty8, ty9, ty10, ty11, ty12, ty13, ty14, ty15, ty16, ty17, ty18, ty19, ty20, ty21, ty22, ty23, ty24, ty25, xcs, xc_asg, xc_par, xc_ex, xc_ite, xc_ret, xc_rai, xc_brk, xc_pass, ev, evs, asg, asgs, evo, rowOf, ofR, _root_.TR.R.bind, opD, opI, fin, gc_self, tru, truth, _root_.TR.R.ofO, Kc.d, mulOk_lt, mulOk_lt2, isaAny, isaD, permA, permD, cmD, cmI, runF, put_get, new_get, xc_whL, xc_fr, evi, srcOf, frL_fix, b1V, b1D_tuple, b1D_len, b1D_list, b1D_sum, b1D_min, b1D_max, biD, b1D_allT, lawT_con, lawCon, ixD, plc, frL_zip, srcZ_tt, eqD_bl, eqD_str] at h
    | cons y b =>
      simp only [zipD, List.mem_cons] at h
      rcases h with rfl | h
      · exact ⟨x, y, rfl, by simp [ty1, ty2, ty3, ty4, ty5, ty6, ty7, ty8, ty9, ty10, ty11, ty12, ty13, ty14, ty15, ty16, ty17, ty18, ty19, ty20, ty21, ty22, ty23, ty24, ty25, xcs, xc_asg, xc_par, xc_ex, xc_ite, xc_ret, xc_rai, xc_brk, xc_pass, ev, evs, asg, asgs, evo, rowOf, ofR, _root_.TR.R.bind, opD, opI, fin, gc_self, tru, truth, _root_.TR.R.ofO, Kc.d, mulOk_lt, mulOk_lt2, isaAny, isaD, permA, permD, cmD, cmI, runF, put_get, new_get, xc_whL, xc_fr, evi, srcOf, frL_fix, b1V, b1D_tuple, b1D_len, b1D_list, b1D_sum, b1D_min, b1D_max, biD, b1D_allT, lawT_con, lawCon, ixD, plc, frL_zip, srcZ_tt, eqD_bl, eqD_str]⟩
      · obtain ⟨u, v, e, hm⟩ := ih h
        exact ⟨u, v, e, by simp [hm, ty1, ty2, ty3, ty4, ty5, ty6, ty7, ty8, ty9, ty10, ty11, ty12, ty13, ty14, ty15, ty16, ty17, ty18, ty19, ty20, ty21, ty22, ty23, ty24, ty25, xcs, xc_asg, xc_par, xc_ex, xc_ite, xc_ret, xc_rai, xc_brk, xc_pass, ev, evs, asg, asgs, evo, rowOf, ofR, _root_.TR.R.bind, opD, opI, fin, gc_self, tru, truth, _root_.TR.R.ofO, Kc.d, mulOk_lt, mulOk_lt2, isaAny, isaD, permA, permD, cmD, cmI, runF, put_get, new_get, xc_whL, xc_fr, evi, srcOf, frL_fix, b1V, b1D_tuple, b1D_len, b1D_list, b1D_sum, b1D_min, b1D_max, biD, b1D_allT, lawT_con, lawCon, ixD, plc, frL_zip, srcZ_tt, eqD_bl, eqD_str]⟩
theorem evq_zip {k : Nat} {src : Src × Nat} {s : Sto} {a b : List D} {f : Fr} (hf : 4 ≤ f.length) (hi : evi (Mk k) (.zip (.v 0) (.v 1)) f s = .ok src s) (hn : ∀ i, nxt src.1 i s = some (zipD a b)[i]?) (hm : (zipD a b).length ≤ src.2) (h : ∀ x y, (x, y) ∈ a.zip b → Same k s x y) :
    evq (Mk k) (.comp (.call 313 [] [(.v 2), (.v 3)]) (.t [(.n 2), (.n 3)]) [2, 3] (.zip (.v 0) (.v 1)) []) f s = .ok ((zipD a b).map fun _ => .bl true) s := by
  rw [evq, hi]
  simp only [R.bind]
  rw [loopC_gen (g := fun _ => some (.bl true)) hn (zipD a b) 0 src.2 rfl hm fun d hd => ?_]
  · simp [ty1, ty2, ty3, ty4, ty5, ty6, ty7, ty8, ty9, ty10, ty11, ty12, ty13, ty14, ty15, ty16, ty17, ty18, ty19, ty20, ty21, ty22, ty23, ty24, ty25, xcs, xc_asg, xc_par, xc_ex, xc_ite, xc_ret, xc_rai, xc_brk, xc_pass, ev, evs, asg, asgs, evo, rowOf, ofR, _root_.TR.R.bind, opD, opI, fin, gc_self, tru, truth, _root_.TR.R.ofO, Kc.d, mulOk_lt, mulOk_lt2, isaAny, isaD, permA, permD, cmD, cmI, runF, put_get, new_get, xc_whL, xc_fr, evi, srcOf, frL_fix, b1V, b1D_tuple, b1D_len, b1D_list, b1D_sum, b1D_min, b1D_max, biD, b1D_allT, lawT_con, lawCon, ixD, plc, frL_zip, srcZ_tt, eqD_bl, eqD_str]
  · obtain ⟨x, y, rfl, hxy⟩ := zipD_mem hd
    have hs := h x y hxy
    unfold Same at hs
    match f, hf with
    | f0 :: f1 :: f2 :: f3 :: fr, _ =>
      simp [wipe, evt, hs, R.nox, ty1, ty2, ty3, ty4, ty5, ty6, ty7, ty8, ty9, ty10, ty11, ty12, ty13, ty14, ty15, ty16, ty17, ty18, ty19, ty20, ty21, ty22, ty23, ty24, ty25, xcs, xc_asg, xc_par, xc_ex, xc_ite, xc_ret, xc_rai, xc_brk, xc_pass, ev, evs, asg, asgs, evo, rowOf, ofR, _root_.TR.R.bind, opD, opI, fin, gc_self, tru, truth, _root_.TR.R.ofO, Kc.d, mulOk_lt, mulOk_lt2, isaAny, isaD, permA, permD, cmD, cmI, runF, put_get, new_get, xc_whL, xc_fr, evi, srcOf, frL_fix, b1V, b1D_tuple, b1D_len, b1D_list, b1D_sum, b1D_min, b1D_max, biD, b1D_allT, lawT_con, lawCon, ixD, plc, frL_zip, srcZ_tt, eqD_bl, eqD_str]
theorem Same_tup {k : Nat} {s : Sto} {a b : List D} (hl : a.length = b.length) (h : ∀ x y, (x, y) ∈ a.zip b → Same k s x y) : Same (k + 1) s (.tup a) (.tup b) := by
  unfold Same
  rw [Phi_step k 313 _ _ _ rfl]
  have he := evq_zip (k := k) (f := [some (.tup a), some (.tup b), none, none]) (src := (.zp (.fix a) (.fix b), a.length)) (s := s) (a := a) (b := b) (by simp [ty1, ty2, ty3, ty4, ty5, ty6, ty7, ty8, ty9, ty10, ty11, ty12, ty13, ty14, ty15, ty16, ty17, ty18, ty19, ty20, ty21, ty22, ty23, ty24, ty25, xcs, xc_asg, xc_par, xc_ex, xc_ite, xc_ret, xc_rai, xc_brk, xc_pass, ev, evs, asg, asgs, evo, rowOf, ofR, _root_.TR.R.bind, opD, opI, fin, gc_self, tru, truth, _root_.TR.R.ofO, Kc.d, mulOk_lt, mulOk_lt2, isaAny, isaD, permA, permD, cmD, cmI, runF, put_get, new_get, xc_whL, xc_fr, evi, srcOf, frL_fix, b1V, b1D_tuple, b1D_len, b1D_list, b1D_sum, b1D_min, b1D_max, biD, b1D_allT, lawT_con, lawCon, ixD, plc, frL_zip, srcZ_tt, eqD_bl, eqD_str]) (by simp [evi, ty1, ty2, ty3, ty4, ty5, ty6, ty7, ty8, ty9, ty10, ty11, ty12, ty13, ty14, ty15, ty16, ty17, ty18, ty19, ty20, ty21, ty22, ty23, ty24, ty25, xcs, xc_asg, xc_par, xc_ex, xc_ite, xc_ret, xc_rai, xc_brk, xc_pass, ev, evs, asg, asgs, evo, rowOf, ofR, _root_.TR.R.bind, opD, opI, fin, gc_self, tru, truth, _root_.TR.R.ofO, Kc.d, mulOk_lt, mulOk_lt2, isaAny, isaD, permA, permD, cmD, cmI, runF, put_get, new_get, xc_whL, xc_fr, srcOf, frL_fix, b1V, b1D_tuple, b1D_len, b1D_list, b1D_sum, b1D_min, b1D_max, biD, b1D_allT, lawT_con, lawCon, ixD, plc, frL_zip, srcZ_tt, eqD_bl, eqD_str]) (fun i => by simp only [nxt]; rw [zipD_get]; all_goals (cases a[i]? <;> cases b[i]? <;> rfl)) (zipD_len a b) h
  simp [c_k55__law_same, he, hl, ty1, ty2, ty3, ty4, ty5, ty6, ty7, ty8, ty9, ty10, ty11, ty12, ty13, ty14, ty15, ty16, ty17, ty18, ty19, ty20, ty21, ty22, ty23, ty24, ty25, xcs, xc_asg, xc_par, xc_ex, xc_ite, xc_ret, xc_rai, xc_brk, xc_pass, ev, evs, asg, asgs, evo, rowOf, ofR, _root_.TR.R.bind, opD, opI, fin, gc_self, tru, truth, _root_.TR.R.ofO, Kc.d, mulOk_lt, mulOk_lt2, isaAny, isaD, permA, permD, cmD, cmI, runF, put_get, new_get, xc_whL, xc_fr, evi, srcOf, frL_fix, b1V, b1D_tuple, b1D_len, b1D_list, b1D_sum, b1D_min, b1D_max, biD, b1D_allT, lawT_con, lawCon, ixD, plc, frL_zip, srcZ_tt, eqD_bl, eqD_str]
theorem srcZ_ll {s : Sto} {p q : Nat} {a b : List D} (ha : s.get p = some (.lst a)) (hb : s.get q = some (.lst b)) : srcZ s (.ref p) (.ref q) = some (.zp (.lv p) (.lv q), SZ) := by
  unfold srcZ srcL
  simp only [ha, hb]
theorem Same_lst {k : Nat} {s : Sto} {p q : Nat} {a b : List D} (ha : s.get p = some (.lst a)) (hb : s.get q = some (.lst b)) (hl : a.length = b.length) (hz : a.length ≤ 100000) (h : ∀ x y, (x, y) ∈ a.zip b → Same k s x y) : Same (k + 1) s (.ref p) (.ref q) := by
  unfold Same
  rw [Phi_step k 313 _ _ _ rfl]
  have he := evq_zip (k := k) (f := [some (.ref p), some (.ref q), none, none]) (src := (.zp (.lv p) (.lv q), SZ)) (s := s) (a := a) (b := b) (by simp [ty1, ty2, ty3, ty4, ty5, ty6, ty7, ty8, ty9, ty10, ty11, ty12, ty13, ty14, ty15, ty16, ty17, ty18, ty19, ty20, ty21, ty22, ty23, ty24, ty25, xcs, xc_asg, xc_par, xc_ex, xc_ite, xc_ret, xc_rai, xc_brk, xc_pass, ev, evs, asg, asgs, evo, rowOf, ofR, _root_.TR.R.bind, opD, opI, fin, gc_self, tru, truth, _root_.TR.R.ofO, Kc.d, mulOk_lt, mulOk_lt2, isaAny, isaD, permA, permD, cmD, cmI, runF, put_get, new_get, xc_whL, xc_fr, evi, srcOf, frL_fix, b1V, b1D_tuple, b1D_len, b1D_list, b1D_sum, b1D_min, b1D_max, biD, b1D_allT, lawT_con, lawCon, ixD, plc, frL_zip, srcZ_tt, eqD_bl, eqD_str]) (by
      have := srcZ_ll ha hb
      generalize SZ = Z at *
      simp [evi, this, ty1, ty2, ty3, ty4, ty5, ty6, ty7, ty8, ty9, ty10, ty11, ty12, ty13, ty14, ty15, ty16, ty17, ty18, ty19, ty20, ty21, ty22, ty23, ty24, ty25, xcs, xc_asg, xc_par, xc_ex, xc_ite, xc_ret, xc_rai, xc_brk, xc_pass, ev, evs, asg, asgs, evo, rowOf, ofR, _root_.TR.R.bind, opD, opI, fin, gc_self, tru, truth, _root_.TR.R.ofO, Kc.d, mulOk_lt, mulOk_lt2, isaAny, isaD, permA, permD, cmD, cmI, runF, put_get, new_get, xc_whL, xc_fr, srcOf, frL_fix, b1V, b1D_tuple, b1D_len, b1D_list, b1D_sum, b1D_min, b1D_max, biD, b1D_allT, lawT_con, lawCon, ixD, plc, frL_zip, srcZ_tt, eqD_bl, eqD_str]) (fun i => by simp only [nxt, ha, hb]; rw [zipD_get]; all_goals (cases a[i]? <;> cases b[i]? <;> rfl)) (by have := zipD_len a b; unfold SZ; omega) h
  generalize SZ = Z at *
  simp [c_k55__law_same, he, hl, ha, hb, ty1, ty2, ty3, ty4, ty5, ty6, ty7, ty8, ty9, ty10, ty11, ty12, ty13, ty14, ty15, ty16, ty17, ty18, ty19, ty20, ty21, ty22, ty23, ty24, ty25, xcs, xc_asg, xc_par, xc_ex, xc_ite, xc_ret, xc_rai, xc_brk, xc_pass, ev, evs, asg, asgs, evo, rowOf, ofR, _root_.TR.R.bind, opD, opI, fin, gc_self, tru, truth, _root_.TR.R.ofO, Kc.d, mulOk_lt, mulOk_lt2, isaAny, isaD, permA, permD, cmD, cmI, runF, put_get, new_get, xc_whL, xc_fr, evi, srcOf, frL_fix, b1V, b1D_tuple, b1D_len, b1D_list, b1D_sum, b1D_min, b1D_max, biD, b1D_allT, lawT_con, lawCon, ixD, plc, frL_zip, srcZ_tt, eqD_bl, eqD_str]
theorem Same_int (k : Nat) (s : Sto) (x : Int) : Same (k + 1) s (.int x) (.int x) := by
  unfold Same
  rw [Phi_step k 313 _ _ _ rfl]
  simp [c_k55__law_same, isNone, ty1, ty2, ty3, ty4, ty5, ty6, ty7, ty8, ty9, ty10, ty11, ty12, ty13, ty14, ty15, ty16, ty17, ty18, ty19, ty20, ty21, ty22, ty23, ty24, ty25, xcs, xc_asg, xc_par, xc_ex, xc_ite, xc_ret, xc_rai, xc_brk, xc_pass, ev, evs, asg, asgs, evo, rowOf, ofR, _root_.TR.R.bind, opD, opI, fin, gc_self, tru, truth, _root_.TR.R.ofO, Kc.d, mulOk_lt, mulOk_lt2, isaAny, isaD, permA, permD, cmD, cmI, runF, put_get, new_get, xc_whL, xc_fr, evi, srcOf, frL_fix, b1V, b1D_tuple, b1D_len, b1D_list, b1D_sum, b1D_min, b1D_max, biD, b1D_allT, lawT_con, lawCon, ixD, plc, frL_zip, srcZ_tt, eqD_bl, eqD_str]
theorem Same_bl (k : Nat) (s : Sto) (x : Bool) : Same (k + 1) s (.bl x) (.bl x) := by
  unfold Same
  rw [Phi_step k 313 _ _ _ rfl]
  simp [c_k55__law_same, isNone, eqD_bl, ty1, ty2, ty3, ty4, ty5, ty6, ty7, ty8, ty9, ty10, ty11, ty12, ty13, ty14, ty15, ty16, ty17, ty18, ty19, ty20, ty21, ty22, ty23, ty24, ty25, xcs, xc_asg, xc_par, xc_ex, xc_ite, xc_ret, xc_rai, xc_brk, xc_pass, ev, evs, asg, asgs, evo, rowOf, ofR, _root_.TR.R.bind, opD, opI, fin, gc_self, tru, truth, _root_.TR.R.ofO, Kc.d, mulOk_lt, mulOk_lt2, isaAny, isaD, permA, permD, cmD, cmI, runF, put_get, new_get, xc_whL, xc_fr, evi, srcOf, frL_fix, b1V, b1D_tuple, b1D_len, b1D_list, b1D_sum, b1D_min, b1D_max, biD, b1D_allT, lawT_con, lawCon, ixD, plc, frL_zip, srcZ_tt, eqD_str]
theorem Same_str (k : Nat) (s : Sto) (x : PySem.Str) : Same (k + 1) s (.str x) (.str x) := by
  unfold Same
  rw [Phi_step k 313 _ _ _ rfl]
  simp [c_k55__law_same, isNone, eqD_bl, eqD_str, ty1, ty2, ty3, ty4, ty5, ty6, ty7, ty8, ty9, ty10, ty11, ty12, ty13, ty14, ty15, ty16, ty17, ty18, ty19, ty20, ty21, ty22, ty23, ty24, ty25, xcs, xc_asg, xc_par, xc_ex, xc_ite, xc_ret, xc_rai, xc_brk, xc_pass, ev, evs, asg, asgs, evo, rowOf, ofR, _root_.TR.R.bind, opD, opI, fin, gc_self, tru, truth, _root_.TR.R.ofO, Kc.d, mulOk_lt, mulOk_lt2, isaAny, isaD, permA, permD, cmD, cmI, runF, put_get, new_get, xc_whL, xc_fr, evi, srcOf, frL_fix, b1V, b1D_tuple, b1D_len, b1D_list, b1D_sum, b1D_min, b1D_max, biD, b1D_allT, lawT_con, lawCon, ixD, plc, frL_zip, srcZ_tt]
theorem zip_self {α : Type} {a : List α} {x y : α} (h : (x, y) ∈ a.zip a) : x = y ∧ x ∈ a := by
  induction a with
  | nil => simp [ty1, ty2, ty3, ty4, ty5, ty6, ty7, ty8, ty9, ty10, ty11, ty12, ty13, ty14, ty15, ty16, ty17, ty18, ty19, ty20, ty21, ty22, ty23, ty24, ty25, xcs, xc_asg, xc_par, xc_ex, xc_ite, xc_ret, xc_rai, xc_brk, xc_pass, ev, evs, asg, asgs, evo, rowOf, ofR, _root_.TR.R.bind, opD, opI, fin, gc_self, tru, truth, _root_.TR.R.ofO, Kc.d, mulOk_lt, mulOk_lt2, isaAny, isaD, permA, permD, cmD, cmI, runF, put_get, new_get, xc_whL, xc_fr, evi, srcOf, frL_fix, b1V, b1D_tuple, b1D_len, b1D_list, b1D_sum, b1D_min, b1D_max, biD, b1D_allT, lawT_con, lawCon, ixD, plc, frL_zip, srcZ_tt, eqD_bl, eqD_str] at h
  | cons z a ih =>
    simp only [List.zip_cons_cons, List.mem_cons, Prod.mk.injEq] at h
    rcases h with ⟨rfl, rfl⟩ | h
    · exact ⟨rfl, by simp [ty1, ty2, ty3, ty4, ty5, ty6, ty7, ty8, ty9, ty10, ty11, ty12, ty13, ty14, ty15, ty16, ty17, ty18, ty19, ty20, ty21, ty22, ty23, ty24, ty25, xcs, xc_asg, xc_par, xc_ex, xc_ite, xc_ret, xc_rai, xc_brk, xc_pass, ev, evs, asg, asgs, evo, rowOf, ofR, _root_.TR.R.bind, opD, opI, fin, gc_self, tru, truth, _root_.TR.R.ofO, Kc.d, mulOk_lt, mulOk_lt2, isaAny, isaD, permA, permD, cmD, cmI, runF, put_get, new_get, xc_whL, xc_fr, evi, srcOf, frL_fix, b1V, b1D_tuple, b1D_len, b1D_list, b1D_sum, b1D_min, b1D_max, biD, b1D_allT, lawT_con, lawCon, ixD, plc, frL_zip, srcZ_tt, eqD_bl, eqD_str]⟩
    · have := ih h
      exact ⟨this.1, by simp [this.2, ty1, ty2, ty3, ty4, ty5, ty6, ty7, ty8, ty9, ty10, ty11, ty12, ty13, ty14, ty15, ty16, ty17, ty18, ty19, ty20, ty21, ty22, ty23, ty24, ty25, xcs, xc_asg, xc_par, xc_ex, xc_ite, xc_ret, xc_rai, xc_brk, xc_pass, ev, evs, asg, asgs, evo, rowOf, ofR, _root_.TR.R.bind, opD, opI, fin, gc_self, tru, truth, _root_.TR.R.ofO, Kc.d, mulOk_lt, mulOk_lt2, isaAny, isaD, permA, permD, cmD, cmI, runF, put_get, new_get, xc_whL, xc_fr, evi, srcOf, frL_fix, b1V, b1D_tuple, b1D_len, b1D_list, b1D_sum, b1D_min, b1D_max, biD, b1D_allT, lawT_con, lawCon, ixD, plc, frL_zip, srcZ_tt, eqD_bl, eqD_str]⟩
theorem Same_I (k : Nat) (s : Sto) (xs : List Int) : Same (k + 2) s (.tup (I xs)) (.tup (I xs)) :=
  Same_tup rfl fun x y h => by
    obtain ⟨rfl, hx⟩ := zip_self h
    obtain ⟨z, _, rfl⟩ := mem_I hx
    exact Same_int k s z
theorem nox_ok {α : Type} (a : α) (s : Sto) : R.nox (.ok a s) = .ok a s := rfl
theorem xc_tr {M : Sem} {b hs f s} : xc M (.tr b hs) f s = match xcs M b f s with
    | .ex e f' s' => xh M hs e f' s'
    | o => o := rfl
structure Tin (s : Sto) (a : Nat) (c : Nat) : Prop where
  lt : a < s.next
  has : ∃ x y z : Int, s.get a = some (.lst [.int x, .int y, .int z]) ∧ 0 ≤ y ∧ y ≤ 4611686018427387904 ∧ 0 ≤ z ∧ z ≤ c
theorem Tin.mono {s : Sto} {a c d : Nat} (h : Tin s a c) (hd : c ≤ d) : Tin s a d := by
  obtain ⟨h1, x, y, z, h2, h3, h4, h5, h6⟩ := h
  exact ⟨h1, x, y, z, h2, h3, h4, h5, by omega⟩
/-- the tin alone is written, new cells are made -/
structure Dr (a : Nat) (s s' : Sto) : Prop where
  le : s.next ≤ s'.next
  keep : ∀ b, b < s.next → b ≠ a → s'.get b = s.get b
theorem Dr.refl (a : Nat) (s : Sto) : Dr a s s := ⟨Nat.le_refl _, fun _ _ _ => rfl⟩
theorem Dr.trans {a : Nat} {s s1 s2 : Sto} (h : Dr a s s1) (k : Dr a s1 s2) : Dr a s s2 :=
  ⟨Nat.le_trans h.le k.le, fun b hb hn => (k.keep b (Nat.lt_of_lt_of_le hb h.le) hn).trans (h.keep b hb hn)⟩
theorem Dr.new {a : Nat} {s s' : Sto} (h : Dr a s s') (c : Cell) : Dr a s (s'.new c) :=
  ⟨Nat.le_succ_of_le h.le, fun b hb hn => (new_get_ne s' c (by have := h.le; omega)).trans (h.keep b hb hn)⟩
theorem Dr.put {a : Nat} {s s' : Sto} (h : Dr a s s') (c : Cell) : Dr a s (s'.put a c) :=
  ⟨h.le, fun b hb hn => (put_get_ne s' c (fun e => hn e.symm)).trans (h.keep b hb hn)⟩
theorem Dr.put2 {a p : Nat} {s s' : Sto} (h : Dr a s s') (hp : s.next ≤ p) (c : Cell) : Dr a s (s'.put p c) :=
  ⟨h.le, fun b hb hn => (put_get_ne s' c (by omega)).trans (h.keep b hb hn)⟩
theorem Tin.new {s : Sto} {a c : Nat} (h : Tin s a c) (x : Cell) : Tin (s.new x) a c := by
  obtain ⟨h1, h2⟩ := h
  refine ⟨Nat.lt_succ_of_lt h1, ?_⟩
  rw [new_get_ne s x (by omega)]
  exact h2
theorem Tin.put {s : Sto} {a c p : Nat} (h : Tin s a c) (hp : p ≠ a) (x : Cell) : Tin (s.put p x) a c := by
  obtain ⟨h1, h2⟩ := h
  refine ⟨h1, ?_⟩
  rw [put_get_ne s x hp]
  exact h2
theorem gc_two (b : Bool) (s s' : Sto) : gc b s s' = s ∨ gc b s s' = s' := by
  unfold gc
  cases b && fresh s s'
  · exact .inr rfl
  · exact .inl rfl
theorem P_take (k : Nat) (s : Sto) (a c : Nat) (h : Tin s a c) (hc : c ≤ 1000000) (w : Int) (w1 : 1 ≤ w) (w2 : w ≤ 1000000) : ∃ v s', Phi lawT W31 (k + 1) 310 [.ref a, .int w] s = .ok (.int v) s' ∧ 0 ≤ v ∧ v < w ∧ Tin s' a (c + 1) ∧ Dr a s s' := by
  obtain ⟨hl, x, y, z, hg, y0, y1, z0, z1⟩ := h
  have hwz : (w == 0) = false := by simp [ty1, ty2, ty3, ty4, ty5, ty6, ty7, ty8, ty9, ty10, ty11, ty12, ty13, ty14, ty15, ty16, ty17, ty18, ty19, ty20, ty21, ty22, ty23, ty24, ty25, xcs, xc_asg, xc_par, xc_ex, xc_ite, xc_ret, xc_rai, xc_brk, xc_pass, ev, evs, asg, asgs, evo, rowOf, ofR, _root_.TR.R.bind, opD, opI, fin, gc_self, tru, truth, _root_.TR.R.ofO, Kc.d, mulOk_lt, mulOk_lt2, isaAny, isaD, permA, permD, cmD, cmI, runF, put_get, new_get, xc_whL, xc_fr, evi, srcOf, frL_fix, b1V, b1D_tuple, b1D_len, b1D_list, b1D_sum, b1D_min, b1D_max, biD, b1D_allT, lawT_con, lawCon, ixD, plc, frL_zip, srcZ_tt, eqD_bl, eqD_str, eqD_2, nox_ok, xc_tr, xh]; omega
  have hdw := divOk_sm w1 (by omega)
  by_cases hx : 0 < x
  · refine ⟨x.fmod w, gc true s (s.put a (.lst [.int (x.fdiv w), .int y, .int z])), ?_, ?_, ?_, ?_, ?_⟩
    · rw [Phi_step k 310 _ _ _ rfl]
      simp [c_k55__law_take, hg, hx, hwz, hdw, stD, pure1, ty1, ty2, ty3, ty4, ty5, ty6, ty7, ty8, ty9, ty10, ty11, ty12, ty13, ty14, ty15, ty16, ty17, ty18, ty19, ty20, ty21, ty22, ty23, ty24, ty25, xcs, xc_asg, xc_par, xc_ex, xc_ite, xc_ret, xc_rai, xc_brk, xc_pass, ev, evs, asg, asgs, evo, rowOf, ofR, _root_.TR.R.bind, opD, opI, fin, gc_self, tru, truth, _root_.TR.R.ofO, Kc.d, mulOk_lt, mulOk_lt2, isaAny, isaD, permA, permD, cmD, cmI, runF, put_get, new_get, xc_whL, xc_fr, evi, srcOf, frL_fix, b1V, b1D_tuple, b1D_len, b1D_list, b1D_sum, b1D_min, b1D_max, biD, b1D_allT, lawT_con, lawCon, ixD, plc, frL_zip, srcZ_tt, eqD_bl, eqD_str, eqD_2, nox_ok, xc_tr, xh]
    · exact Int.fmod_nonneg_of_pos _ (by omega)
    · exact Int.fmod_lt_of_pos _ (by omega)
    · rcases gc_two true s (s.put a (.lst [.int (x.fdiv w), .int y, .int z])) with e | e <;> rw [e]
      · exact ⟨hl, x, y, z, hg, y0, y1, z0, by omega⟩
      · exact ⟨hl, _, y, z, put_get s a _, y0, y1, z0, by omega⟩
    · rcases gc_two true s (s.put a (.lst [.int (x.fdiv w), .int y, .int z])) with e | e <;> rw [e]
      · exact Dr.refl a s
      · exact (Dr.refl a s).put _
  · have m1 : (z + 1).natAbs < 18446744073709551616 := by omega
    have m2 : (39373 + (z + 1)).natAbs < 18446744073709551616 := by omega
    have m3 : ∀ o : Int, (o.fmod 40009 + 7).natAbs < 18446744073709551616 := fun o => by
      have := Int.fmod_nonneg_of_pos o (by omega : (0 : Int) < 40009)
      have := Int.fmod_lt_of_pos o (by omega : (0 : Int) < 40009)
      omega
    have d1 : divOk 1000003 = true := by decide
    have d2 : divOk 64 = true := by decide
    have hP : ∃ u : Int, Phi lawT W31 (k + 1) 310 [.ref a, .int w] s = .ok (.int (u.fmod w)) (gc true s (s.put a (.lst [.int x, .int y, .int (z + 1)]))) := by
      refine ⟨(((((((y + 48271 * (z + 1)) * (39373 + (z + 1))).fmod 2147483647 + (z + 1) + y.fdiv 1000003) * ((((y + 48271 * (z + 1)) * (39373 + (z + 1))).fmod 2147483647).fmod 40009 + 7)).fmod 2147483629) * 48271 + ((y + 48271 * (z + 1)) * (39373 + (z + 1))).fmod 2147483647).fmod 2147483587).fdiv 64, ?_⟩
      rw [Phi_step k 310 _ _ _ rfl]
      simp [c_k55__law_take, hg, hx, hwz, hdw, stD, pure1, m1, m2, m3, d1, d2, ty1, ty2, ty3, ty4, ty5, ty6, ty7, ty8, ty9, ty10, ty11, ty12, ty13, ty14, ty15, ty16, ty17, ty18, ty19, ty20, ty21, ty22, ty23, ty24, ty25, xcs, xc_asg, xc_par, xc_ex, xc_ite, xc_ret, xc_rai, xc_brk, xc_pass, ev, evs, asg, asgs, evo, rowOf, ofR, _root_.TR.R.bind, opD, opI, fin, gc_self, tru, truth, _root_.TR.R.ofO, Kc.d, mulOk_lt, mulOk_lt2, isaAny, isaD, permA, permD, cmD, cmI, runF, put_get, new_get, xc_whL, xc_fr, evi, srcOf, frL_fix, b1V, b1D_tuple, b1D_len, b1D_list, b1D_sum, b1D_min, b1D_max, biD, b1D_allT, lawT_con, lawCon, ixD, plc, frL_zip, srcZ_tt, eqD_bl, eqD_str, eqD_2, nox_ok, xc_tr, xh]
    obtain ⟨u, hP⟩ := hP
    refine ⟨u.fmod w, _, hP, Int.fmod_nonneg_of_pos _ (by omega), Int.fmod_lt_of_pos _ (by omega), ?_, ?_⟩
    · rcases gc_two true s (s.put a (.lst [.int x, .int y, .int (z + 1)])) with e | e <;> rw [e]
      · exact ⟨hl, x, y, z, hg, y0, y1, z0, by omega⟩
      · exact ⟨hl, _, y, z + 1, put_get s a _, y0, y1, by omega, by omega⟩
    · rcases gc_two true s (s.put a (.lst [.int x, .int y, .int (z + 1)])) with e | e <;> rw [e]
      · exact Dr.refl a s
      · exact (Dr.refl a s).put _
theorem rngOf_two {a b : Int} (h : 0 ≤ a) (h2 : a ≤ b) (h3 : b ≤ 1000000) : rngOf [.int a, .int b] = some (rngD a (b - a).toNat) := by
  have e : (rngOk a b && Nat.ble (b - a).toNat SZ) = true := by
    unfold rngOk SZ
    simp [ty1, ty2, ty3, ty4, ty5, ty6, ty7, ty8, ty9, ty10, ty11, ty12, ty13, ty14, ty15, ty16, ty17, ty18, ty19, ty20, ty21, ty22, ty23, ty24, ty25, xcs, xc_asg, xc_par, xc_ex, xc_ite, xc_ret, xc_rai, xc_brk, xc_pass, ev, evs, asg, asgs, evo, rowOf, ofR, _root_.TR.R.bind, opD, opI, fin, gc_self, tru, truth, _root_.TR.R.ofO, Kc.d, mulOk_lt, mulOk_lt2, isaAny, isaD, permA, permD, cmD, cmI, runF, put_get, new_get, xc_whL, xc_fr, evi, srcOf, frL_fix, b1V, b1D_tuple, b1D_len, b1D_list, b1D_sum, b1D_min, b1D_max, biD, b1D_allT, lawT_con, lawCon, ixD, plc, frL_zip, srcZ_tt, eqD_bl, eqD_str, eqD_2, nox_ok, xc_tr, xh]
    omega
  show cond (rngOk a b && Nat.ble (b - a).toNat SZ) (some (rngD a (b - a).toNat)) none = _
  rw [e]; rfl
theorem rngD_mem : ∀ (n : Nat) (a : Int) (d : D), d ∈ rngD a n → ∃ x, d = .int x ∧ a ≤ x ∧ x < a + n
  | 0, a, d, h => by simp [rngD, ty1, ty2, ty3, ty4, ty5, ty6, ty7, ty8, ty9, ty10, ty11, ty12, ty13, ty14, ty15, ty16, ty17, ty18, ty19, ty20, ty21, ty22, ty23, ty24, ty25, xcs, xc_asg, xc_par, xc_ex, xc_ite, xc_ret, xc_rai, xc_brk, xc_pass, ev, evs, asg, asgs, evo, rowOf, ofR, _root_.TR.R.bind, opD, opI, fin, gc_self, tru, truth, _root_.TR.R.ofO, Kc.d, mulOk_lt, mulOk_lt2, isaAny, isaD, permA, permD, cmD, cmI, runF, put_get, new_get, xc_whL, xc_fr, evi, srcOf, frL_fix, b1V, b1D_tuple, b1D_len, b1D_list, b1D_sum, b1D_min, b1D_max, biD, b1D_allT, lawT_con, lawCon, ixD, plc, frL_zip, srcZ_tt, eqD_bl, eqD_str, eqD_2, nox_ok, xc_tr, xh] at h
  | n + 1, a, d, h => by
    simp only [rngD, List.mem_cons] at h
    rcases h with rfl | h
    · exact ⟨a, rfl, by omega, by omega⟩
    · obtain ⟨x, e, h1, h2⟩ := rngD_mem n (a + 1) d h
      exact ⟨x, e, by omega, by omega⟩
theorem rngD_get : ∀ (n : Nat) (a : Int) (i : Nat), i < n → (rngD a n)[i]? = some (.int (a + i))
  | 0, a, i, h => by omega
  | n + 1, a, 0, h => by simp [rngD, ty1, ty2, ty3, ty4, ty5, ty6, ty7, ty8, ty9, ty10, ty11, ty12, ty13, ty14, ty15, ty16, ty17, ty18, ty19, ty20, ty21, ty22, ty23, ty24, ty25, xcs, xc_asg, xc_par, xc_ex, xc_ite, xc_ret, xc_rai, xc_brk, xc_pass, ev, evs, asg, asgs, evo, rowOf, ofR, _root_.TR.R.bind, opD, opI, fin, gc_self, tru, truth, _root_.TR.R.ofO, Kc.d, mulOk_lt, mulOk_lt2, isaAny, isaD, permA, permD, cmD, cmI, runF, put_get, new_get, xc_whL, xc_fr, evi, srcOf, frL_fix, b1V, b1D_tuple, b1D_len, b1D_list, b1D_sum, b1D_min, b1D_max, biD, b1D_allT, lawT_con, lawCon, ixD, plc, frL_zip, srcZ_tt, eqD_bl, eqD_str, eqD_2, nox_ok, xc_tr, xh]
  | n + 1, a, i + 1, h => by
    have := rngD_get n (a + 1) i (by omega)
    simp only [rngD, List.getElem?_cons_succ, this]
    congr 2; omega
theorem evi_rng2 {k : Nat} {f : Fr} {s : Sto} {es : List E} {as : List D} {Rg : List D} (he : evs (Mk k) es f s = .ok as s) (hr : rngOf as = some Rg) : evi (Mk k) (.rng es) f s = .ok (.fix Rg, Rg.length) s := by
  rw [evi, he]
  simp only [R.bind, hr]
theorem eqD_nil {s : Sto} {a b : Nat} (ha : s.get a = some (.lst [])) (hb : s.get b = some (.lst [])) : eqD s (.ref a) (.ref b) = some true := by
  have h : ∀ a, s.get a = some (.lst []) → rd RDN s (.ref a) = some (.list []) := fun a ha => by
    show (match s.get a with
      | some (.lst xs) => (mapO (rd 39 s) xs).map PySem.PyData.list
      | _ => none) = _
    rw [ha]; rfl
  unfold eqD
  rw [h a ha, h b hb]
  rfl
theorem Ext_gc (b : Bool) {P : Sto → Prop} {s s' : Sto} (h1 : P s) (h2 : P s') : P (gc b s s') := by
  rcases gc_two b s s' with e | e <;> rw [e]
  · exact h1
  · exact h2
theorem Same_two {k : Nat} {s : Sto} {p q : Nat} {x y : D} (ha : s.get p = some (.lst [x, y])) (hb : s.get q = some (.lst [x, y])) (h1 : Same k s x x) (h2 : Same k s y y) : Same (k + 1) s (.ref p) (.ref q) :=
  Same_lst ha hb rfl (by simp [ty1, ty2, ty3, ty4, ty5, ty6, ty7, ty8, ty9, ty10, ty11, ty12, ty13, ty14, ty15, ty16, ty17, ty18, ty19, ty20, ty21, ty22, ty23, ty24, ty25, xcs, xc_asg, xc_par, xc_ex, xc_ite, xc_ret, xc_rai, xc_brk, xc_pass, ev, evs, asg, asgs, evo, rowOf, ofR, _root_.TR.R.bind, opD, opI, fin, gc_self, tru, truth, _root_.TR.R.ofO, Kc.d, mulOk_lt, mulOk_lt2, isaAny, isaD, permA, permD, cmD, cmI, runF, put_get, new_get, xc_whL, xc_fr, evi, srcOf, frL_fix, b1V, b1D_tuple, b1D_len, b1D_list, b1D_sum, b1D_min, b1D_max, biD, b1D_allT, lawT_con, lawCon, ixD, plc, frL_zip, srcZ_tt, eqD_bl, eqD_str, eqD_2, nox_ok, xc_tr, xh]) fun u v h => by
    obtain ⟨rfl, hm⟩ := zip_self h
    simp only [List.mem_cons, List.not_mem_nil, or_false] at hm
    rcases hm with rfl | rfl
    · exact h1
    · exact h2
theorem new_next (s : Sto) (c : Cell) : (s.new c).next = s.next + 1 := rfl
theorem new_get1 (s : Sto) (c d : Cell) : ((s.new c).new d).get s.next = some c := by
  rw [new_get_ne _ _ (by show s.next + 1 ≠ s.next; omega), new_get]
theorem new_getn (s : Sto) (c : Cell) : (s.new c).get s.next = some c := new_get s c
theorem new_getn1 (s : Sto) (c d : Cell) : ((s.new c).new d).get (s.next + 1) = some d := new_get (s.new c) d
theorem new_getn2 (s : Sto) (c d e : Cell) : (((s.new c).new d).new e).get (s.next + 1 + 1) = some e := new_get ((s.new c).new d) e
theorem get_up {s : Sto} {p : Nat} {c x : Cell} (h : s.get p = some x) (hp : p < s.next) : (s.new c).get p = some x := by
  rw [new_get_ne s c (by omega)]; exact h
theorem xcs_app (M : Sem) : ∀ (p q : List S) (f : Fr) (s : Sto), xcs M (p ++ q) f s = match xcs M p f s with
    | .nx f' s' => xcs M q f' s'
    | o => o
  | [], q, f, s => rfl
  | c :: p, q, f, s => by
    simp only [List.cons_append, xcs]
    cases xc M c f s with
    | nx f' s' => exact xcs_app M p q f' s'
    | _ => rfl
theorem catOk_le {a b : List D} (h : a.length + b.length ≤ 1000000) : catOk a b = true := Nat.ble_eq.mpr (by unfold SZ; omega)
theorem repOk_le {a : List D} {n : Int} (h0 : 0 ≤ n) (h : n ≤ 1000) (hl : a.length ≤ 100) : repOk a n = true := by
  unfold repOk
  have : a.length * n.toNat ≤ 100 * 1000 := Nat.mul_le_mul hl (by omega)
  simp [ty1, ty2, ty3, ty4, ty5, ty6, ty7, ty8, ty9, ty10, ty11, ty12, ty13, ty14, ty15, ty16, ty17, ty18, ty19, ty20, ty21, ty22, ty23, ty24, ty25, xcs, xc_asg, xc_par, xc_ex, xc_ite, xc_ret, xc_rai, xc_brk, xc_pass, ev, evs, asg, asgs, evo, rowOf, ofR, _root_.TR.R.bind, opD, opI, fin, gc_self, tru, truth, _root_.TR.R.ofO, Kc.d, mulOk_lt, mulOk_lt2, isaAny, isaD, permA, permD, cmD, cmI, runF, put_get, new_get, xc_whL, xc_fr, evi, srcOf, frL_fix, b1V, b1D_tuple, b1D_len, b1D_list, b1D_sum, b1D_min, b1D_max, biD, b1D_allT, lawT_con, lawCon, ixD, plc, frL_zip, srcZ_tt, eqD_bl, eqD_str, eqD_2, nox_ok, xc_tr, xh]
  omega
theorem rep_one (x : D) : ∀ n : Nat, rep n [x] = List.replicate n x
  | 0 => rfl
  | n + 1 => by
    rw [rep, rep_one x n, List.replicate_succ]; rfl
theorem P_box (k : Nat) (s : Sto) (p : Nat) (xs : List Int) (hp : p < s.next) (hg : s.get p = some (.lst (I xs))) (i : Nat) (hi : i < xs.length) (hi2 : i ≤ 10) : ∃ s', Phi lawT W31 (k + 1) 309 [.ref p, .int i] s = .ok (.ref s.next) s' ∧ Tin s' s.next 0 ∧ Ext s s' := by
  have hx : (I xs)[i]? = some (.int xs[i]) := by
    unfold I
    simp [hi, ty1, ty2, ty3, ty4, ty5, ty6, ty7, ty8, ty9, ty10, ty11, ty12, ty13, ty14, ty15, ty16, ty17, ty18, ty19, ty20, ty21, ty22, ty23, ty24, ty25, xcs, xc_asg, xc_par, xc_ex, xc_ite, xc_ret, xc_rai, xc_brk, xc_pass, ev, evs, asg, asgs, evo, rowOf, ofR, _root_.TR.R.bind, opD, opI, fin, gc_self, tru, truth, _root_.TR.R.ofO, Kc.d, mulOk_lt, mulOk_lt2, isaAny, isaD, permA, permD, cmD, cmI, runF, put_get, new_get, xc_whL, xc_fr, evi, srcOf, frL_fix, b1V, b1D_tuple, b1D_len, b1D_list, b1D_sum, b1D_min, b1D_max, biD, b1D_allT, lawT_con, lawCon, ixD, plc, frL_zip, srcZ_tt, eqD_bl, eqD_str, eqD_2, nox_ok, xc_tr, xh]
  generalize xs[i] = b at hx
  have hil : (i : Int) < (xs.length : Int) := by omega
  have i0 : (0 : Int) ≤ i := by omega
  have m1 : ∀ c : Bool, (cond c 1 0 : Int).natAbs < 18446744073709551616 := by intro c; cases c <;> decide
  obtain ⟨v, hv⟩ : ∃ v : Int, Phi lawT W31 (k + 1) 309 [.ref p, .int i] s = .ok (.ref s.next) (s.new (.lst [.int v, .int (b.fmod 2305843009213693951 + 39373 * i + 24816055), .int 0])) := by
    rw [Phi_step k 309 _ _ _ rfl]
    have hgc : ∀ d, gc (pure1 (.ref s.next)) s (s.new d) = s.new d := fun d => rfl
    have hb10 : Nat.blt 10 1000000 = true := rfl
    by_cases hb : 1000000000000000000 ≤ (b.natAbs : Int)
    · refine ⟨(b.natAbs : Int), ?_⟩
      simp [c_k55__law_box, hg, hx, I_len, hil, i0, hgc, hb10, hb, ty1, ty2, ty3, ty4, ty5, ty6, ty7, ty8, ty9, ty10, ty11, ty12, ty13, ty14, ty15, ty16, ty17, ty18, ty19, ty20, ty21, ty22, ty23, ty24, ty25, xcs, xc_asg, xc_par, xc_ex, xc_ite, xc_ret, xc_rai, xc_brk, xc_pass, ev, evs, asg, asgs, evo, rowOf, ofR, _root_.TR.R.bind, opD, opI, fin, gc_self, tru, truth, _root_.TR.R.ofO, Kc.d, mulOk_lt, mulOk_lt2, isaAny, isaD, permA, permD, cmD, cmI, runF, put_get, new_get, xc_whL, xc_fr, evi, srcOf, frL_fix, b1V, b1D_tuple, b1D_len, b1D_list, b1D_sum, b1D_min, b1D_max, biD, b1D_allT, lawT_con, lawCon, ixD, plc, frL_zip, srcZ_tt, eqD_bl, eqD_str, eqD_2, nox_ok, xc_tr, xh]
    · refine ⟨0, ?_⟩
      simp [c_k55__law_box, hg, hx, I_len, hil, i0, hgc, hb10, hb, ty1, ty2, ty3, ty4, ty5, ty6, ty7, ty8, ty9, ty10, ty11, ty12, ty13, ty14, ty15, ty16, ty17, ty18, ty19, ty20, ty21, ty22, ty23, ty24, ty25, xcs, xc_asg, xc_par, xc_ex, xc_ite, xc_ret, xc_rai, xc_brk, xc_pass, ev, evs, asg, asgs, evo, rowOf, ofR, _root_.TR.R.bind, opD, opI, fin, gc_self, tru, truth, _root_.TR.R.ofO, Kc.d, mulOk_lt, mulOk_lt2, isaAny, isaD, permA, permD, cmD, cmI, runF, put_get, new_get, xc_whL, xc_fr, evi, srcOf, frL_fix, b1V, b1D_tuple, b1D_len, b1D_list, b1D_sum, b1D_min, b1D_max, biD, b1D_allT, lawT_con, lawCon, ixD, plc, frL_zip, srcZ_tt, eqD_bl, eqD_str, eqD_2, nox_ok, xc_tr, xh]
  refine ⟨_, hv, ⟨Nat.lt_succ_self _, v, b.fmod 2305843009213693951 + 39373 * i + 24816055, 0, new_get _ _, ?_, ?_, by omega, by omega⟩, (Ext.refl s).new _⟩
  · have := Int.fmod_nonneg_of_pos b (by omega : (0 : Int) < 2305843009213693951); omega
  · have := Int.fmod_lt_of_pos b (by omega : (0 : Int) < 2305843009213693951); omega
def scrI (ns : List Int) : D := .rol (ns.map D.int)
def wUnfit : PySem.Str := strOf [117, 110, 102, 105, 116]
theorem xcs_nx {k : Nat} {c : S} {cs : List S} {f f' : Fr} {s s' : Sto} (h : xc (Mk k) c f s = .nx f' s') : xcs (Mk k) (c :: cs) f s = xcs (Mk k) cs f' s' := by
  rw [xcs, h]
theorem xcs_ret {k : Nat} {e : E} {cs : List S} {f : Fr} {s s' : Sto} {d : D} (h : ev (Mk k) e f s = .ok d s') : xcs (Mk k) (.ret e :: cs) f s = .rt d s' := by
  rw [xcs, xc_ret, h]; rfl
theorem xcs_rt {k : Nat} {c : S} {cs : List S} {f : Fr} {s s' : Sto} {d : D} (h : xc (Mk k) c f s = .rt d s') : xcs (Mk k) (c :: cs) f s = .rt d s' := by
  rw [xcs, h]
theorem xcs_frE {k : Nat} {t : Tg} {i : It} {b : List S} {cs : List S} {f f' : Fr} {s s' s'' : Sto} {Rg : List D} (he : evi (Mk k) i f s = .ok (.fix Rg, Rg.length) s') (e1 : forL k t b Rg f s' = .nx f' s'') : xcs (Mk k) (.fr t i b :: cs) f s = xcs (Mk k) cs f' s'' := by
  rw [xcs, xc_fr, he]
  simp only [ofR, frL_fix, e1]
theorem xcs_frR {k : Nat} {t : Tg} {i : It} {b : List S} {cs : List S} {f : Fr} {s s' s'' : Sto} {Rg : List D} {d : D} (he : evi (Mk k) i f s = .ok (.fix Rg, Rg.length) s') (e1 : forL k t b Rg f s' = .rt d s'') : xcs (Mk k) (.fr t i b :: cs) f s = .rt d s'' := by
  rw [xcs, xc_fr, he]
  simp only [ofR, frL_fix, e1]
theorem run_rt {k : Nat} {c : FnC} {ds : List D} {s s' : Sto} {d : D} (f0 : Fr) (hn : ds.length = c.np) (hf : ds.map some ++ List.replicate (c.nl - c.np) none = f0) (h : xcs (Mk k) c.body f0 s = .rt d s') (hg : gc (pure1 d) s s' = s' := by simp [ty1, ty2, ty3, ty4, ty5, ty6, ty7, ty8, ty9, ty10, ty11, ty12, ty13, ty14, ty15, ty16, ty17, ty18, ty19, ty20, ty21, ty22, ty23, ty24, ty25, xcs, xc_asg, xc_par, xc_ex, xc_ite, xc_ret, xc_rai, xc_brk, xc_pass, ev, evs, asg, asgs, evo, rowOf, ofR, _root_.TR.R.bind, opD, opI, fin, gc_self, tru, truth, _root_.TR.R.ofO, Kc.d, mulOk_lt, mulOk_lt2, isaAny, isaD, permA, permD, cmD, cmI, runF, put_get, new_get, xc_whL, xc_fr, evi, srcOf, frL_fix, b1V, b1D_tuple, b1D_len, b1D_list, b1D_sum, b1D_min, b1D_max, biD, b1D_allT, lawT_con, lawCon, ixD, plc, frL_zip, srcZ_tt, eqD_bl, eqD_str, eqD_2, nox_ok, xc_tr, xh]) : runF k c ds s = .ok d s' := by
  unfold runF
  rw [hn, Nat.beq_refl, hf, h]
  show fin s (.rt d s') = _
  show R.ok d (gc (pure1 d) s s') = _
  rw [hg]
theorem P_takeL (k : Nat) (s : Sto) (a c : Nat) (h : Tin s a c) (hc : c ≤ 1000000) (w : Int) (w1 : 1 ≤ w) (w2 : w ≤ 1000000) : ∃ v s', Phi lawT W31 (k + 1) 310 [.ref a, .int w] s = .ok (.int v) s' ∧ 0 ≤ v ∧ v < w ∧ Tin s' a (c + 1) ∧ Dr a s s' ∧ (s' = s ∨ ∃ x, s' = s.put a x) := by
  obtain ⟨hl, x, y, z, hg, y0, y1, z0, z1⟩ := h
  have hwz : (w == 0) = false := by simp [ty1, ty2, ty3, ty4, ty5, ty6, ty7, ty8, ty9, ty10, ty11, ty12, ty13, ty14, ty15, ty16, ty17, ty18, ty19, ty20, ty21, ty22, ty23, ty24, ty25, xcs, xc_asg, xc_par, xc_ex, xc_ite, xc_ret, xc_rai, xc_brk, xc_pass, ev, evs, asg, asgs, evo, rowOf, ofR, _root_.TR.R.bind, opD, opI, fin, gc_self, tru, truth, _root_.TR.R.ofO, Kc.d, mulOk_lt, mulOk_lt2, isaAny, isaD, permA, permD, cmD, cmI, runF, put_get, new_get, xc_whL, xc_fr, evi, srcOf, frL_fix, b1V, b1D_tuple, b1D_len, b1D_list, b1D_sum, b1D_min, b1D_max, biD, b1D_allT, lawT_con, lawCon, ixD, plc, frL_zip, srcZ_tt, eqD_bl, eqD_str, eqD_2, nox_ok, xc_tr, xh]; omega
  have hdw := divOk_sm w1 (by omega)
  by_cases hx : 0 < x
  · refine ⟨x.fmod w, gc true s (s.put a (.lst [.int (x.fdiv w), .int y, .int z])), ?_, ?_, ?_, ?_, ?_, ?_⟩
    · rw [Phi_step k 310 _ _ _ rfl]
      simp [c_k55__law_take, hg, hx, hwz, hdw, stD, pure1, ty1, ty2, ty3, ty4, ty5, ty6, ty7, ty8, ty9, ty10, ty11, ty12, ty13, ty14, ty15, ty16, ty17, ty18, ty19, ty20, ty21, ty22, ty23, ty24, ty25, xcs, xc_asg, xc_par, xc_ex, xc_ite, xc_ret, xc_rai, xc_brk, xc_pass, ev, evs, asg, asgs, evo, rowOf, ofR, _root_.TR.R.bind, opD, opI, fin, gc_self, tru, truth, _root_.TR.R.ofO, Kc.d, mulOk_lt, mulOk_lt2, isaAny, isaD, permA, permD, cmD, cmI, runF, put_get, new_get, xc_whL, xc_fr, evi, srcOf, frL_fix, b1V, b1D_tuple, b1D_len, b1D_list, b1D_sum, b1D_min, b1D_max, biD, b1D_allT, lawT_con, lawCon, ixD, plc, frL_zip, srcZ_tt, eqD_bl, eqD_str, eqD_2, nox_ok, xc_tr, xh]
    · exact Int.fmod_nonneg_of_pos _ (by omega)
    · exact Int.fmod_lt_of_pos _ (by omega)
    · rcases gc_two true s (s.put a (.lst [.int (x.fdiv w), .int y, .int z])) with e | e <;> rw [e]
      · exact ⟨hl, x, y, z, hg, y0, y1, z0, by omega⟩
      · exact ⟨hl, _, y, z, put_get s a _, y0, y1, z0, by omega⟩
    · rcases gc_two true s (s.put a (.lst [.int (x.fdiv w), .int y, .int z])) with e | e <;> rw [e]
      · exact Dr.refl a s
      · exact (Dr.refl a s).put _
    · exact (gc_two true s _).imp id fun e => ⟨_, e⟩
  · have m1 : (z + 1).natAbs < 18446744073709551616 := by omega
    have m2 : (39373 + (z + 1)).natAbs < 18446744073709551616 := by omega
    have m3 : ∀ o : Int, (o.fmod 40009 + 7).natAbs < 18446744073709551616 := fun o => by
      have := Int.fmod_nonneg_of_pos o (by omega : (0 : Int) < 40009)
      have := Int.fmod_lt_of_pos o (by omega : (0 : Int) < 40009)
      omega
    have d1 : divOk 1000003 = true := by decide
    have d2 : divOk 64 = true := by decide
    have hP : ∃ u : Int, Phi lawT W31 (k + 1) 310 [.ref a, .int w] s = .ok (.int (u.fmod w)) (gc true s (s.put a (.lst [.int x, .int y, .int (z + 1)]))) := by
      refine ⟨(((((((y + 48271 * (z + 1)) * (39373 + (z + 1))).fmod 2147483647 + (z + 1) + y.fdiv 1000003) * ((((y + 48271 * (z + 1)) * (39373 + (z + 1))).fmod 2147483647).fmod 40009 + 7)).fmod 2147483629) * 48271 + ((y + 48271 * (z + 1)) * (39373 + (z + 1))).fmod 2147483647).fmod 2147483587).fdiv 64, ?_⟩
      rw [Phi_step k 310 _ _ _ rfl]
      simp [c_k55__law_take, hg, hx, hwz, hdw, stD, pure1, m1, m2, m3, d1, d2, ty1, ty2, ty3, ty4, ty5, ty6, ty7, ty8, ty9, ty10, ty11, ty12, ty13, ty14, ty15, ty16, ty17, ty18, ty19, ty20, ty21, ty22, ty23, ty24, ty25, xcs, xc_asg, xc_par, xc_ex, xc_ite, xc_ret, xc_rai, xc_brk, xc_pass, ev, evs, asg, asgs, evo, rowOf, ofR, _root_.TR.R.bind, opD, opI, fin, gc_self, tru, truth, _root_.TR.R.ofO, Kc.d, mulOk_lt, mulOk_lt2, isaAny, isaD, permA, permD, cmD, cmI, runF, put_get, new_get, xc_whL, xc_fr, evi, srcOf, frL_fix, b1V, b1D_tuple, b1D_len, b1D_list, b1D_sum, b1D_min, b1D_max, biD, b1D_allT, lawT_con, lawCon, ixD, plc, frL_zip, srcZ_tt, eqD_bl, eqD_str, eqD_2, nox_ok, xc_tr, xh]
    obtain ⟨u, hP⟩ := hP
    refine ⟨u.fmod w, _, hP, Int.fmod_nonneg_of_pos _ (by omega), Int.fmod_lt_of_pos _ (by omega), ?_, ?_, ?_⟩
    · rcases gc_two true s (s.put a (.lst [.int x, .int y, .int (z + 1)])) with e | e <;> rw [e]
      · exact ⟨hl, x, y, z, hg, y0, y1, z0, by omega⟩
      · exact ⟨hl, _, y, z + 1, put_get s a _, y0, y1, by omega, by omega⟩
    · rcases gc_two true s (s.put a (.lst [.int x, .int y, .int (z + 1)])) with e | e <;> rw [e]
      · exact Dr.refl a s
      · exact (Dr.refl a s).put _
    · exact (gc_two true s _).imp id fun e => ⟨_, e⟩
theorem P_boxL (k : Nat) (s : Sto) (p : Nat) (xs : List Int) (hp : p < s.next) (hg : s.get p = some (.lst (I xs))) (i : Nat) (hi : i < xs.length) (hi2 : i ≤ 10) : ∃ s', Phi lawT W31 (k + 1) 309 [.ref p, .int i] s = .ok (.ref s.next) s' ∧ Tin s' s.next 0 ∧ Ext s s' ∧ (Low s → Low s') := by
  have hx : (I xs)[i]? = some (.int xs[i]) := by
    unfold I
    simp [hi, ty1, ty2, ty3, ty4, ty5, ty6, ty7, ty8, ty9, ty10, ty11, ty12, ty13, ty14, ty15, ty16, ty17, ty18, ty19, ty20, ty21, ty22, ty23, ty24, ty25, xcs, xc_asg, xc_par, xc_ex, xc_ite, xc_ret, xc_rai, xc_brk, xc_pass, ev, evs, asg, asgs, evo, rowOf, ofR, _root_.TR.R.bind, opD, opI, fin, gc_self, tru, truth, _root_.TR.R.ofO, Kc.d, mulOk_lt, mulOk_lt2, isaAny, isaD, permA, permD, cmD, cmI, runF, put_get, new_get, xc_whL, xc_fr, evi, srcOf, frL_fix, b1V, b1D_tuple, b1D_len, b1D_list, b1D_sum, b1D_min, b1D_max, biD, b1D_allT, lawT_con, lawCon, ixD, plc, frL_zip, srcZ_tt, eqD_bl, eqD_str, eqD_2, nox_ok, xc_tr, xh]
  generalize xs[i] = b at hx
  have hil : (i : Int) < (xs.length : Int) := by omega
  have i0 : (0 : Int) ≤ i := by omega
  have m1 : ∀ c : Bool, (cond c 1 0 : Int).natAbs < 18446744073709551616 := by intro c; cases c <;> decide
  obtain ⟨v, hv⟩ : ∃ v : Int, Phi lawT W31 (k + 1) 309 [.ref p, .int i] s = .ok (.ref s.next) (s.new (.lst [.int v, .int (b.fmod 2305843009213693951 + 39373 * i + 24816055), .int 0])) := by
    rw [Phi_step k 309 _ _ _ rfl]
    have hgc : ∀ d, gc (pure1 (.ref s.next)) s (s.new d) = s.new d := fun d => rfl
    have hb10 : Nat.blt 10 1000000 = true := rfl
    by_cases hb : 1000000000000000000 ≤ (b.natAbs : Int)
    · refine ⟨(b.natAbs : Int), ?_⟩
      simp [c_k55__law_box, hg, hx, I_len, hil, i0, hgc, hb10, hb, ty1, ty2, ty3, ty4, ty5, ty6, ty7, ty8, ty9, ty10, ty11, ty12, ty13, ty14, ty15, ty16, ty17, ty18, ty19, ty20, ty21, ty22, ty23, ty24, ty25, xcs, xc_asg, xc_par, xc_ex, xc_ite, xc_ret, xc_rai, xc_brk, xc_pass, ev, evs, asg, asgs, evo, rowOf, ofR, _root_.TR.R.bind, opD, opI, fin, gc_self, tru, truth, _root_.TR.R.ofO, Kc.d, mulOk_lt, mulOk_lt2, isaAny, isaD, permA, permD, cmD, cmI, runF, put_get, new_get, xc_whL, xc_fr, evi, srcOf, frL_fix, b1V, b1D_tuple, b1D_len, b1D_list, b1D_sum, b1D_min, b1D_max, biD, b1D_allT, lawT_con, lawCon, ixD, plc, frL_zip, srcZ_tt, eqD_bl, eqD_str, eqD_2, nox_ok, xc_tr, xh]
    · refine ⟨0, ?_⟩
      simp [c_k55__law_box, hg, hx, I_len, hil, i0, hgc, hb10, hb, ty1, ty2, ty3, ty4, ty5, ty6, ty7, ty8, ty9, ty10, ty11, ty12, ty13, ty14, ty15, ty16, ty17, ty18, ty19, ty20, ty21, ty22, ty23, ty24, ty25, xcs, xc_asg, xc_par, xc_ex, xc_ite, xc_ret, xc_rai, xc_brk, xc_pass, ev, evs, asg, asgs, evo, rowOf, ofR, _root_.TR.R.bind, opD, opI, fin, gc_self, tru, truth, _root_.TR.R.ofO, Kc.d, mulOk_lt, mulOk_lt2, isaAny, isaD, permA, permD, cmD, cmI, runF, put_get, new_get, xc_whL, xc_fr, evi, srcOf, frL_fix, b1V, b1D_tuple, b1D_len, b1D_list, b1D_sum, b1D_min, b1D_max, biD, b1D_allT, lawT_con, lawCon, ixD, plc, frL_zip, srcZ_tt, eqD_bl, eqD_str, eqD_2, nox_ok, xc_tr, xh]
  refine ⟨_, hv, ⟨Nat.lt_succ_self _, v, b.fmod 2305843009213693951 + 39373 * i + 24816055, 0, new_get _ _, ?_, ?_, by omega, by omega⟩, (Ext.refl s).new _, fun h e he => (List.mem_cons.mp he).elim (fun q => by rw [q]; exact Nat.lt_succ_self _) fun he => Nat.lt_succ_of_lt (h e he)⟩
  · have := Int.fmod_nonneg_of_pos b (by omega : (0 : Int) < 2305843009213693951); omega
  · have := Int.fmod_lt_of_pos b (by omega : (0 : Int) < 2305843009213693951); omega
end TR.K55
set_option autoImplicit false
set_option linter.all false
set_option maxRecDepth 100000
namespace TR.K55
/-! ### closed calls, refusals -/
theorem _root_.TR.Low.new {s : Sto} (h : Low s) (c : Cell) : Low (s.new c) := fun e he => by
  rcases List.mem_cons.mp he with rfl | he
  · exact Nat.lt_succ_self _
  · exact Nat.lt_succ_of_lt (h e he)
theorem _root_.TR.Low.put {s : Sto} (h : Low s) {a : Nat} (ha : a < s.next) (c : Cell) : Low (s.put a c) := fun e he => by
  rcases List.mem_cons.mp he with rfl | he
  · exact ha
  · exact h e he
theorem lawCon_pure (n : Nat) : pure1 (lawT.con n) = true := by
  show pure1 (lawCon n) = true
  unfold lawCon
  first
    | (split <;> rfl)
    | rfl
theorem lawGd_pure : GPure lawT.gdc := fun k n => by
  show (lawGdc k).map (shK n) = lawGdc k
  unfold lawGdc
  first
    | (split <;> rfl)
    | rfl
theorem sh_call {k n : Nat} {ds : List D} {d : D} {S0 : Sto} (hp : pureL ds = true) (h : Phi lawT W31 k n ds ⟨0, []⟩ = .ok d S0) (s : Sto) (hs : Low s) : Phi lawT W31 k n ds s = .ok (shD s.next d) (shS (sfOf s hs) S0) := by
  have := Phi_sh (sfOf s hs) (whN_sh NN) (fun n => sh_pure _ (lawCon_pure n)) lawGd_pure k n ds ⟨0, []⟩
  rw [sfOf_s0, h, shL_pure _ hp] at this
  exact this
def markB (w : PySem.Str) (r : R D) : Bool := match r with
  | .ok (.ref 0) ⟨1, [(0, .lst [.str x, .bl true])]⟩ => x == w
  | _ => false
theorem markB_ok {w : PySem.Str} {r : R D} (h : markB w r = true) : r = .ok (.ref 0) ⟨1, [(0, .lst [.str w, .bl true])]⟩ := by
  unfold markB at h
  split at h
  · rw [eq_of_beq h]
  · cases h
theorem mark_call {k n : Nat} {ds : List D} {w : PySem.Str} (hp : pureL ds = true) (h : markB w (Phi lawT W31 k n ds ⟨0, []⟩) = true) (s : Sto) (hs : Low s) : Phi lawT W31 k n ds s = .ok (.ref s.next) (s.new (.lst [.str w, .bl true])) := by
  rw [sh_call hp (markB_ok h) s hs]
  show R.ok (D.ref (0 + s.next)) (Sto.mk (1 + s.next) ((0 + s.next, Cell.lst [.str w, .bl true]) :: s.log)) = _
  rw [Nat.zero_add, Nat.add_comm 1]
  rfl
/-! ### the table of what is refused -/
/-- a row: a door, what fits, a place, a list of what does not -/
def rowB (S0 : Sto) (d : D) : Bool := match d with
  | .tup [.fn f, .tup goods, .int p, .ref b] => pureL goods && decide (0 ≤ p) && decide (p ≤ 10) && decide (goods.length ≤ 10) && Nat.blt b S0.next && (match S0.get b with
    | some (.lst bads) => decide (bads.length ≤ 1000) && bads.all fun x => pure1 x && markB wUnfit (Phi lawT W31 78 317 [.fn f, .tup (goods.take p.toNat ++ [x] ++ goods.drop (p.toNat + 1))] ⟨0, []⟩)
    | _ => false)
  | _ => false
structure RowOk (S0 : Sto) (d : D) : Prop where
  ex : ∃ f goods p b bads, d = .tup [.fn f, .tup goods, .int p, .ref b] ∧ pureL goods = true ∧ 0 ≤ p ∧ p ≤ 10 ∧ goods.length ≤ 10 ∧ b < S0.next ∧ S0.get b = some (.lst bads) ∧ bads.length ≤ 1000 ∧ ∀ x ∈ bads, pure1 x = true ∧ markB wUnfit (Phi lawT W31 78 317 [.fn f, .tup (goods.take p.toNat ++ [x] ++ goods.drop (p.toNat + 1))] ⟨0, []⟩) = true
theorem rowB_ok {S0 : Sto} {d : D} (h : rowB S0 d = true) : RowOk S0 d := by
  unfold rowB at h
  split at h
  · rename_i f goods p b
    simp only [Bool.and_eq_true, decide_eq_true_eq] at h
    obtain ⟨⟨⟨⟨⟨h1, h2⟩, h3⟩, h4⟩, h5⟩, h6⟩ := h
    split at h6
    · rename_i bads hb
      simp only [Bool.and_eq_true, decide_eq_true_eq, List.all_eq_true] at h6
      exact ⟨f, goods, p, b, bads, rfl, h1, h2, h3, h4, by simpa [Nat.blt_eq, ty1, ty2, ty3, ty4, ty5, ty6, ty7, ty8, ty9, ty10, ty11, ty12, ty13, ty14, ty15, ty16, ty17, ty18, ty19, ty20, ty21, ty22, ty23, ty24, ty25, xcs, xc_asg, xc_par, xc_ex, xc_ite, xc_ret, xc_rai, xc_brk, xc_pass, ev, evs, asg, asgs, evo, rowOf, ofR, _root_.TR.R.bind, opD, opI, fin, gc_self, tru, truth, _root_.TR.R.ofO, Kc.d, mulOk_lt, mulOk_lt2, isaAny, isaD, permA, permD, cmD, cmI, runF, put_get, new_get, xc_whL, xc_fr, evi, srcOf, frL_fix, b1V, b1D_tuple, b1D_len, b1D_list, b1D_sum, b1D_min, b1D_max, biD, b1D_allT, lawT_con, lawCon, ixD, plc, frL_zip, srcZ_tt, eqD_bl, eqD_str, eqD_2, nox_ok, xc_tr, xh] using h5, hb, h6.1, h6.2⟩
    · cases h6
  · cases h
def lowB (s : Sto) : Bool := s.log.all fun e => Nat.blt e.1 s.next
theorem lowB_ok {s : Sto} (h : lowB s = true) : Low s := fun e he => by
  have := List.all_eq_true.mp h e he
  simpa [Nat.blt_eq, ty1, ty2, ty3, ty4, ty5, ty6, ty7, ty8, ty9, ty10, ty11, ty12, ty13, ty14, ty15, ty16, ty17, ty18, ty19, ty20, ty21, ty22, ty23, ty24, ty25, xcs, xc_asg, xc_par, xc_ex, xc_ite, xc_ret, xc_rai, xc_brk, xc_pass, ev, evs, asg, asgs, evo, rowOf, ofR, _root_.TR.R.bind, opD, opI, fin, gc_self, tru, truth, _root_.TR.R.ofO, Kc.d, mulOk_lt, mulOk_lt2, isaAny, isaD, permA, permD, cmD, cmI, runF, put_get, new_get, xc_whL, xc_fr, evi, srcOf, frL_fix, b1V, b1D_tuple, b1D_len, b1D_list, b1D_sum, b1D_min, b1D_max, biD, b1D_allT, lawT_con, lawCon, ixD, plc, frL_zip, srcZ_tt, eqD_bl, eqD_str, eqD_2, nox_ok, xc_tr, xh] using this
def placesB (r : R D) : Bool := match r with
  | .ok (.ref q) S0 => lowB S0 && Nat.blt q S0.next && (match S0.get q with
    | some (.lst rows) => decide (rows.length ≤ 99) && rows.all (rowB S0)
    | _ => false)
  | _ => false
theorem placesB_ok {r : R D} (h : placesB r = true) : ∃ q S0 rows, r = .ok (.ref q) S0 ∧ Low S0 ∧ q < S0.next ∧ S0.get q = some (.lst rows) ∧ rows.length ≤ 99 ∧ ∀ d ∈ rows, RowOk S0 d := by
  unfold placesB at h
  split at h
  · rename_i q S0
    simp only [Bool.and_eq_true] at h
    obtain ⟨⟨h1, h2⟩, h3⟩ := h
    split at h3
    · rename_i rows hr
      simp only [Bool.and_eq_true, decide_eq_true_eq, List.all_eq_true] at h3
      exact ⟨q, S0, rows, rfl, lowB_ok h1, by simpa [Nat.blt_eq, ty1, ty2, ty3, ty4, ty5, ty6, ty7, ty8, ty9, ty10, ty11, ty12, ty13, ty14, ty15, ty16, ty17, ty18, ty19, ty20, ty21, ty22, ty23, ty24, ty25, xcs, xc_asg, xc_par, xc_ex, xc_ite, xc_ret, xc_rai, xc_brk, xc_pass, ev, evs, asg, asgs, evo, rowOf, ofR, _root_.TR.R.bind, opD, opI, fin, gc_self, tru, truth, _root_.TR.R.ofO, Kc.d, mulOk_lt, mulOk_lt2, isaAny, isaD, permA, permD, cmD, cmI, runF, put_get, new_get, xc_whL, xc_fr, evi, srcOf, frL_fix, b1V, b1D_tuple, b1D_len, b1D_list, b1D_sum, b1D_min, b1D_max, biD, b1D_allT, lawT_con, lawCon, ixD, plc, frL_zip, srcZ_tt, eqD_bl, eqD_str, eqD_2, nox_ok, xc_tr, xh] using h2, hr, h3.1, fun d hd => rowB_ok (h3.2 d hd)⟩
    · cases h3
  · cases h
end TR.K55
set_option autoImplicit false
set_option linter.all false
set_option maxRecDepth 100000
namespace TR.K55
set_option maxHeartbeats 0 in
theorem places_all : placesB (Phi lawT W31 79 318 [] ⟨0, []⟩) = true := by decide +kernel
end TR.K55
set_option autoImplicit false
set_option linter.all false
set_option maxRecDepth 100000
namespace TR.K55
/-! ### a drawn order -/
theorem srcE_lst {s : Sto} {a : Nat} {xs : List D} (h : s.get a = some (.lst xs)) : srcE s (.ref a) = some (.lv a, SZ) := by
  unfold srcE srcL
  simp [h, ty1, ty2, ty3, ty4, ty5, ty6, ty7, ty8, ty9, ty10, ty11, ty12, ty13, ty14, ty15, ty16, ty17, ty18, ty19, ty20, ty21, ty22, ty23, ty24, ty25, xcs, xc_asg, xc_par, xc_ex, xc_ite, xc_ret, xc_rai, xc_brk, xc_pass, ev, evs, asg, asgs, evo, rowOf, ofR, _root_.TR.R.bind, opD, opI, fin, gc_self, tru, truth, _root_.TR.R.ofO, Kc.d, mulOk_lt, mulOk_lt2, isaAny, isaD, permA, permD, cmD, cmI, runF, put_get, new_get, xc_whL, xc_fr, evi, srcOf, frL_fix, b1V, b1D_tuple, b1D_len, b1D_list, b1D_sum, b1D_min, b1D_max, biD, b1D_allT, lawT_con, lawCon, ixD, plc, frL_zip, srcZ_tt, eqD_bl, eqD_str, eqD_2, nox_ok, xc_tr, xh]
theorem pick_loop (k : Nat) (a q p g : Nat) (hpa : p ≠ a) (hga : g ≠ a) (hpg : p ≠ g) (P : D → Prop) (f0 f1 f2 : Option D) (h0 : f0 = some (.ref a)) : ∀ (Rg : List D) (ds fs : List D) (s : Sto) (c : Nat) (f5 : Option D), Tin s a c → c + Rg.length ≤ 1000000 → Low s → p < s.next → g < s.next → s.get p = some (.lst ds) → s.get g = some (.lst fs) → Rg.length ≤ ds.length → ds.length ≤ 1000 → fs.length + Rg.length ≤ 1000 → (∀ d ∈ ds, P d) → (∀ d ∈ fs, P d) →
    ∃ f5' s' fs', forL (k + 1) (.n 5) [.ex (.mt .append (.v 4) [(.mt .pop (.v 3) [(.call 310 [] [(.v 0), (.b1 .len (.v 3))])])])] Rg [f0, f1, f2, some (.ref p), some (.ref g), f5] s = .nx [f0, f1, f2, some (.ref p), some (.ref g), f5'] s' ∧ s'.get g = some (.lst fs') ∧ (∀ d ∈ fs', P d) ∧ fs'.length ≤ 1000 ∧ Low s' ∧ s'.next = s.next ∧ (∀ b, b ≠ a → b ≠ p → b ≠ g → s'.get b = s.get b)
  | [], ds, fs, s, c, f5, ht, hc, hL, hp, hg, gp, gg, h1, h2, h3, d1, d2 => ⟨f5, s, fs, rfl, gg, d2, by simpa [ty1, ty2, ty3, ty4, ty5, ty6, ty7, ty8, ty9, ty10, ty11, ty12, ty13, ty14, ty15, ty16, ty17, ty18, ty19, ty20, ty21, ty22, ty23, ty24, ty25, xcs, xc_asg, xc_par, xc_ex, xc_ite, xc_ret, xc_rai, xc_brk, xc_pass, ev, evs, asg, asgs, evo, rowOf, ofR, _root_.TR.R.bind, opD, opI, fin, gc_self, tru, truth, _root_.TR.R.ofO, Kc.d, mulOk_lt, mulOk_lt2, isaAny, isaD, permA, permD, cmD, cmI, runF, put_get, new_get, xc_whL, xc_fr, evi, srcOf, frL_fix, b1V, b1D_tuple, b1D_len, b1D_list, b1D_sum, b1D_min, b1D_max, biD, b1D_allT, lawT_con, lawCon, ixD, plc, frL_zip, srcZ_tt, eqD_bl, eqD_str, eqD_2, nox_ok, xc_tr, xh] using h3, hL, rfl, fun _ _ _ _ => rfl⟩
  | r :: Rg, ds, fs, s, c, f5, ht, hc, hL, hp, hg, gp, gg, h1, h2, h3, d1, d2 => by
    subst h0
    simp only [List.length_cons] at hc h1 h3
    obtain ⟨v, s1, e1, v0, v1, t1', dr1, hs1⟩ := P_takeL k s a c ht (by omega) (ds.length : Int) (by omega) (by omega)
    have L1 : Low s1 := by
      rcases hs1 with rfl | ⟨x, rfl⟩
      · exact hL
      · exact hL.put ht.lt _
    have n1 : s1.next = s.next := by rcases hs1 with rfl | ⟨x, rfl⟩ <;> rfl
    have gp1 : s1.get p = some (.lst ds) := (dr1.keep p hp hpa).trans gp
    have gg1 : s1.get g = some (.lst fs) := (dr1.keep g hg hga).trans gg
    have hvl : v.toNat < ds.length := by omega
    have t2 : Tin (s1.put p (.lst (ds.eraseIdx v.toNat))) a (c + 1) := t1'.put hpa _
    have t3 : Tin ((s1.put p (.lst (ds.eraseIdx v.toNat))).put g (.lst (fs ++ [ds[v.toNat]]))) a (c + 1) := t2.put hga _
    obtain ⟨f5', s', fs', i1, i2, i3, i4, i5, i6, i7⟩ := pick_loop k a q p g hpa hga hpg P (some (.ref a)) f1 f2 rfl Rg (ds.eraseIdx v.toNat) (fs ++ [ds[v.toNat]]) ((s1.put p (.lst (ds.eraseIdx v.toNat))).put g (.lst (fs ++ [ds[v.toNat]]))) (c + 1) (some r) t3 (by omega)
      ((L1.put (by omega) _).put (by show g < s1.next; omega) _) (by show p < s1.next; omega) (by show g < s1.next; omega) ((put_get_ne _ _ (Ne.symm hpg)).trans (put_get _ _ _)) (put_get _ _ _) (by rw [List.length_eraseIdx_of_lt hvl]; omega) (by rw [List.length_eraseIdx_of_lt hvl]; omega) (by simp [ty1, ty2, ty3, ty4, ty5, ty6, ty7, ty8, ty9, ty10, ty11, ty12, ty13, ty14, ty15, ty16, ty17, ty18, ty19, ty20, ty21, ty22, ty23, ty24, ty25, xcs, xc_asg, xc_par, xc_ex, xc_ite, xc_ret, xc_rai, xc_brk, xc_pass, ev, evs, asg, asgs, evo, rowOf, ofR, _root_.TR.R.bind, opD, opI, fin, gc_self, tru, truth, _root_.TR.R.ofO, Kc.d, mulOk_lt, mulOk_lt2, isaAny, isaD, permA, permD, cmD, cmI, runF, put_get, new_get, xc_whL, xc_fr, evi, srcOf, frL_fix, b1V, b1D_tuple, b1D_len, b1D_list, b1D_sum, b1D_min, b1D_max, biD, b1D_allT, lawT_con, lawCon, ixD, plc, frL_zip, srcZ_tt, eqD_bl, eqD_str, eqD_2, nox_ok, xc_tr, xh]; omega)
      (fun d hd => d1 d (List.mem_of_mem_eraseIdx hd)) (fun d hd => by
        rcases List.mem_append.mp hd with hd | hd
        · exact d2 d hd
        · rw [List.mem_singleton.mp hd]; exact d1 _ (List.getElem_mem hvl))
    refine ⟨f5', s', fs', ?_, i2, i3, i4, i5, by rw [i6]; exact n1, fun b h4 h5 h6 => ?_⟩
    · rw [forL_cons, ← i1]
      have gp2 : s.get p = some (.lst ds) := gp
      have hr : rngOk v v = true := by
        unfold rngOk
        simp [ty1, ty2, ty3, ty4, ty5, ty6, ty7, ty8, ty9, ty10, ty11, ty12, ty13, ty14, ty15, ty16, ty17, ty18, ty19, ty20, ty21, ty22, ty23, ty24, ty25, xcs, xc_asg, xc_par, xc_ex, xc_ite, xc_ret, xc_rai, xc_brk, xc_pass, ev, evs, asg, asgs, evo, rowOf, ofR, _root_.TR.R.bind, opD, opI, fin, gc_self, tru, truth, _root_.TR.R.ofO, Kc.d, mulOk_lt, mulOk_lt2, isaAny, isaD, permA, permD, cmD, cmI, runF, put_get, new_get, xc_whL, xc_fr, evi, srcOf, frL_fix, b1V, b1D_tuple, b1D_len, b1D_list, b1D_sum, b1D_min, b1D_max, biD, b1D_allT, lawT_con, lawCon, ixD, plc, frL_zip, srcZ_tt, eqD_bl, eqD_str, eqD_2, nox_ok, xc_tr, xh]
        omega
      have hpl : plc ds.length v = some v.toNat := by
        unfold plc
        rw [if_pos v0, if_pos (by omega)]
      have hgi : ds[v.toNat]? = some ds[v.toNat] := List.getElem?_eq_getElem hvl
      have hz : Nat.blt fs.length SZ = true := by
        have : SZ = 16777216 := rfl
        rw [Nat.blt_eq]; omega
      have gg2 : (s1.put p (.lst (ds.eraseIdx v.toNat))).get g = some (.lst fs) := (put_get_ne _ _ hpg).trans gg1
      generalize ds[v.toNat] = E2 at *
      simp (implicitDefEqProofs := false) [gp2, gg, e1, gp1, gg2, hr, hpl, hgi, hz, mtK, kindD, mtD, mtL, ty1, ty2, ty3, ty4, ty5, ty6, ty7, ty8, ty9, ty10, ty11, ty12, ty13, ty14, ty15, ty16, ty17, ty18, ty19, ty20, ty21, ty22, ty23, ty24, ty25, xcs, xc_asg, xc_par, xc_ex, xc_ite, xc_ret, xc_rai, xc_brk, xc_pass, ev, evs, asg, asgs, evo, rowOf, ofR, _root_.TR.R.bind, opD, opI, fin, gc_self, tru, truth, _root_.TR.R.ofO, Kc.d, mulOk_lt, mulOk_lt2, isaAny, isaD, permA, permD, cmD, cmI, runF, put_get, new_get, xc_whL, xc_fr, evi, srcOf, frL_fix, b1V, b1D_tuple, b1D_len, b1D_list, b1D_sum, b1D_min, b1D_max, biD, b1D_allT, lawT_con, lawCon, ixD, frL_zip, srcZ_tt, eqD_bl, eqD_str, eqD_2, nox_ok, xc_tr, xh]
    · rw [i7 b h4 h5 h6, put_get_ne _ _ (Ne.symm h6), put_get_ne _ _ (Ne.symm h5)]
      rcases hs1 with rfl | ⟨x, rfl⟩
      · rfl
      · exact put_get_ne _ _ (Ne.symm h4)
end TR.K55
set_option autoImplicit false
set_option linter.all false
set_option maxRecDepth 100000
namespace TR.K55
theorem P_pick (k : Nat) (s : Sto) (a c q : Nat) (rows : List D) (ht : Tin s a c) (hc : c ≤ 100) (hL : Low s) (hq : q < s.next) (hqa : q ≠ a) (gq : s.get q = some (.lst rows)) (hl : rows.length ≤ 99) (P : D → Prop) (hP : ∀ d ∈ rows, P d) :
    ∃ fs s', Phi lawT W31 (k + 2) 312 [.ref a, .ref q, .int 99] s = .ok (.ref (s.next + 1)) s' ∧ s'.get (s.next + 1) = some (.lst fs) ∧ (∀ d ∈ fs, P d) ∧ fs.length ≤ 1000 ∧ Low s' ∧ s'.next = s.next + 1 + 1 ∧ (∀ b, b < s.next → b ≠ a → s'.get b = s.get b) := by
  have hr := rngOf_one (n := (rows.length : Int)) (by omega) (by omega)
  have hrl := rngD_len (rows.length : Int).toNat 0
  generalize rngD 0 (rows.length : Int).toNat = Rg at *
  have hln : Rg.length = rows.length := by omega
  have L2 : Low ((s.new (.lst rows)).new (.lst [])) := (hL.new _).new _
  have t2 : Tin ((s.new (.lst rows)).new (.lst [])) a c := (ht.new _).new _
  have hal := ht.lt
  have gp : ((s.new (.lst rows)).new (.lst [])).get s.next = some (.lst rows) := get_up (new_get _ _) (Nat.lt_succ_self _)
  have gg : ((s.new (.lst rows)).new (.lst [])).get (s.next + 1) = some (.lst []) := new_getn1 _ _ _
  obtain ⟨f5', s', fs', i1, i2, i3, i4, i5, i6, i7⟩ := pick_loop k a q s.next (s.next + 1) (by omega) (by omega) (by omega) P (some (.ref a)) (some (.ref q)) (some (.int 99)) rfl Rg rows [] _ c none t2 (by omega) L2 (by show s.next < s.next + 1 + 1; omega) (by show s.next + 1 < s.next + 1 + 1; omega) gp gg (by omega) (by omega) (by simp [ty1, ty2, ty3, ty4, ty5, ty6, ty7, ty8, ty9, ty10, ty11, ty12, ty13, ty14, ty15, ty16, ty17, ty18, ty19, ty20, ty21, ty22, ty23, ty24, ty25, xcs, xc_asg, xc_par, xc_ex, xc_ite, xc_ret, xc_rai, xc_brk, xc_pass, ev, evs, asg, asgs, evo, rowOf, ofR, _root_.TR.R.bind, opD, opI, fin, gc_self, tru, truth, _root_.TR.R.ofO, Kc.d, mulOk_lt, mulOk_lt2, isaAny, isaD, permA, permD, cmD, cmI, runF, put_get, new_get, xc_whL, xc_fr, evi, srcOf, frL_fix, b1V, b1D_tuple, b1D_len, b1D_list, b1D_sum, b1D_min, b1D_max, biD, b1D_allT, lawT_con, lawCon, ixD, plc, frL_zip, srcZ_tt, eqD_bl, eqD_str, eqD_2, nox_ok, xc_tr, xh]; omega) hP (fun d hd => nomatch hd)
  refine ⟨fs', s', ?_, i2, i3, i4, i5, i6, fun b hb hba => ?_⟩
  · rw [Phi_step (k + 1) 312 _ _ _ rfl]
    refine run_rt [some (.ref a), some (.ref q), some (.int 99), none, none, none] rfl rfl ((xcs_nx (f' := [some (.ref a), some (.ref q), some (.int 99), some (.ref s.next), some (.ref (s.next + 1)), none]) (s' := (s.new (.lst rows)).new (.lst [])) ?_).trans ((xcs_frE (Rg := Rg) (s' := (s.new (.lst rows)).new (.lst [])) ?_ i1).trans (xcs_ret ?_))) rfl
    · generalize SZ = Z at *
      simp (implicitDefEqProofs := false) [gq, new_next, ty1, ty2, ty3, ty4, ty5, ty6, ty7, ty8, ty9, ty10, ty11, ty12, ty13, ty14, ty15, ty16, ty17, ty18, ty19, ty20, ty21, ty22, ty23, ty24, ty25, xcs, xc_asg, xc_par, xc_ex, xc_ite, xc_ret, xc_rai, xc_brk, xc_pass, ev, evs, asg, asgs, evo, rowOf, ofR, _root_.TR.R.bind, opD, opI, fin, gc_self, tru, truth, _root_.TR.R.ofO, Kc.d, mulOk_lt, mulOk_lt2, isaAny, isaD, permA, permD, cmD, cmI, runF, put_get, new_get, xc_whL, xc_fr, evi, srcOf, frL_fix, b1V, b1D_tuple, b1D_len, b1D_list, b1D_sum, b1D_min, b1D_max, biD, b1D_allT, lawT_con, lawCon, ixD, plc, frL_zip, srcZ_tt, eqD_bl, eqD_str, eqD_2, nox_ok, xc_tr, xh]
    · refine evi_rng2 (as := [.int rows.length]) ?_ hr
      have hlt : (if (rows.length : Int) < 99 then (rows.length : Int) else 99) = rows.length := by split <;> omega
      simp [gp, hlt, ty1, ty2, ty3, ty4, ty5, ty6, ty7, ty8, ty9, ty10, ty11, ty12, ty13, ty14, ty15, ty16, ty17, ty18, ty19, ty20, ty21, ty22, ty23, ty24, ty25, xcs, xc_asg, xc_par, xc_ex, xc_ite, xc_ret, xc_rai, xc_brk, xc_pass, ev, evs, asg, asgs, evo, rowOf, ofR, _root_.TR.R.bind, opD, opI, fin, gc_self, tru, truth, _root_.TR.R.ofO, Kc.d, mulOk_lt, mulOk_lt2, isaAny, isaD, permA, permD, cmD, cmI, runF, put_get, new_get, xc_whL, xc_fr, evi, srcOf, frL_fix, b1V, b1D_tuple, b1D_len, b1D_list, b1D_sum, b1D_min, b1D_max, biD, b1D_allT, lawT_con, lawCon, ixD, plc, frL_zip, srcZ_tt, eqD_bl, eqD_str, eqD_2, nox_ok, xc_tr, xh]
    · simp [ty1, ty2, ty3, ty4, ty5, ty6, ty7, ty8, ty9, ty10, ty11, ty12, ty13, ty14, ty15, ty16, ty17, ty18, ty19, ty20, ty21, ty22, ty23, ty24, ty25, xcs, xc_asg, xc_par, xc_ex, xc_ite, xc_ret, xc_rai, xc_brk, xc_pass, ev, evs, asg, asgs, evo, rowOf, ofR, _root_.TR.R.bind, opD, opI, fin, gc_self, tru, truth, _root_.TR.R.ofO, Kc.d, mulOk_lt, mulOk_lt2, isaAny, isaD, permA, permD, cmD, cmI, runF, put_get, new_get, xc_whL, xc_fr, evi, srcOf, frL_fix, b1V, b1D_tuple, b1D_len, b1D_list, b1D_sum, b1D_min, b1D_max, biD, b1D_allT, lawT_con, lawCon, ixD, plc, frL_zip, srcZ_tt, eqD_bl, eqD_str, eqD_2, nox_ok, xc_tr, xh]
  · rw [i7 b hba (by omega) (by omega), new_get_ne _ _ (by show s.next + 1 ≠ b; omega), new_get_ne _ _ (by omega)]
/-! ### none of the bad ones fits -/
theorem loop_lv {a : Nat} {all : List D} {body : D → Fr → Sto → O} {P : Sto → Prop} {F : Fr → Prop} (hP : ∀ s, P s → s.get a = some (.lst all)) (hb : ∀ d ∈ all, ∀ f s, F f → P s → ∃ f' s', body d f s = .nx f' s' ∧ F f' ∧ P s') : ∀ (ds : List D) (i m : Nat) (f : Fr) (s : Sto), all.drop i = ds → ds.length ≤ m → F f → P s → ∃ f' s', loopF (nxt (.lv a)) body i m f s = .nx f' s' ∧ F f' ∧ P s'
  | [], i, m, f, s, e, hm, hf, hp => by
    refine ⟨f, s, ?_, hf, hp⟩
    unfold loopF
    have : all[i]? = none := List.getElem?_eq_none (by have := congrArg List.length e; simp [ty1, ty2, ty3, ty4, ty5, ty6, ty7, ty8, ty9, ty10, ty11, ty12, ty13, ty14, ty15, ty16, ty17, ty18, ty19, ty20, ty21, ty22, ty23, ty24, ty25, xcs, xc_asg, xc_par, xc_ex, xc_ite, xc_ret, xc_rai, xc_brk, xc_pass, ev, evs, asg, asgs, evo, rowOf, ofR, _root_.TR.R.bind, opD, opI, fin, gc_self, tru, truth, _root_.TR.R.ofO, Kc.d, mulOk_lt, mulOk_lt2, isaAny, isaD, permA, permD, cmD, cmI, runF, put_get, new_get, xc_whL, xc_fr, evi, srcOf, frL_fix, b1V, b1D_tuple, b1D_len, b1D_list, b1D_sum, b1D_min, b1D_max, biD, b1D_allT, lawT_con, lawCon, ixD, plc, frL_zip, srcZ_tt, eqD_bl, eqD_str, eqD_2, nox_ok, xc_tr, xh] at this; omega)
    simp only [nxt, hP s hp, this]
  | d :: ds, i, m, f, s, e, hm, hf, hp => by
    have hi : all[i]? = some d := by rw [← List.head?_drop, e]; rfl
    have hd : all.drop (i + 1) = ds := by rw [← List.tail_drop, e]; rfl
    have hmem : d ∈ all := by
      have : d ∈ all.drop i := by rw [e]; exact List.mem_cons_self
      exact List.mem_of_mem_drop this
    obtain ⟨m, rfl⟩ : ∃ m', m = m' + 1 := ⟨m - 1, by simp [ty1, ty2, ty3, ty4, ty5, ty6, ty7, ty8, ty9, ty10, ty11, ty12, ty13, ty14, ty15, ty16, ty17, ty18, ty19, ty20, ty21, ty22, ty23, ty24, ty25, xcs, xc_asg, xc_par, xc_ex, xc_ite, xc_ret, xc_rai, xc_brk, xc_pass, ev, evs, asg, asgs, evo, rowOf, ofR, _root_.TR.R.bind, opD, opI, fin, gc_self, tru, truth, _root_.TR.R.ofO, Kc.d, mulOk_lt, mulOk_lt2, isaAny, isaD, permA, permD, cmD, cmI, runF, put_get, new_get, xc_whL, xc_fr, evi, srcOf, frL_fix, b1V, b1D_tuple, b1D_len, b1D_list, b1D_sum, b1D_min, b1D_max, biD, b1D_allT, lawT_con, lawCon, ixD, plc, frL_zip, srcZ_tt, eqD_bl, eqD_str, eqD_2, nox_ok, xc_tr, xh] at hm; omega⟩
    obtain ⟨f1, s1, h1, hf1, hp1⟩ := hb d hmem f s hf hp
    obtain ⟨f2, s2, h2, hf2, hp2⟩ := loop_lv hP hb ds (i + 1) m f1 s1 hd (by simpa [ty1, ty2, ty3, ty4, ty5, ty6, ty7, ty8, ty9, ty10, ty11, ty12, ty13, ty14, ty15, ty16, ty17, ty18, ty19, ty20, ty21, ty22, ty23, ty24, ty25, xcs, xc_asg, xc_par, xc_ex, xc_ite, xc_ret, xc_rai, xc_brk, xc_pass, ev, evs, asg, asgs, evo, rowOf, ofR, _root_.TR.R.bind, opD, opI, fin, gc_self, tru, truth, _root_.TR.R.ofO, Kc.d, mulOk_lt, mulOk_lt2, isaAny, isaD, permA, permD, cmD, cmI, runF, put_get, new_get, xc_whL, xc_fr, evi, srcOf, frL_fix, b1V, b1D_tuple, b1D_len, b1D_list, b1D_sum, b1D_min, b1D_max, biD, b1D_allT, lawT_con, lawCon, ixD, plc, frL_zip, srcZ_tt, eqD_bl, eqD_str, eqD_2, nox_ok, xc_tr, xh] using hm) hf1 hp1
    refine ⟨f2, s2, ?_, hf2, hp2⟩
    unfold loopF
    simp only [nxt, hP s hp, hi, h1]
    simp only [nxt] at h2
    exact h2
/-- cells that stay, the store low -/
def Kp (s0 s : Sto) : Prop := Low s ∧ s0.next ≤ s.next ∧ ∀ b, b < s0.next → s.get b = s0.get b
theorem Kp.refl {s : Sto} (h : Low s) : Kp s s := ⟨h, Nat.le_refl _, fun _ _ => rfl⟩
theorem Kp.new {s0 s : Sto} (h : Kp s0 s) (c : Cell) : Kp s0 (s.new c) := ⟨h.1.new c, Nat.le_succ_of_le h.2.1, fun b hb => (new_get_ne s c (by have := h.2.1; omega)).trans (h.2.2 b hb)⟩
def fitS : S := .ite (.cmp .ne (.calv 0 [(.v 2), (.op .add (.op .add (.sl (.v 3) none (some (.v 4))) (.tup [(.v 6)])) (.sl (.v 3) (some (.op .add (.v 4) (.c (.int 1)))) none))]) (.lst [(.c (.str wUnfit)), (.c (.bl true))])) [.ret (.c (.bl false))] []
theorem cut_lo (xs : List D) {p : Int} (h : 0 ≤ p) : cut xs none (some p) = xs.take p.toNat := by
  unfold cut clp
  simp only [if_pos h, List.drop_zero]
  by_cases hp : p.toNat ≤ xs.length
  · rw [Nat.min_eq_left hp]
  · rw [Nat.min_eq_right (by omega), List.take_length, List.take_of_length_le (by omega)]
theorem cut_hi (xs : List D) {p : Int} (h : 0 ≤ p) : cut xs (some p) none = xs.drop p.toNat := by
  unfold cut clp
  simp only [if_pos h, List.take_length]
  by_cases hp : p.toNat ≤ xs.length
  · rw [Nat.min_eq_left hp]
  · rw [Nat.min_eq_right (by omega), List.drop_length, List.drop_of_length_le (by omega)]
theorem fit_one (f : Nat) (goods : List D) (p : Int) (x : D) (s0 s : Sto) (f1 f5 : Option D) (hk : Kp s0 s) (hg : pureL goods = true) (p0 : 0 ≤ p) (p1 : p ≤ 10) (gl : goods.length ≤ 10) (hx : pure1 x = true) (hm : markB wUnfit (Phi lawT W31 78 317 [.fn f, .tup (goods.take p.toNat ++ [x] ++ goods.drop (p.toNat + 1))] ⟨0, []⟩) = true) :
    ∃ s', xc (Mk 78) fitS [some (.fn 317), f1, some (.fn f), some (.tup goods), some (.int p), f5, some x] s = .nx [some (.fn 317), f1, some (.fn f), some (.tup goods), some (.int p), f5, some x] s' ∧ Kp s0 s' := by
  have pt : ∀ (xs ys : List D), pureL (xs ++ ys) = (pureL xs && pureL ys) := fun xs ys => by
    induction xs with
    | nil => rfl
    | cons z xs ih => show (pure1 z && pureL (xs ++ ys)) = _; rw [ih, ← Bool.and_assoc]; rfl
  have ptk : ∀ (n : Nat) (xs : List D), pureL xs = true → pureL (xs.take n) = true ∧ pureL (xs.drop n) = true := fun n xs h => by
    rw [← List.take_append_drop n xs, pt, Bool.and_eq_true] at h
    exact h
  have hpure : pureL [.fn f, .tup (goods.take p.toNat ++ [x] ++ goods.drop (p.toNat + 1))] = true := by
    show (true && (pureL (goods.take p.toNat ++ [x] ++ goods.drop (p.toNat + 1)) && true)) = true
    rw [pt, pt, (ptk _ _ hg).1, (ptk _ _ hg).2]
    show (true && (true && (pure1 x && true && true && true))) = true
    rw [hx]; rfl
  have hcall := mark_call hpure hm s hk.1
  refine ⟨(s.new (.lst [.str wUnfit, .bl true])).new (.lst [.str wUnfit, .bl true]), ?_, (hk.new _).new _⟩
  have c1 := cut_lo goods p0
  have c2 := cut_hi goods (p := p + 1) (by omega)
  have e1 : (p + 1).toNat = p.toNat + 1 := by omega
  rw [e1] at c2
  have k1 : catOk (goods.take p.toNat) [x] = true := catOk_le (by simp [ty1, ty2, ty3, ty4, ty5, ty6, ty7, ty8, ty9, ty10, ty11, ty12, ty13, ty14, ty15, ty16, ty17, ty18, ty19, ty20, ty21, ty22, ty23, ty24, ty25, xcs, xc_asg, xc_par, xc_ex, xc_ite, xc_ret, xc_rai, xc_brk, xc_pass, ev, evs, asg, asgs, evo, rowOf, ofR, _root_.TR.R.bind, opD, opI, fin, gc_self, tru, truth, _root_.TR.R.ofO, Kc.d, mulOk_lt, mulOk_lt2, isaAny, isaD, permA, permD, cmD, cmI, runF, put_get, new_get, xc_whL, xc_fr, evi, srcOf, frL_fix, b1V, b1D_tuple, b1D_len, b1D_list, b1D_sum, b1D_min, b1D_max, biD, b1D_allT, lawT_con, lawCon, ixD, plc, frL_zip, srcZ_tt, eqD_bl, eqD_str, eqD_2, nox_ok, xc_tr, xh]; omega)
  have k2 : catOk (goods.take p.toNat ++ [x]) (goods.drop (p.toNat + 1)) = true := catOk_le (by simp [ty1, ty2, ty3, ty4, ty5, ty6, ty7, ty8, ty9, ty10, ty11, ty12, ty13, ty14, ty15, ty16, ty17, ty18, ty19, ty20, ty21, ty22, ty23, ty24, ty25, xcs, xc_asg, xc_par, xc_ex, xc_ite, xc_ret, xc_rai, xc_brk, xc_pass, ev, evs, asg, asgs, evo, rowOf, ofR, _root_.TR.R.bind, opD, opI, fin, gc_self, tru, truth, _root_.TR.R.ofO, Kc.d, mulOk_lt, mulOk_lt2, isaAny, isaD, permA, permD, cmD, cmI, runF, put_get, new_get, xc_whL, xc_fr, evi, srcOf, frL_fix, b1V, b1D_tuple, b1D_len, b1D_list, b1D_sum, b1D_min, b1D_max, biD, b1D_allT, lawT_con, lawCon, ixD, plc, frL_zip, srcZ_tt, eqD_bl, eqD_str, eqD_2, nox_ok, xc_tr, xh]; omega)
  have g1 : ((s.new (.lst [.str wUnfit, .bl true])).new (.lst [.str wUnfit, .bl true])).get s.next = some (.lst [.str wUnfit, .bl true]) := get_up (new_get _ _) (Nat.lt_succ_self _)
  have g2 : ((s.new (.lst [.str wUnfit, .bl true])).new (.lst [.str wUnfit, .bl true])).get (s.next + 1) = some (.lst [.str wUnfit, .bl true]) := new_getn1 _ _ _
  have he : eqD ((s.new (.lst [.str wUnfit, .bl true])).new (.lst [.str wUnfit, .bl true])) (.ref s.next) (.ref (s.next + 1)) = some true := by
    unfold eqD
    have r1 : rd RDN ((s.new (.lst [.str wUnfit, .bl true])).new (.lst [.str wUnfit, .bl true])) (.ref s.next) = some (.list [.str wUnfit, .bool true]) := by
      show (match Sto.get _ s.next with | some (.lst xs) => _ | _ => _) = _
      rw [g1]; rfl
    have r2 : rd RDN ((s.new (.lst [.str wUnfit, .bl true])).new (.lst [.str wUnfit, .bl true])) (.ref (s.next + 1)) = some (.list [.str wUnfit, .bool true]) := by
      show (match Sto.get _ (s.next + 1) with | some (.lst xs) => _ | _ => _) = _
      rw [g2]; rfl
    rw [r1, r2]
    show some (eqPs [.str wUnfit, .bool true] [.str wUnfit, .bool true]) = _
    simp [eqPs, eqP, ty1, ty2, ty3, ty4, ty5, ty6, ty7, ty8, ty9, ty10, ty11, ty12, ty13, ty14, ty15, ty16, ty17, ty18, ty19, ty20, ty21, ty22, ty23, ty24, ty25, xcs, xc_asg, xc_par, xc_ex, xc_ite, xc_ret, xc_rai, xc_brk, xc_pass, ev, evs, asg, asgs, evo, rowOf, ofR, _root_.TR.R.bind, opD, opI, fin, gc_self, tru, truth, _root_.TR.R.ofO, Kc.d, mulOk_lt, mulOk_lt2, isaAny, isaD, permA, permD, cmD, cmI, runF, put_get, new_get, xc_whL, xc_fr, evi, srcOf, frL_fix, b1V, b1D_tuple, b1D_len, b1D_list, b1D_sum, b1D_min, b1D_max, biD, b1D_allT, lawT_con, lawCon, ixD, plc, frL_zip, srcZ_tt, eqD_bl, eqD_str, eqD_2, nox_ok, xc_tr, xh]
  generalize goods.take p.toNat = G1 at *
  generalize goods.drop (p.toNat + 1) = G2 at *
  have ha : G1 ++ [x] ++ G2 = G1 ++ x :: G2 := by simp [ty1, ty2, ty3, ty4, ty5, ty6, ty7, ty8, ty9, ty10, ty11, ty12, ty13, ty14, ty15, ty16, ty17, ty18, ty19, ty20, ty21, ty22, ty23, ty24, ty25, xcs, xc_asg, xc_par, xc_ex, xc_ite, xc_ret, xc_rai, xc_brk, xc_pass, ev, evs, asg, asgs, evo, rowOf, ofR, _root_.TR.R.bind, opD, opI, fin, gc_self, tru, truth, _root_.TR.R.ofO, Kc.d, mulOk_lt, mulOk_lt2, isaAny, isaD, permA, permD, cmD, cmI, runF, put_get, new_get, xc_whL, xc_fr, evi, srcOf, frL_fix, b1V, b1D_tuple, b1D_len, b1D_list, b1D_sum, b1D_min, b1D_max, biD, b1D_allT, lawT_con, lawCon, ixD, plc, frL_zip, srcZ_tt, eqD_bl, eqD_str, eqD_2, nox_ok, xc_tr, xh]
  rw [ha] at hcall
  simp [fitS, slD, c1, c2, k1, k2, hcall, he, new_next, ty1, ty2, ty3, ty4, ty5, ty6, ty7, ty8, ty9, ty10, ty11, ty12, ty13, ty14, ty15, ty16, ty17, ty18, ty19, ty20, ty21, ty22, ty23, ty24, ty25, xcs, xc_asg, xc_par, xc_ex, xc_ite, xc_ret, xc_rai, xc_brk, xc_pass, ev, evs, asg, asgs, evo, rowOf, ofR, _root_.TR.R.bind, opD, opI, fin, gc_self, tru, truth, _root_.TR.R.ofO, Kc.d, mulOk_lt, mulOk_lt2, isaAny, isaD, permA, permD, cmD, cmI, runF, put_get, new_get, xc_whL, xc_fr, evi, srcOf, frL_fix, b1V, b1D_tuple, b1D_len, b1D_list, b1D_sum, b1D_min, b1D_max, biD, b1D_allT, lawT_con, lawCon, ixD, plc, frL_zip, srcZ_tt, eqD_bl, eqD_str, eqD_2, nox_ok, xc_tr, xh]
end TR.K55
set_option autoImplicit false
set_option linter.all false
set_option maxRecDepth 100000
namespace TR.K55
structure RowIn (s0 : Sto) (d : D) : Prop where
  ex : ∃ f goods p b bads, d = .tup [.fn f, .tup goods, .int p, .ref b] ∧ pureL goods = true ∧ 0 ≤ p ∧ p ≤ 10 ∧ goods.length ≤ 10 ∧ b < s0.next ∧ s0.get b = some (.lst bads) ∧ bads.length ≤ 1000 ∧ ∀ x ∈ bads, pure1 x = true ∧ markB wUnfit (Phi lawT W31 78 317 [.fn f, .tup (goods.take p.toNat ++ [x] ++ goods.drop (p.toNat + 1))] ⟨0, []⟩) = true
theorem lv_seq {k : Nat} {f : Fr} {s : Sto} {i a : Nat} {xs : List D} (hv : ev (Mk k) (.v i) f s = .ok (.ref a) s) (h : s.get a = some (.lst xs)) : evi (Mk k) (.seq (.v i)) f s = .ok (.lv a, SZ) s := by
  rw [evi, hv]
  simp only [R.bind, srcOf, h, R.ofO]
theorem fits_inner (f : Nat) (goods : List D) (p : Int) (b : Nat) (bads : List D) (s0 s : Sto) (f1 f6 : Option D) (hk : Kp s0 s) (hg : pureL goods = true) (p0 : 0 ≤ p) (p1 : p ≤ 10) (gl : goods.length ≤ 10) (hb : b < s0.next) (gb : s0.get b = some (.lst bads)) (bl : bads.length ≤ 1000)
    (hx : ∀ x ∈ bads, pure1 x = true ∧ markB wUnfit (Phi lawT W31 78 317 [.fn f, .tup (goods.take p.toNat ++ [x] ++ goods.drop (p.toNat + 1))] ⟨0, []⟩) = true) :
    ∃ f6' s', xc (Mk 78) (.fr (.n 6) (.seq (.v 5)) [fitS]) [some (.fn 317), f1, some (.fn f), some (.tup goods), some (.int p), some (.ref b), f6] s = .nx [some (.fn 317), f1, some (.fn f), some (.tup goods), some (.int p), some (.ref b), f6'] s' ∧ Kp s0 s' := by
  have hsz : 1000 ≤ SZ := by unfold SZ; omega
  obtain ⟨f', s', h1, ⟨z, rfl⟩, h3⟩ := loop_lv (a := b) (all := bads) (body := fun d f s => ofR f (asg (Mk 78) (.n 6) d f s) fun f s => xcs (Mk 78) [fitS] f s) (P := Kp s0) (F := fun F => ∃ z, F = [some (.fn 317), f1, some (.fn f), some (.tup goods), some (.int p), some (.ref b), z])
    (fun s h => (h.2.2 b hb).trans gb) (fun d hd fr s ⟨z, e⟩ hk => by
      subst e
      obtain ⟨s', e1, k1⟩ := fit_one f goods p d s0 s f1 (some (.ref b)) hk hg p0 p1 gl (hx d hd).1 (hx d hd).2
      refine ⟨_, s', ?_, ⟨some d, rfl⟩, k1⟩
      have ha : asg (Mk 78) (.n 6) d [some (.fn 317), f1, some (.fn f), some (.tup goods), some (.int p), some (.ref b), z] s = .ok [some (.fn 317), f1, some (.fn f), some (.tup goods), some (.int p), some (.ref b), some d] s := by rw [asg]; rfl
      simp only [ha, ofR]
      rw [xcs_nx e1, xcs]) bads 0 SZ [some (.fn 317), f1, some (.fn f), some (.tup goods), some (.int p), some (.ref b), f6] s rfl (by omega) ⟨f6, rfl⟩ hk
  refine ⟨z, s', ?_, h3⟩
  rw [xc_fr, lv_seq (a := b) (xs := bads) (by simp [ty1, ty2, ty3, ty4, ty5, ty6, ty7, ty8, ty9, ty10, ty11, ty12, ty13, ty14, ty15, ty16, ty17, ty18, ty19, ty20, ty21, ty22, ty23, ty24, ty25, xcs, xc_asg, xc_par, xc_ex, xc_ite, xc_ret, xc_rai, xc_brk, xc_pass, ev, evs, asg, asgs, evo, rowOf, ofR, _root_.TR.R.bind, opD, opI, fin, gc_self, tru, truth, _root_.TR.R.ofO, Kc.d, mulOk_lt, mulOk_lt2, isaAny, isaD, permA, permD, cmD, cmI, runF, put_get, new_get, xc_whL, xc_fr, evi, srcOf, frL_fix, b1V, b1D_tuple, b1D_len, b1D_list, b1D_sum, b1D_min, b1D_max, biD, b1D_allT, lawT_con, lawCon, ixD, plc, frL_zip, srcZ_tt, eqD_bl, eqD_str, eqD_2, nox_ok, xc_tr, xh]) ((hk.2.2 b hb).trans gb)]
  simp only [ofR]
  unfold frL
  exact h1
theorem P_none (s : Sto) (p : Nat) (fs : List D) (hL : Low s) (hp : p < s.next) (gp : s.get p = some (.lst fs)) (fl : fs.length ≤ 1000) (hr : ∀ d ∈ fs, RowIn s d) : ∃ s', Phi lawT W31 79 316 [.fn 317, .ref p] s = .ok (.bl true) s' ∧ Kp s s' := by
  have hsz : 1000 ≤ SZ := by unfold SZ; omega
  obtain ⟨f', s', h1, ⟨z2, z3, z4, z5, z6, rfl⟩, h3⟩ := loop_lv (a := p) (all := fs) (body := fun d f s => ofR f (asg (Mk 78) (.t [(.n 2), (.n 3), (.n 4), (.n 5)]) d f s) fun f s => xcs (Mk 78) [.fr (.n 6) (.seq (.v 5)) [fitS]] f s) (P := Kp s) (F := fun F => ∃ z2 z3 z4 z5 z6, F = [some (.fn 317), some (.ref p), z2, z3, z4, z5, z6])
    (fun s' h => (h.2.2 p hp).trans gp) (fun d hd fr s' ⟨z2, z3, z4, z5, z6, e⟩ hk => by
      subst e
      obtain ⟨f, goods, i, b, bads, rfl, r1, r2, r3, r4, r5, r6, r7, r8⟩ := (hr d hd).ex
      obtain ⟨z, s2, e1, k1⟩ := fits_inner f goods i b bads s s' (some (.ref p)) z6 hk r1 r2 r3 r4 r5 r6 r7 r8
      refine ⟨[some (.fn 317), some (.ref p), some (.fn f), some (.tup goods), some (.int i), some (.ref b), z], s2, ?_, ⟨_, _, _, _, _, rfl⟩, k1⟩
      have ha : asg (Mk 78) (.t [(.n 2), (.n 3), (.n 4), (.n 5)]) (.tup [.fn f, .tup goods, .int i, .ref b]) [some (.fn 317), some (.ref p), z2, z3, z4, z5, z6] s' = .ok [some (.fn 317), some (.ref p), some (.fn f), some (.tup goods), some (.int i), some (.ref b), z6] s' := by simp [ty1, ty2, ty3, ty4, ty5, ty6, ty7, ty8, ty9, ty10, ty11, ty12, ty13, ty14, ty15, ty16, ty17, ty18, ty19, ty20, ty21, ty22, ty23, ty24, ty25, xcs, xc_asg, xc_par, xc_ex, xc_ite, xc_ret, xc_rai, xc_brk, xc_pass, ev, evs, asg, asgs, evo, rowOf, ofR, _root_.TR.R.bind, opD, opI, fin, gc_self, tru, truth, _root_.TR.R.ofO, Kc.d, mulOk_lt, mulOk_lt2, isaAny, isaD, permA, permD, cmD, cmI, runF, put_get, new_get, xc_whL, xc_fr, evi, srcOf, frL_fix, b1V, b1D_tuple, b1D_len, b1D_list, b1D_sum, b1D_min, b1D_max, biD, b1D_allT, lawT_con, lawCon, ixD, plc, frL_zip, srcZ_tt, eqD_bl, eqD_str, eqD_2, nox_ok, xc_tr, xh]
      simp only [ha, ofR]
      rw [xcs_nx e1, xcs]) fs 0 SZ [some (.fn 317), some (.ref p), none, none, none, none, none] s rfl (by omega) ⟨_, _, _, _, _, rfl⟩ (Kp.refl hL)
  have hfr : xc (Mk 78) (.fr (.t [(.n 2), (.n 3), (.n 4), (.n 5)]) (.seq (.v 1)) [.fr (.n 6) (.seq (.v 5)) [fitS]]) [some (.fn 317), some (.ref p), none, none, none, none, none] s = .nx [some (.fn 317), some (.ref p), z2, z3, z4, z5, z6] s' := by
    rw [xc_fr, lv_seq (a := p) (xs := fs) (by simp [ty1, ty2, ty3, ty4, ty5, ty6, ty7, ty8, ty9, ty10, ty11, ty12, ty13, ty14, ty15, ty16, ty17, ty18, ty19, ty20, ty21, ty22, ty23, ty24, ty25, xcs, xc_asg, xc_par, xc_ex, xc_ite, xc_ret, xc_rai, xc_brk, xc_pass, ev, evs, asg, asgs, evo, rowOf, ofR, _root_.TR.R.bind, opD, opI, fin, gc_self, tru, truth, _root_.TR.R.ofO, Kc.d, mulOk_lt, mulOk_lt2, isaAny, isaD, permA, permD, cmD, cmI, runF, put_get, new_get, xc_whL, xc_fr, evi, srcOf, frL_fix, b1V, b1D_tuple, b1D_len, b1D_list, b1D_sum, b1D_min, b1D_max, biD, b1D_allT, lawT_con, lawCon, ixD, plc, frL_zip, srcZ_tt, eqD_bl, eqD_str, eqD_2, nox_ok, xc_tr, xh]) gp]
    simp only [ofR]
    unfold frL
    exact h1
  refine ⟨gc true s s', ?_, ?_⟩
  · rw [Phi_step 78 316 _ _ _ rfl]
    have hx : xcs (Mk 78) c_k55__law_none_fits.body [some (.fn 317), some (.ref p), none, none, none, none, none] s = .rt (.bl true) s' := (xcs_nx hfr).trans (xcs_ret rfl)
    show fin s (xcs (Mk 78) c_k55__law_none_fits.body [some (.fn 317), some (.ref p), none, none, none, none, none] s) = _
    rw [hx]
    rfl
  · rcases gc_two true s s' with e | e <;> rw [e]
    · exact Kp.refl hL
    · exact h3
end TR.K55
set_option autoImplicit false
set_option linter.all false
set_option maxRecDepth 100000
namespace TR.K55
def cellsB (k : Nat) : D → Fr → Sto → O := fun d f s => ofR f (asg (Mk k) (.t [(.n 3), (.n 4)]) d f s) fun f s => xcs (Mk k) [.asg (.n 5) (.op .mod (.bi .int [(.v 3)]) (.v 1)), .asg (.s (.v 2) (.v 5)) (.op .add (.ix (.v 2) (.v 5)) (.op .mul (.v 4) (.op .add (.v 3) (.c (.int 2)))))] f s
theorem cellsB0 (k : Nat) (i b u : Int) (p : Nat) (s : Sto) (f0 f3 f4 f5 : Option D) (hz : i.fmod 1 = 0) (m1 : (i + 2).natAbs < 18446744073709551616) (hp : s.get p = some (.lst [.int u])) : cellsB k (.tup [.int i, .int b]) [f0, some (.int 1), some (.ref p), f3, f4, f5] s = .nx [f0, some (.int 1), some (.ref p), some (.int i), some (.int b), some (.int 0)] (s.put p (.lst [.int (u + b * (i + 2))])) := by
  unfold cellsB
  simp [hz, hp, m1, stD, ty1, ty2, ty3, ty4, ty5, ty6, ty7, ty8, ty9, ty10, ty11, ty12, ty13, ty14, ty15, ty16, ty17, ty18, ty19, ty20, ty21, ty22, ty23, ty24, ty25, xcs, xc_asg, xc_par, xc_ex, xc_ite, xc_ret, xc_rai, xc_brk, xc_pass, ev, evs, asg, asgs, evo, rowOf, ofR, _root_.TR.R.bind, opD, opI, fin, gc_self, tru, truth, _root_.TR.R.ofO, Kc.d, mulOk_lt, mulOk_lt2, isaAny, isaD, permA, permD, cmD, cmI, runF, put_get, new_get, xc_whL, xc_fr, evi, srcOf, frL_fix, b1V, b1D_tuple, b1D_len, b1D_list, b1D_sum, b1D_min, b1D_max, biD, b1D_allT, lawT_con, lawCon, ixD, plc, frL_zip, srcZ_tt, eqD_bl, eqD_str, eqD_2, nox_ok, xc_tr, xh]
theorem cells_loop (k : Nat) (f0 f1 : Option D) (p q : Nat) (hpq : p ≠ q) (rest : List Int) (hrl : rest.length ≤ 63) : ∀ (l : List Int) (i m : Nat) (s : Sto) (u : Int) (f3 f4 f5 : Option D), rest.drop i = l → l.length ≤ m → s.get p = some (.lst [.int u]) → s.get q = some (.lst (I rest)) → Low s → p < s.next →
    ∃ u' f3' f4' f5' s', loopF (nxt (.en (.lv q))) (cellsB k) i m [f0, some (.int 1), some (.ref p), f3, f4, f5] s = .nx [f0, some (.int 1), some (.ref p), f3', f4', f5'] s' ∧ s'.get p = some (.lst [.int u']) ∧ s'.next = s.next ∧ Low s'
  | [], i, m, s, u, f3, f4, f5, e, hm, hp, hq, hL, hpl => by
    refine ⟨u, f3, f4, f5, s, ?_, hp, rfl, hL⟩
    unfold loopF
    have : rest[i]? = none := List.getElem?_eq_none (by have := congrArg List.length e; simp [ty1, ty2, ty3, ty4, ty5, ty6, ty7, ty8, ty9, ty10, ty11, ty12, ty13, ty14, ty15, ty16, ty17, ty18, ty19, ty20, ty21, ty22, ty23, ty24, ty25, xcs, xc_asg, xc_par, xc_ex, xc_ite, xc_ret, xc_rai, xc_brk, xc_pass, ev, evs, asg, asgs, evo, rowOf, ofR, _root_.TR.R.bind, opD, opI, fin, gc_self, tru, truth, _root_.TR.R.ofO, Kc.d, mulOk_lt, mulOk_lt2, isaAny, isaD, permA, permD, cmD, cmI, runF, put_get, new_get, xc_whL, xc_fr, evi, srcOf, frL_fix, b1V, b1D_tuple, b1D_len, b1D_list, b1D_sum, b1D_min, b1D_max, biD, b1D_allT, lawT_con, lawCon, ixD, plc, frL_zip, srcZ_tt, eqD_bl, eqD_str, eqD_2, nox_ok, xc_tr, xh] at this; omega)
    have h2 : (I rest)[i]? = none := by unfold I; rw [List.getElem?_map, this]; rfl
    simp only [nxt, hq, h2]
  | b :: l, i, m, s, u, f3, f4, f5, e, hm, hp, hq, hL, hpl => by
    have hi : rest[i]? = some b := by rw [← List.head?_drop, e]; rfl
    have hd : rest.drop (i + 1) = l := by rw [← List.tail_drop, e]; rfl
    have hil : i < rest.length := by
      have := congrArg List.length e
      simp [ty1, ty2, ty3, ty4, ty5, ty6, ty7, ty8, ty9, ty10, ty11, ty12, ty13, ty14, ty15, ty16, ty17, ty18, ty19, ty20, ty21, ty22, ty23, ty24, ty25, xcs, xc_asg, xc_par, xc_ex, xc_ite, xc_ret, xc_rai, xc_brk, xc_pass, ev, evs, asg, asgs, evo, rowOf, ofR, _root_.TR.R.bind, opD, opI, fin, gc_self, tru, truth, _root_.TR.R.ofO, Kc.d, mulOk_lt, mulOk_lt2, isaAny, isaD, permA, permD, cmD, cmI, runF, put_get, new_get, xc_whL, xc_fr, evi, srcOf, frL_fix, b1V, b1D_tuple, b1D_len, b1D_list, b1D_sum, b1D_min, b1D_max, biD, b1D_allT, lawT_con, lawCon, ixD, plc, frL_zip, srcZ_tt, eqD_bl, eqD_str, eqD_2, nox_ok, xc_tr, xh] at this; omega
    have h2 : (I rest)[i]? = some (.int b) := by unfold I; rw [List.getElem?_map, hi]; rfl
    obtain ⟨m, rfl⟩ : ∃ m', m = m' + 1 := ⟨m - 1, by simp [ty1, ty2, ty3, ty4, ty5, ty6, ty7, ty8, ty9, ty10, ty11, ty12, ty13, ty14, ty15, ty16, ty17, ty18, ty19, ty20, ty21, ty22, ty23, ty24, ty25, xcs, xc_asg, xc_par, xc_ex, xc_ite, xc_ret, xc_rai, xc_brk, xc_pass, ev, evs, asg, asgs, evo, rowOf, ofR, _root_.TR.R.bind, opD, opI, fin, gc_self, tru, truth, _root_.TR.R.ofO, Kc.d, mulOk_lt, mulOk_lt2, isaAny, isaD, permA, permD, cmD, cmI, runF, put_get, new_get, xc_whL, xc_fr, evi, srcOf, frL_fix, b1V, b1D_tuple, b1D_len, b1D_list, b1D_sum, b1D_min, b1D_max, biD, b1D_allT, lawT_con, lawCon, ixD, plc, frL_zip, srcZ_tt, eqD_bl, eqD_str, eqD_2, nox_ok, xc_tr, xh] at hm; omega⟩
    have m1 : ((i : Int) + 2).natAbs < 18446744073709551616 := by omega
    have hz : (i : Int).fmod 1 = 0 := by rw [Int.fmod_eq_emod_of_nonneg _ (by omega)]; omega
    obtain ⟨u', f3', f4', f5', s', h1, h3, h4, h5⟩ := cells_loop k f0 f1 p q hpq rest hrl l (i + 1) m (s.put p (.lst [.int (u + b * (i + 2))])) _ (some (.int i)) (some (.int b)) (some (.int 0)) hd (by simpa [ty1, ty2, ty3, ty4, ty5, ty6, ty7, ty8, ty9, ty10, ty11, ty12, ty13, ty14, ty15, ty16, ty17, ty18, ty19, ty20, ty21, ty22, ty23, ty24, ty25, xcs, xc_asg, xc_par, xc_ex, xc_ite, xc_ret, xc_rai, xc_brk, xc_pass, ev, evs, asg, asgs, evo, rowOf, ofR, _root_.TR.R.bind, opD, opI, fin, gc_self, tru, truth, _root_.TR.R.ofO, Kc.d, mulOk_lt, mulOk_lt2, isaAny, isaD, permA, permD, cmD, cmI, runF, put_get, new_get, xc_whL, xc_fr, evi, srcOf, frL_fix, b1V, b1D_tuple, b1D_len, b1D_list, b1D_sum, b1D_min, b1D_max, biD, b1D_allT, lawT_con, lawCon, ixD, plc, frL_zip, srcZ_tt, eqD_bl, eqD_str, eqD_2, nox_ok, xc_tr, xh] using hm) (put_get _ _ _) ((put_get_ne _ _ hpq).trans hq) (hL.put hpl _) hpl
    refine ⟨u', f3', f4', f5', s', ?_, h3, h4, h5⟩
    unfold loopF
    simp only [nxt, hq, h2]
    simp only [nxt] at h1
    rw [cellsB0 k i b u p s f0 f3 f4 f5 hz m1 hp]
    exact h1
theorem P_cells (k : Nat) (ns : List Int) (h : ns.length ≤ 63) (s : Sto) (hL : Low s) : ∃ p u s', Phi lawT W31 (k + 1) 311 [scrI ns, .int 1] s = .ok (.ref p) s' ∧ s'.get p = some (.lst [.int u]) ∧ p < s'.next ∧ Low s' := by
  have hc1 : cut (ns.map D.int) none (some 1) = I (ns.take 1) := by
    unfold cut clp I
    simp [ty1, ty2, ty3, ty4, ty5, ty6, ty7, ty8, ty9, ty10, ty11, ty12, ty13, ty14, ty15, ty16, ty17, ty18, ty19, ty20, ty21, ty22, ty23, ty24, ty25, xcs, xc_asg, xc_par, xc_ex, xc_ite, xc_ret, xc_rai, xc_brk, xc_pass, ev, evs, asg, asgs, evo, rowOf, ofR, _root_.TR.R.bind, opD, opI, fin, gc_self, tru, truth, _root_.TR.R.ofO, Kc.d, mulOk_lt, mulOk_lt2, isaAny, isaD, permA, permD, cmD, cmI, runF, put_get, new_get, xc_whL, xc_fr, evi, srcOf, frL_fix, b1V, b1D_tuple, b1D_len, b1D_list, b1D_sum, b1D_min, b1D_max, biD, b1D_allT, lawT_con, lawCon, ixD, plc, frL_zip, srcZ_tt, eqD_bl, eqD_str, eqD_2, nox_ok, xc_tr, xh]
  have hc2 : ∃ rest : List Int, cut (ns.map D.int) (some 1) (some 63) = I rest ∧ rest.length ≤ 63 ∧ (ns.length ≤ 1 → rest = []) := by
    refine ⟨((ns.take (min 63 ns.length)).drop (min 1 ns.length)), ?_, by simp [ty1, ty2, ty3, ty4, ty5, ty6, ty7, ty8, ty9, ty10, ty11, ty12, ty13, ty14, ty15, ty16, ty17, ty18, ty19, ty20, ty21, ty22, ty23, ty24, ty25, xcs, xc_asg, xc_par, xc_ex, xc_ite, xc_ret, xc_rai, xc_brk, xc_pass, ev, evs, asg, asgs, evo, rowOf, ofR, _root_.TR.R.bind, opD, opI, fin, gc_self, tru, truth, _root_.TR.R.ofO, Kc.d, mulOk_lt, mulOk_lt2, isaAny, isaD, permA, permD, cmD, cmI, runF, put_get, new_get, xc_whL, xc_fr, evi, srcOf, frL_fix, b1V, b1D_tuple, b1D_len, b1D_list, b1D_sum, b1D_min, b1D_max, biD, b1D_allT, lawT_con, lawCon, ixD, plc, frL_zip, srcZ_tt, eqD_bl, eqD_str, eqD_2, nox_ok, xc_tr, xh]; omega, fun h2 => ?_⟩
    · unfold cut clp I
      simp [ty1, ty2, ty3, ty4, ty5, ty6, ty7, ty8, ty9, ty10, ty11, ty12, ty13, ty14, ty15, ty16, ty17, ty18, ty19, ty20, ty21, ty22, ty23, ty24, ty25, xcs, xc_asg, xc_par, xc_ex, xc_ite, xc_ret, xc_rai, xc_brk, xc_pass, ev, evs, asg, asgs, evo, rowOf, ofR, _root_.TR.R.bind, opD, opI, fin, gc_self, tru, truth, _root_.TR.R.ofO, Kc.d, mulOk_lt, mulOk_lt2, isaAny, isaD, permA, permD, cmD, cmI, runF, put_get, new_get, xc_whL, xc_fr, evi, srcOf, frL_fix, b1V, b1D_tuple, b1D_len, b1D_list, b1D_sum, b1D_min, b1D_max, biD, b1D_allT, lawT_con, lawCon, ixD, plc, frL_zip, srcZ_tt, eqD_bl, eqD_str, eqD_2, nox_ok, xc_tr, xh]
    · apply List.drop_eq_nil_of_le
      simp [ty1, ty2, ty3, ty4, ty5, ty6, ty7, ty8, ty9, ty10, ty11, ty12, ty13, ty14, ty15, ty16, ty17, ty18, ty19, ty20, ty21, ty22, ty23, ty24, ty25, xcs, xc_asg, xc_par, xc_ex, xc_ite, xc_ret, xc_rai, xc_brk, xc_pass, ev, evs, asg, asgs, evo, rowOf, ofR, _root_.TR.R.bind, opD, opI, fin, gc_self, tru, truth, _root_.TR.R.ofO, Kc.d, mulOk_lt, mulOk_lt2, isaAny, isaD, permA, permD, cmD, cmI, runF, put_get, new_get, xc_whL, xc_fr, evi, srcOf, frL_fix, b1V, b1D_tuple, b1D_len, b1D_list, b1D_sum, b1D_min, b1D_max, biD, b1D_allT, lawT_con, lawCon, ixD, plc, frL_zip, srcZ_tt, eqD_bl, eqD_str, eqD_2, nox_ok, xc_tr, xh]; omega
  obtain ⟨rest, hc2, hrl, hr0⟩ := hc2
  have hrl' := hrl
  have hnil : ∀ (s : Sto) (q m : Nat) (f : Fr), s.get q = some (.lst (I [])) → frL k (.t [(.n 3), (.n 4)]) [.asg (.n 5) (.op .mod (.bi .int [(.v 3)]) (.v 1)), .asg (.s (.v 2) (.v 5)) (.op .add (.ix (.v 2) (.v 5)) (.op .mul (.v 4) (.op .add (.v 3) (.c (.int 2)))))] (.en (.lv q), m) f s = .nx f s := fun s q m f hq => by
    unfold frL loopF
    have e : (I [])[0]? = none := rfl
    simp only [nxt, hq, e]
  have hsrc : ∀ (s : Sto) (q : Nat) (xs : List D), s.get q = some (.lst xs) → srcE s (.ref q) = some (.lv q, SZ) := fun s q xs hq => srcE_lst hq
  have hZ : 63 ≤ SZ := by unfold SZ; omega
  have hgc : ∀ (p : Nat) (s s' : Sto), gc (pure1 (.ref p)) s s' = s' := fun p s s' => rfl
  unfold scrI
  match ns, h, hc1, hr0 with
  | [], _, hc1, hr0 =>
    have hr := hr0 (by simp [ty1, ty2, ty3, ty4, ty5, ty6, ty7, ty8, ty9, ty10, ty11, ty12, ty13, ty14, ty15, ty16, ty17, ty18, ty19, ty20, ty21, ty22, ty23, ty24, ty25, xcs, xc_asg, xc_par, xc_ex, xc_ite, xc_ret, xc_rai, xc_brk, xc_pass, ev, evs, asg, asgs, evo, rowOf, ofR, _root_.TR.R.bind, opD, opI, fin, gc_self, tru, truth, _root_.TR.R.ofO, Kc.d, mulOk_lt, mulOk_lt2, isaAny, isaD, permA, permD, cmD, cmI, runF, put_get, new_get, xc_whL, xc_fr, evi, srcOf, frL_fix, b1V, b1D_tuple, b1D_len, b1D_list, b1D_sum, b1D_min, b1D_max, biD, b1D_allT, lawT_con, lawCon, ixD, plc, frL_zip, srcZ_tt, eqD_bl, eqD_str, eqD_2, nox_ok, xc_tr, xh])
    subst hr
    have e0 : I (([] : List Int).take 1) = [] := rfl
    rw [e0] at hc1
    have g1 : (s.new (.lst [])).get s.next = some (.lst []) := new_get _ _
    have g2 : ((s.new (.lst [])).new (.lst [])).get (s.next + 1) = some (.lst []) := new_getn1 _ _ _
    have g3 := new_get (((s.new (.lst [])).new (.lst [])).new (.lst [.int 0])) (.lst (I []))
    have hs := hsrc _ _ _ g3
    simp only [new_next] at g3 hs
    refine ⟨s.next + 1 + 1, 0, (((s.new (.lst [])).new (.lst [])).new (.lst [.int 0])).new (.lst (I [])), ?_, get_up (new_get ((s.new _).new _) _) (by simp only [new_next]; omega), by simp only [new_next]; omega, (((hL.new _).new _).new _).new _⟩
    rw [Phi_step k 311 _ _ _ rfl]
    generalize SZ = Z at *
    generalize ([] : List Int).map D.int = R0 at *
    simp (implicitDefEqProofs := false) [c_k55__law_cells, slD, hc1, hc2, g1, g2, new_next, hs, hnil _ _ _ _ g3, hgc, ty1, ty2, ty3, ty4, ty5, ty6, ty7, ty8, ty9, ty10, ty11, ty12, ty13, ty14, ty15, ty16, ty17, ty18, ty19, ty20, ty21, ty22, ty23, ty24, ty25, xcs, xc_asg, xc_par, xc_ex, xc_ite, xc_ret, xc_rai, xc_brk, xc_pass, ev, evs, asg, asgs, evo, rowOf, ofR, _root_.TR.R.bind, opD, opI, fin, gc_self, tru, truth, _root_.TR.R.ofO, Kc.d, mulOk_lt, mulOk_lt2, isaAny, isaD, permA, permD, cmD, cmI, runF, put_get, new_get, xc_whL, xc_fr, evi, srcOf, frL_fix, b1V, b1D_tuple, b1D_len, b1D_list, b1D_sum, b1D_min, b1D_max, biD, b1D_allT, lawT_con, lawCon, ixD, plc, frL_zip, srcZ_tt, eqD_bl, eqD_str, eqD_2, nox_ok, xc_tr, xh]
  | x :: t, h, hc1, hr0 =>
    have e0 : I ((x :: t).take 1) = [.int x] := rfl
    rw [e0] at hc1
    have g1 : (s.new (.lst [.int x])).get s.next = some (.lst [.int x]) := new_get _ _
    have g2 : ((s.new (.lst [.int x])).new (.lst [.int x])).get (s.next + 1) = some (.lst [.int x]) := new_getn1 _ _ _
    have g3 := new_get ((s.new (.lst [.int x])).new (.lst [.int x])) (.lst (I rest))
    have hs := hsrc _ _ _ g3
    simp only [new_next] at g3 hs
    have g4 : (((s.new (.lst [.int x])).new (.lst [.int x])).new (.lst (I rest))).get (s.next + 1) = some (.lst [.int x]) := get_up g2 (by simp only [new_next]; omega)
    obtain ⟨u, f3, f4, f5, s', h1, h2, h3, h6⟩ := cells_loop k (some (.rol ((x :: t).map D.int))) (some (.int 1)) (s.next + 1) (s.next + 1 + 1) (by omega) rest hrl rest 0 SZ _ x none none none rfl (by omega) g4 g3 (((hL.new _).new _).new _) (by simp only [new_next]; omega)
    have hfr : frL k (.t [(.n 3), (.n 4)]) [.asg (.n 5) (.op .mod (.bi .int [(.v 3)]) (.v 1)), .asg (.s (.v 2) (.v 5)) (.op .add (.ix (.v 2) (.v 5)) (.op .mul (.v 4) (.op .add (.v 3) (.c (.int 2)))))] (.en (.lv (s.next + 1 + 1)), SZ) [some (.rol ((x :: t).map D.int)), some (.int 1), some (.ref (s.next + 1)), none, none, none] (((s.new (.lst [.int x])).new (.lst [.int x])).new (.lst (I rest))) = _ := h1
    simp only [new_next] at h3
    refine ⟨s.next + 1, u, s', ?_, h2, by omega, h6⟩
    rw [Phi_step k 311 _ _ _ rfl]
    clear h1
    generalize SZ = Z at *
    generalize (x :: t).map D.int = R0 at *
    simp (implicitDefEqProofs := false) [c_k55__law_cells, slD, hc1, hc2, g1, g2, new_next, hs, hfr, hgc, ty1, ty2, ty3, ty4, ty5, ty6, ty7, ty8, ty9, ty10, ty11, ty12, ty13, ty14, ty15, ty16, ty17, ty18, ty19, ty20, ty21, ty22, ty23, ty24, ty25, xcs, xc_asg, xc_par, xc_ex, xc_ite, xc_ret, xc_rai, xc_brk, xc_pass, ev, evs, asg, asgs, evo, rowOf, ofR, _root_.TR.R.bind, opD, opI, fin, gc_self, tru, truth, _root_.TR.R.ofO, Kc.d, mulOk_lt, mulOk_lt2, isaAny, isaD, permA, permD, cmD, cmI, runF, put_get, new_get, xc_whL, xc_fr, evi, srcOf, frL_fix, b1V, b1D_tuple, b1D_len, b1D_list, b1D_sum, b1D_min, b1D_max, biD, b1D_allT, lawT_con, lawCon, ixD, plc, frL_zip, srcZ_tt, eqD_bl, eqD_str, eqD_2, nox_ok, xc_tr, xh]
end TR.K55
set_option autoImplicit false
set_option linter.all false
set_option maxRecDepth 100000
namespace TR.K55
/-! ### the law's first half -/
theorem get_below (σ : Sf) (S0 : Sto) {a : Nat} (h : a < σ.n) : (shS σ S0).get a = look a σ.old := by
  show look a (S0.log.map (shE σ.n) ++ σ.old) = _
  induction S0.log with
  | nil => rfl
  | cons e l ih =>
    show cond (Nat.beq (e.1 + σ.n) a) _ _ = _
    have : Nat.beq (e.1 + σ.n) a = false := by
      cases q : Nat.beq (e.1 + σ.n) a with
      | false => rfl
      | true => have := Nat.eq_of_beq_eq_true q; omega
    rw [this]
    exact ih
theorem _root_.TR.Low.sh {s S0 : Sto} (hs : Low s) (h0 : Low S0) : Low (shS (sfOf s hs) S0) := fun e he => by
  rcases List.mem_append.mp he with he | he
  · obtain ⟨e0, h1, rfl⟩ := List.mem_map.mp he
    have := h0 e0 h1
    show e0.1 + s.next < S0.next + s.next
    omega
  · have := hs e he
    show e.1 < S0.next + s.next
    omega
theorem pureL_all : ∀ ds : List D, (∀ x ∈ ds, pure1 x = true) → pureL ds = true
  | [], _ => rfl
  | d :: ds, h => by show (pure1 d && pureL ds) = true; rw [h d List.mem_cons_self, pureL_all ds fun x hx => h x (List.mem_cons_of_mem _ hx)]; rfl
theorem first_half (ns : List Int) (h : ns.length ≤ 63) (s : Sto) (hL : Low s) (fr : Fr) : ∃ a s', xcs (Mk 79) (c_k55_law.body.take 2) (some (scrI ns) :: none :: fr) s = .nx (some (scrI ns) :: some (.ref a) :: fr) s' ∧ Low s' := by
  obtain ⟨p, u, s1, e1, g1, l1, L1⟩ := P_cells 78 ns h s hL
  obtain ⟨s2, e2, t2, x2, L2'⟩ := P_boxL 78 s1 p [u] l1 g1 0 (by simp [ty1, ty2, ty3, ty4, ty5, ty6, ty7, ty8, ty9, ty10, ty11, ty12, ty13, ty14, ty15, ty16, ty17, ty18, ty19, ty20, ty21, ty22, ty23, ty24, ty25, xcs, xc_asg, xc_par, xc_ex, xc_ite, xc_ret, xc_rai, xc_brk, xc_pass, ev, evs, asg, asgs, evo, rowOf, ofR, _root_.TR.R.bind, opD, opI, fin, gc_self, tru, truth, _root_.TR.R.ofO, Kc.d, mulOk_lt, mulOk_lt2, isaAny, isaD, permA, permD, cmD, cmI, runF, put_get, new_get, xc_whL, xc_fr, evi, srcOf, frL_fix, b1V, b1D_tuple, b1D_len, b1D_list, b1D_sum, b1D_min, b1D_max, biD, b1D_allT, lawT_con, lawCon, ixD, plc, frL_zip, srcZ_tt, eqD_bl, eqD_str, eqD_2, nox_ok, xc_tr, xh]) (by omega)
  have L2 := L2' L1
  obtain ⟨q, S0, rows, hr, LS, hq, gq, rl, rk⟩ := placesB_ok places_all
  have e3 := sh_call (ds := []) rfl hr s2 L2
  have L3 : Low (shS (sfOf s2 L2) S0) := Low.sh L2 LS
  have gq3 : (shS (sfOf s2 L2) S0).get (q + s2.next) = some (.lst (shL s2.next rows)) := by
    have := get_sh (sfOf s2 L2) S0 q
    rw [gq] at this
    exact this
  have n3 : (shS (sfOf s2 L2) S0).next = S0.next + s2.next := rfl
  have old3 : ∀ b, b < s2.next → (shS (sfOf s2 L2) S0).get b = s2.get b := fun b hb => get_below (sfOf s2 L2) S0 hb
  obtain ⟨ta, x, y, z, tg, y0, y1, z0, z1⟩ := t2
  have t3 : Tin (shS (sfOf s2 L2) S0) s1.next 0 := ⟨by rw [n3]; omega, x, y, z, (old3 _ ta).trans tg, y0, y1, z0, z1⟩
  have sl : ∀ (l : List D) n, (shL n l).length = l.length := fun l n => shL_len l
  obtain ⟨fs, s4, e4, g4, P4, fl4, L4, n4, k4⟩ := P_pick 77 (shS (sfOf s2 L2) S0) s1.next 0 (q + s2.next) (shL s2.next rows) t3 (by omega) L3 (by rw [n3]; omega) (by omega) gq3 (by rw [sl]; exact rl)
    (fun d => ∃ d0 ∈ rows, d = shD s2.next d0) (fun d hd => by
      rw [shL_map] at hd
      obtain ⟨d0, h1, h2⟩ := List.mem_map.mp hd
      exact ⟨d0, h1, h2.symm⟩)
  rw [n3] at e4 g4 n4
  have hin : ∀ d ∈ fs, RowIn s4 d := fun d hd => by
    obtain ⟨d0, h1, rfl⟩ := P4 d hd
    obtain ⟨f, goods, i, b, bads, rfl, r1, r2, r3, r4, r5, r6, r7, r8⟩ := (rk d0 h1).ex
    have pb : pureL bads = true := pureL_all bads fun x hx => (r8 x hx).1
    refine ⟨f, goods, i, b + s2.next, bads, ?_, r1, r2, r3, r4, by omega, ?_, r7, r8⟩
    · show D.tup [.fn f, .tup (shL s2.next goods), .int i, .ref (b + s2.next)] = _
      rw [shL_pure goods r1]
    · rw [k4 (b + s2.next) (by rw [n3]; omega) (by omega)]
      have := get_sh (sfOf s2 L2) S0 b
      rw [r6] at this
      rw [show (shS (sfOf s2 L2) S0).get (b + s2.next) = _ from this]
      show some (Cell.lst (shL s2.next bads)) = _
      rw [shL_pure bads pb]
  obtain ⟨s5, e5, k5⟩ := P_none s4 (S0.next + s2.next + 1) fs L4 (by omega) g4 fl4 hin
  refine ⟨s1.next, s5, ?_, k5.1⟩
  have b1 : xc (Mk 79) (c_k55_law.body.getD 0 .pass) (some (scrI ns) :: none :: fr) s = .nx (some (scrI ns) :: some (.ref s1.next) :: fr) s2 := by
    show xc (Mk 79) (.asg (.n 1) (.call 309 [] [(.call 311 [] [(.v 0), (.c (.int 1))]), (.c (.int 0))])) _ _ = _
    generalize scrI ns = Q at *
    have e2' : Phi lawT W31 79 309 [.ref p, .int 0] s1 = .ok (.ref s1.next) s2 := e2
    simp [e1, e2', ty1, ty2, ty3, ty4, ty5, ty6, ty7, ty8, ty9, ty10, ty11, ty12, ty13, ty14, ty15, ty16, ty17, ty18, ty19, ty20, ty21, ty22, ty23, ty24, ty25, xcs, xc_asg, xc_par, xc_ex, xc_ite, xc_ret, xc_rai, xc_brk, xc_pass, ev, evs, asg, asgs, evo, rowOf, ofR, _root_.TR.R.bind, opD, opI, fin, gc_self, tru, truth, _root_.TR.R.ofO, Kc.d, mulOk_lt, mulOk_lt2, isaAny, isaD, permA, permD, cmD, cmI, runF, put_get, new_get, xc_whL, xc_fr, evi, srcOf, frL_fix, b1V, b1D_tuple, b1D_len, b1D_list, b1D_sum, b1D_min, b1D_max, biD, b1D_allT, lawT_con, lawCon, ixD, plc, frL_zip, srcZ_tt, eqD_bl, eqD_str, eqD_2, nox_ok, xc_tr, xh]
  have b2 : xc (Mk 79) (c_k55_law.body.getD 1 .pass) (some (scrI ns) :: some (.ref s1.next) :: fr) s2 = .nx (some (scrI ns) :: some (.ref s1.next) :: fr) s5 := by
    show xc (Mk 79) (.ite (.not (.call 316 [] [(.f 317), (.call 312 [] [(.v 1), (.call 318 [] []), (.c (.int 99))])])) [.ret (.c (.bl false))] []) _ _ = _
    generalize scrI ns = Q at *
    have e3' : Phi lawT W31 79 318 [] s2 = .ok (.ref (q + s2.next)) (shS (sfOf s2 L2) S0) := e3
    have e4' : Phi lawT W31 79 312 [.ref s1.next, .ref (q + s2.next), .int 99] (shS (sfOf s2 L2) S0) = .ok (.ref (S0.next + s2.next + 1)) s4 := e4
    generalize shS (sfOf s2 L2) S0 = S3 at *
    simp [e3', e4', e5, ty1, ty2, ty3, ty4, ty5, ty6, ty7, ty8, ty9, ty10, ty11, ty12, ty13, ty14, ty15, ty16, ty17, ty18, ty19, ty20, ty21, ty22, ty23, ty24, ty25, xcs, xc_asg, xc_par, xc_ex, xc_ite, xc_ret, xc_rai, xc_brk, xc_pass, ev, evs, asg, asgs, evo, rowOf, ofR, _root_.TR.R.bind, opD, opI, fin, gc_self, tru, truth, _root_.TR.R.ofO, Kc.d, mulOk_lt, mulOk_lt2, isaAny, isaD, permA, permD, cmD, cmI, runF, put_get, new_get, xc_whL, xc_fr, evi, srcOf, frL_fix, b1V, b1D_tuple, b1D_len, b1D_list, b1D_sum, b1D_min, b1D_max, biD, b1D_allT, lawT_con, lawCon, ixD, plc, frL_zip, srcZ_tt, eqD_bl, eqD_str, eqD_2, nox_ok, xc_tr, xh]
  have hb : c_k55_law.body.take 2 = [c_k55_law.body.getD 0 .pass, c_k55_law.body.getD 1 .pass] := rfl
  rw [hb, xcs_nx b1, xcs_nx b2]
  rfl
/-! ### cells made one after another -/
def news (s : Sto) : List Cell → Sto
  | [] => s
  | c :: cs => news (s.new c) cs
theorem news_keep : ∀ (cs : List Cell) (s : Sto) (b : Nat), b < s.next → (news s cs).get b = s.get b
  | [], _, _, _ => rfl
  | c :: cs, s, b, h => (news_keep cs (s.new c) b (Nat.lt_succ_of_lt h)).trans (new_get_ne s c (by omega))
theorem news_get : ∀ (cs : List Cell) (s : Sto) (i : Nat) (c : Cell), cs[i]? = some c → (news s cs).get (s.next + i) = some c
  | [], _, _, _, h => by simp [ty1, ty2, ty3, ty4, ty5, ty6, ty7, ty8, ty9, ty10, ty11, ty12, ty13, ty14, ty15, ty16, ty17, ty18, ty19, ty20, ty21, ty22, ty23, ty24, ty25, xcs, xc_asg, xc_par, xc_ex, xc_ite, xc_ret, xc_rai, xc_brk, xc_pass, ev, evs, asg, asgs, evo, rowOf, ofR, _root_.TR.R.bind, opD, opI, fin, gc_self, tru, truth, _root_.TR.R.ofO, Kc.d, mulOk_lt, mulOk_lt2, isaAny, isaD, permA, permD, cmD, cmI, runF, put_get, new_get, xc_whL, xc_fr, evi, srcOf, frL_fix, b1V, b1D_tuple, b1D_len, b1D_list, b1D_sum, b1D_min, b1D_max, biD, b1D_allT, lawT_con, lawCon, ixD, plc, frL_zip, srcZ_tt, eqD_bl, eqD_str, eqD_2, nox_ok, xc_tr, xh] at h
  | d :: cs, s, 0, c, h => by
    have h : some d = some c := h
    cases h
    exact (news_keep cs (s.new d) _ (Nat.lt_succ_self _)).trans (new_get s d)
  | d :: cs, s, i + 1, c, h => by
    have := news_get cs (s.new d) i c (by simpa [ty1, ty2, ty3, ty4, ty5, ty6, ty7, ty8, ty9, ty10, ty11, ty12, ty13, ty14, ty15, ty16, ty17, ty18, ty19, ty20, ty21, ty22, ty23, ty24, ty25, xcs, xc_asg, xc_par, xc_ex, xc_ite, xc_ret, xc_rai, xc_brk, xc_pass, ev, evs, asg, asgs, evo, rowOf, ofR, _root_.TR.R.bind, opD, opI, fin, gc_self, tru, truth, _root_.TR.R.ofO, Kc.d, mulOk_lt, mulOk_lt2, isaAny, isaD, permA, permD, cmD, cmI, runF, put_get, new_get, xc_whL, xc_fr, evi, srcOf, frL_fix, b1V, b1D_tuple, b1D_len, b1D_list, b1D_sum, b1D_min, b1D_max, biD, b1D_allT, lawT_con, lawCon, ixD, plc, frL_zip, srcZ_tt, eqD_bl, eqD_str, eqD_2, nox_ok, xc_tr, xh] using h)
    rw [show s.next + (i + 1) = (s.new d).next + i by show _ = s.next + 1 + i; omega]
    exact this
end TR.K55
set_option autoImplicit false
set_option linter.all false
set_option maxRecDepth 100000
namespace TR.K55
def wMany : PySem.Str := strOf [109, 97, 110, 121]
def mC : Cell := .lst [.str wMany, .bl true]
theorem m1 : markB wMany (Phi lawT W31 79 317 [.fn 268, .tup [.tup [.tup [.int 1, .int 30, .int 0, .int 1], .tup [.int 1, .int 1, .int 0, .int 1]]]] ⟨0, []⟩) = true := by decide +kernel
theorem m2 : markB wMany (Phi lawT W31 79 317 [.fn 268, .tup [.tup [.tup [.int 1, .int 61, .int 0, .int 1]]]] ⟨0, []⟩) = true := by decide +kernel
set_option maxHeartbeats 0 in
theorem m3 : markB wMany (Phi lawT W31 79 317 [.fn 274, .tup [.tup [.tup [.int 1, .int 1, .int 0, .int 1], .tup [.int 1, .int 0, .int 1, .int 1], .tup [.int 2, .int 1, .int 1, .int 1], .tup [.int 0, .int (-1), .int 1, .int 0], .tup [.int 0, .int (-1), .int 1, .int 1]]]] ⟨0, []⟩) = true := by decide +kernel
theorem m4 : markB wMany (Phi lawT W31 79 317 [.fn 299, .tup [.tup [.int 1, .tup [.int 0], .tup []], .tup [.int 1, .int 500], .tup [.int 1, .int 0], .bl false]] ⟨0, []⟩) = true := by decide +kernel
theorem m5 : markB wMany (Phi lawT W31 79 317 [.fn 308, .tup [.tup [.int 1, .tup [.int 0], .tup []], .tup [.int 1, .int 500]]] ⟨0, []⟩) = true := by decide +kernel
end TR.K55
set_option autoImplicit false
set_option linter.all false
set_option maxRecDepth 100000
namespace TR.K55
theorem same_marks {s : Sto} {p q : Nat} (hp : s.get p = some mC) (hq : s.get q = some mC) : Same 78 s (.ref p) (.ref q) := by
  refine Same_lst (k := 77) hp hq rfl (by show 2 ≤ 100000; omega) fun x y h => ?_
  simp only [List.zip_cons_cons, List.zip_nil_right, List.mem_cons, List.not_mem_nil, or_false, Prod.mk.injEq] at h
  rcases h with ⟨rfl, rfl⟩ | ⟨rfl, rfl⟩
  · exact Same_str 76 _ _
  · exact Same_bl 76 _ _
theorem tail (s : Sto) (hL : Low s) (f0 f1 : Option D) : ∃ s', xcs (Mk 79) (c_k55_law.body.drop 2) [f0, f1, none, none, none] s = .rt (.bl true) s' := by
  have p1 := mark_call (by rfl) m1 s hL
  have p2 := mark_call (by rfl) m2 (news s [mC]) (hL.new _)
  have p3 := mark_call (by rfl) m3 (news s [mC, mC]) ((hL.new _).new _)
  have p4 := mark_call (by rfl) m4 (news s [mC, mC, mC, .lst [.ref s.next, .ref (s.next + 1), .ref (s.next + 1 + 1)]]) ((((hL.new _).new _).new _).new _)
  have p5 := mark_call (by rfl) m5 (news s [mC, mC, mC, .lst [.ref s.next, .ref (s.next + 1), .ref (s.next + 1 + 1)], mC]) (((((hL.new _).new _).new _).new _).new _)
  have hmC : Cell.lst [.str wMany, .bl true] = mC := rfl
  rw [hmC] at p1 p2 p3 p4 p5
  have b3 : xc (Mk 79) (c_k55_law.body.getD 3 .pass) [f0, f1, some (.tup [.int 1, .int 1, .int 0, .int 1]), some (.tup [.int 1, .int 30, .int 0, .int 1]), none] s = .nx [f0, f1, some (.tup [.int 1, .int 1, .int 0, .int 1]), some (.tup [.int 1, .int 30, .int 0, .int 1]), some (.ref (s.next + 1 + 1 + 1))] (news s [mC, mC, mC, .lst [.ref s.next, .ref (s.next + 1), .ref (s.next + 1 + 1)]]) := by
    simp only [c_k55_law, List.getD_cons_succ, List.getD_cons_zero]
    simp only [news] at p1 p2 p3 ⊢
    simp [p1, p2, p3, new_next, ty1, ty2, ty3, ty4, ty5, ty6, ty7, ty8, ty9, ty10, ty11, ty12, ty13, ty14, ty15, ty16, ty17, ty18, ty19, ty20, ty21, ty22, ty23, ty24, ty25, xcs, xc_asg, xc_par, xc_ex, xc_ite, xc_ret, xc_rai, xc_brk, xc_pass, ev, evs, asg, asgs, evo, rowOf, ofR, _root_.TR.R.bind, opD, opI, fin, gc_self, tru, truth, _root_.TR.R.ofO, Kc.d, mulOk_lt, mulOk_lt2, isaAny, isaD, permA, permD, cmD, cmI, runF, put_get, new_get, xc_whL, xc_fr, evi, srcOf, frL_fix, b1V, b1D_tuple, b1D_len, b1D_list, b1D_sum, b1D_min, b1D_max, biD, b1D_allT, lawT_con, lawCon, ixD, plc, frL_zip, srcZ_tt, eqD_bl, eqD_str, eqD_2, nox_ok, xc_tr, xh]
  have g4 : (news s [mC, mC, mC, .lst [.ref s.next, .ref (s.next + 1), .ref (s.next + 1 + 1)], mC, mC, .lst [.ref (s.next + 1 + 1 + 1 + 1), .ref (s.next + 1 + 1 + 1 + 1 + 1)]]).get (s.next + 1 + 1 + 1) = some (.lst [.ref s.next, .ref (s.next + 1), .ref (s.next + 1 + 1)]) := news_get _ s 3 _ rfl
  have g5 : (news s [mC, mC, mC, .lst [.ref s.next, .ref (s.next + 1), .ref (s.next + 1 + 1)], mC, mC, .lst [.ref (s.next + 1 + 1 + 1 + 1), .ref (s.next + 1 + 1 + 1 + 1 + 1)]]).get (s.next + 1 + 1 + 1 + 1 + 1 + 1) = some (.lst [.ref (s.next + 1 + 1 + 1 + 1), .ref (s.next + 1 + 1 + 1 + 1 + 1)]) := news_get _ s 6 _ rfl
  have k5 : catOk [D.ref s.next, .ref (s.next + 1), .ref (s.next + 1 + 1)] [.ref (s.next + 1 + 1 + 1 + 1), .ref (s.next + 1 + 1 + 1 + 1 + 1)] = true := catOk_le (by simp [ty1, ty2, ty3, ty4, ty5, ty6, ty7, ty8, ty9, ty10, ty11, ty12, ty13, ty14, ty15, ty16, ty17, ty18, ty19, ty20, ty21, ty22, ty23, ty24, ty25, xcs, xc_asg, xc_par, xc_ex, xc_ite, xc_ret, xc_rai, xc_brk, xc_pass, ev, evs, asg, asgs, evo, rowOf, ofR, _root_.TR.R.bind, opD, opI, fin, gc_self, tru, truth, _root_.TR.R.ofO, Kc.d, mulOk_lt, mulOk_lt2, isaAny, isaD, permA, permD, cmD, cmI, runF, put_get, new_get, xc_whL, xc_fr, evi, srcOf, frL_fix, b1V, b1D_tuple, b1D_len, b1D_list, b1D_sum, b1D_min, b1D_max, biD, b1D_allT, lawT_con, lawCon, ixD, plc, frL_zip, srcZ_tt, eqD_bl, eqD_str, eqD_2, nox_ok, xc_tr, xh])
  have b4 : xc (Mk 79) (c_k55_law.body.getD 4 .pass) [f0, f1, some (.tup [.int 1, .int 1, .int 0, .int 1]), some (.tup [.int 1, .int 30, .int 0, .int 1]), some (.ref (s.next + 1 + 1 + 1))] (news s [mC, mC, mC, .lst [.ref s.next, .ref (s.next + 1), .ref (s.next + 1 + 1)]]) = .nx [f0, f1, some (.tup [.int 1, .int 1, .int 0, .int 1]), some (.tup [.int 1, .int 30, .int 0, .int 1]), some (.ref (s.next + 1 + 1 + 1 + 1 + 1 + 1 + 1))] (news s [mC, mC, mC, .lst [.ref s.next, .ref (s.next + 1), .ref (s.next + 1 + 1)], mC, mC, .lst [.ref (s.next + 1 + 1 + 1 + 1), .ref (s.next + 1 + 1 + 1 + 1 + 1)], .lst [.ref s.next, .ref (s.next + 1), .ref (s.next + 1 + 1), .ref (s.next + 1 + 1 + 1 + 1), .ref (s.next + 1 + 1 + 1 + 1 + 1)]]) := by
    simp only [c_k55_law, List.getD_cons_succ, List.getD_cons_zero]
    simp only [news] at p4 p5 g4 g5 ⊢
    simp [p4, p5, g4, g5, k5, new_next, ty1, ty2, ty3, ty4, ty5, ty6, ty7, ty8, ty9, ty10, ty11, ty12, ty13, ty14, ty15, ty16, ty17, ty18, ty19, ty20, ty21, ty22, ty23, ty24, ty25, xcs, xc_asg, xc_par, xc_ex, xc_ite, xc_ret, xc_rai, xc_brk, xc_pass, ev, evs, asg, asgs, evo, rowOf, ofR, _root_.TR.R.bind, opD, opI, fin, gc_self, tru, truth, _root_.TR.R.ofO, Kc.d, mulOk_lt, mulOk_lt2, isaAny, isaD, permA, permD, cmD, cmI, runF, put_get, new_get, xc_whL, xc_fr, evi, srcOf, frL_fix, b1V, b1D_tuple, b1D_len, b1D_list, b1D_sum, b1D_min, b1D_max, biD, b1D_allT, lawT_con, lawCon, ixD, plc, frL_zip, srcZ_tt, eqD_bl, eqD_str, eqD_2, nox_ok, xc_tr, xh]
  generalize hL5 : ([.ref s.next, .ref (s.next + 1), .ref (s.next + 1 + 1), .ref (s.next + 1 + 1 + 1 + 1), .ref (s.next + 1 + 1 + 1 + 1 + 1)] : List D) = L5 at *
  let cs : List Cell := [mC, mC, mC, .lst [.ref s.next, .ref (s.next + 1), .ref (s.next + 1 + 1)], mC, mC, .lst [.ref (s.next + 1 + 1 + 1 + 1), .ref (s.next + 1 + 1 + 1 + 1 + 1)], .lst L5, mC, .lst [.ref (s.next + 8)], .lst [.ref (s.next + 8), .ref (s.next + 8), .ref (s.next + 8), .ref (s.next + 8), .ref (s.next + 8)]]
  have hS : Same 79 (news s cs) (.ref (s.next + 7)) (.ref (s.next + 10)) := by
    refine Same_lst (k := 78) (news_get cs s 7 _ rfl) (news_get cs s 10 _ rfl) (by rw [← hL5]; rfl) (by rw [← hL5]; show 5 ≤ 100000; omega) fun x y h => ?_
    rw [← hL5] at h
    simp only [List.zip_cons_cons, List.zip_nil_right, List.mem_cons, List.not_mem_nil, or_false, Prod.mk.injEq] at h
    rcases h with ⟨rfl, rfl⟩ | ⟨rfl, rfl⟩ | ⟨rfl, rfl⟩ | ⟨rfl, rfl⟩ | ⟨rfl, rfl⟩
    · exact same_marks (news_get cs s 0 _ rfl) (news_get cs s 8 _ rfl)
    · exact same_marks (news_get cs s 1 _ rfl) (news_get cs s 8 _ rfl)
    · exact same_marks (news_get cs s 2 _ rfl) (news_get cs s 8 _ rfl)
    · exact same_marks (news_get cs s 4 _ rfl) (news_get cs s 8 _ rfl)
    · exact same_marks (news_get cs s 5 _ rfl) (news_get cs s 8 _ rfl)
  unfold Same at hS
  have hk : repOk [D.ref (s.next + 8)] 5 = true := repOk_le (by omega) (by omega) (by simp [ty1, ty2, ty3, ty4, ty5, ty6, ty7, ty8, ty9, ty10, ty11, ty12, ty13, ty14, ty15, ty16, ty17, ty18, ty19, ty20, ty21, ty22, ty23, ty24, ty25, xcs, xc_asg, xc_par, xc_ex, xc_ite, xc_ret, xc_rai, xc_brk, xc_pass, ev, evs, asg, asgs, evo, rowOf, ofR, _root_.TR.R.bind, opD, opI, fin, gc_self, tru, truth, _root_.TR.R.ofO, Kc.d, mulOk_lt, mulOk_lt2, isaAny, isaD, permA, permD, cmD, cmI, runF, put_get, new_get, xc_whL, xc_fr, evi, srcOf, frL_fix, b1V, b1D_tuple, b1D_len, b1D_list, b1D_sum, b1D_min, b1D_max, biD, b1D_allT, lawT_con, lawCon, ixD, plc, frL_zip, srcZ_tt, eqD_bl, eqD_str, eqD_2, nox_ok, xc_tr, xh])
  have hr : rep 5 [D.ref (s.next + 8)] = [.ref (s.next + 8), .ref (s.next + 8), .ref (s.next + 8), .ref (s.next + 8), .ref (s.next + 8)] := rfl
  have h5 : (5 : Int).toNat = 5 := rfl
  have g9 : (news s [mC, mC, mC, .lst [.ref s.next, .ref (s.next + 1), .ref (s.next + 1 + 1)], mC, mC, .lst [.ref (s.next + 1 + 1 + 1 + 1), .ref (s.next + 1 + 1 + 1 + 1 + 1)], .lst L5, mC, .lst [.ref (s.next + 8)]]).get (s.next + 9) = some (.lst [.ref (s.next + 8)]) := news_get _ s 9 _ rfl
  have b5 : ev (Mk 79) (.call 313 [] [(.v 4), (.op .mul (.lst [(.lst [(.c (.str (strOf [109, 97, 110, 121]))), (.c (.bl true))])]) (.c (.int 5)))]) [f0, f1, some (.tup [.int 1, .int 1, .int 0, .int 1]), some (.tup [.int 1, .int 30, .int 0, .int 1]), some (.ref (s.next + 1 + 1 + 1 + 1 + 1 + 1 + 1))] (news s [mC, mC, mC, .lst [.ref s.next, .ref (s.next + 1), .ref (s.next + 1 + 1)], mC, mC, .lst [.ref (s.next + 1 + 1 + 1 + 1), .ref (s.next + 1 + 1 + 1 + 1 + 1)], .lst L5]) = .ok (.bl true) (news s cs) := by
    have hm : Cell.lst [.str (strOf [109, 97, 110, 121]), .bl true] = mC := rfl
    simp only [cs, news] at hS g9 ⊢
    simp [hm, g9, hk, hr, h5, new_next, hS, ty1, ty2, ty3, ty4, ty5, ty6, ty7, ty8, ty9, ty10, ty11, ty12, ty13, ty14, ty15, ty16, ty17, ty18, ty19, ty20, ty21, ty22, ty23, ty24, ty25, xcs, xc_asg, xc_par, xc_ex, xc_ite, xc_ret, xc_rai, xc_brk, xc_pass, ev, evs, asg, asgs, evo, rowOf, ofR, _root_.TR.R.bind, opD, opI, fin, gc_self, tru, truth, _root_.TR.R.ofO, Kc.d, mulOk_lt, mulOk_lt2, isaAny, isaD, permA, permD, cmD, cmI, runF, put_get, new_get, xc_whL, xc_fr, evi, srcOf, frL_fix, b1V, b1D_tuple, b1D_len, b1D_list, b1D_sum, b1D_min, b1D_max, biD, b1D_allT, lawT_con, lawCon, ixD, plc, frL_zip, srcZ_tt, eqD_bl, eqD_str, eqD_2, nox_ok, xc_tr, xh]
  have hd : c_k55_law.body.drop 2 = [c_k55_law.body.getD 2 .pass, c_k55_law.body.getD 3 .pass, c_k55_law.body.getD 4 .pass, .ret (.call 313 [] [(.v 4), (.op .mul (.lst [(.lst [(.c (.str (strOf [109, 97, 110, 121]))), (.c (.bl true))])]) (.c (.int 5)))])] := rfl
  rw [hd]
  refine ⟨news s cs, (xcs_nx (f' := [f0, f1, some (.tup [.int 1, .int 1, .int 0, .int 1]), some (.tup [.int 1, .int 30, .int 0, .int 1]), none]) (s' := s) ?_).trans ((xcs_nx b3).trans ((xcs_nx b4).trans (xcs_ret b5)))⟩
  simp only [c_k55_law, List.getD_cons_succ, List.getD_cons_zero]
  simp [ty1, ty2, ty3, ty4, ty5, ty6, ty7, ty8, ty9, ty10, ty11, ty12, ty13, ty14, ty15, ty16, ty17, ty18, ty19, ty20, ty21, ty22, ty23, ty24, ty25, xcs, xc_asg, xc_par, xc_ex, xc_ite, xc_ret, xc_rai, xc_brk, xc_pass, ev, evs, asg, asgs, evo, rowOf, ofR, _root_.TR.R.bind, opD, opI, fin, gc_self, tru, truth, _root_.TR.R.ofO, Kc.d, mulOk_lt, mulOk_lt2, isaAny, isaD, permA, permD, cmD, cmI, runF, put_get, new_get, xc_whL, xc_fr, evi, srcOf, frL_fix, b1V, b1D_tuple, b1D_len, b1D_list, b1D_sum, b1D_min, b1D_max, biD, b1D_allT, lawT_con, lawCon, ixD, plc, frL_zip, srcZ_tt, eqD_bl, eqD_str, eqD_2, nox_ok, xc_tr, xh]
theorem law_plain0 (ns : List Int) (h : ns.length ≤ 63) : ∃ m s, Phi lawT (whN m) 80 319 [.rol (ns.map D.int)] ⟨0, []⟩ = .ok (.bl true) s := by
  have low0 : Low ⟨0, []⟩ := fun e he => nomatch he
  obtain ⟨a, s1, e1, L1⟩ := first_half ns h ⟨0, []⟩ low0 [none, none, none]
  obtain ⟨s2, e2⟩ := tail s1 L1 (some (scrI ns)) (some (.ref a))
  refine ⟨NN, gc true ⟨0, []⟩ s2, ?_⟩
  have hx : xcs (Mk 79) c_k55_law.body [some (scrI ns), none, none, none, none] ⟨0, []⟩ = .rt (.bl true) s2 := by
    rw [← List.take_append_drop 2 c_k55_law.body, xcs_app, e1]
    exact e2
  show Phi lawT W31 (79 + 1) 319 [scrI ns] ⟨0, []⟩ = _
  rw [Phi_step 79 319 _ _ _ rfl]
  show fin _ (xcs (Mk 79) c_k55_law.body [some (scrI ns), none, none, none, none] ⟨0, []⟩) = _
  rw [hx]
  rfl
end TR.K55
set_option Elab.async false
set_option autoImplicit false
set_option linter.all false
set_option maxRecDepth 100000
set_option maxHeartbeats 0
namespace TR
open PySem PySem.W PySem.Calls PyProof.Rows
theorem lawOkB : (lawL.all fun p => scopeB p.2 && chkFn lawGl lawKw p.2) = true := by decide +kernel
theorem lawFnE : ∀ p ∈ lawL, lawT.fn p.1 = some p.2.c := by
  unfold lawL
  repeat' (first | refine List.forall_mem_cons.2 ⟨rfl, ?_⟩ | exact List.forall_mem_nil _)
theorem lawOk : lawLn.Ok := ⟨fun p hp => by
  have := List.all_eq_true.mp lawOkB p hp
  rw [Bool.and_eq_true] at this
  exact ⟨lawFnE p hp, this.1, this.2⟩, lawBd, lawBk⟩
theorem law_plain (ns : List Int) (h : ns.length ≤ 63) : ∃ m s, Phi lawT (whN m) 80 319 [scr ns] ⟨0, []⟩ = .ok (.bl true) s := K55.law_plain0 ns h
end TR
open PySem PySem.W PySem.Calls PyProof.Rows
theorem PySem.Challenge.cw_tableroads_k55_ways_and_pairs_refused_holds : PySem.Challenge.rw_tableroads_k55_ways_and_pairs_refused.Holds := by
  w_on; o_law
  refine HandSHeadRun.head_any (r := TR.Rw) (q := view TR.Rw.prog [140]) (H := TR.lawHk) (ob := TR.lawOb) (M := 12000) (loose := TR.lawLoose) (d := HandSHeadRun.topDef TR.Rw.prog 140) (kwd := []) TR.lawObEq
    (by kernel_rfl) (fun s => by kernel_rfl) TR.lawRun (by kernel_rfl) (by kernel_rfl) (by kernel_rfl) (by rfl) (by first | assumption | decide +kernel) (by decide +kernel) ⟨rfl, rfl, rfl, rfl, rfl, by decide +kernel⟩ ?hw ?hc
  case hw => w_witness2
  case hc => exact TR.Ln.walk TR.lawLn (lw := PySem.Challenge.rw_tableroads_k55_ways_and_pairs_refused) (n := 63) (k := 80) (f := 319) (x := "script") rfl (by decide) (by kernel_rfl) ⟨rfl, by decide, by decide⟩ (by kernel_rfl) TR.lawHg TR.lawOk (by kernel_rfl) (by kernel_rfl) TR.law_plain
